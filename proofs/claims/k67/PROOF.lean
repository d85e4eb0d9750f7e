import PyProof.Rows.All
import Wide.All
import OpenK.AllK
import Wide.FinOn
import HandS.ForMost
import HandS.Exc
import HandS.ExcOwn
import HandS.ExcIs
import HandS.IsInst
import HandS.Style
import HandS.Steps
import HandS.WordsExc
import HandS.Wide
import HandS.Codes
import PySem.Challenge.RW_sparetrees_k67_whole_counts_of_what_come
set_option Elab.async false
set_option linter.all false
set_option maxRecDepth 100000
set_option maxHeartbeats 4000000
namespace My
open PySem PySem.Spec PyProof.Rows L2
/-! promises by the number of arguments -/
abbrev Sp0 (F : Hp → VK → XK → Prop) : Sp := fun vs H Q E => vs = [] ∧ F H Q E
abbrev Sp1 (F : V → Hp → VK → XK → Prop) : Sp := fun vs H Q E => ∃ a, vs = [a] ∧ F a H Q E
abbrev Sp2 (F : V → V → Hp → VK → XK → Prop) : Sp := fun vs H Q E => ∃ a b, vs = [a, b] ∧ F a b H Q E
abbrev Sp3 (F : V → V → V → Hp → VK → XK → Prop) : Sp := fun vs H Q E => ∃ a b c, vs = [a, b, c] ∧ F a b c H Q E
abbrev Sp4 (F : V → V → V → V → Hp → VK → XK → Prop) : Sp := fun vs H Q E => ∃ a b c d, vs = [a, b, c, d] ∧ F a b c d H Q E
abbrev Sp5 (F : V → V → V → V → V → Hp → VK → XK → Prop) : Sp := fun vs H Q E => ∃ a b c d e, vs = [a, b, c, d, e] ∧ F a b c d e H Q E

/-! an own exception class without __init__, made with nothing -/
theorem pmk_own0 {X : Cx} {C : Addr} {bmB : List Value} {B newId initId : String} {x : Str} {p pos : Pos} (F : ExcBaseFacts B newId initId bmB) (q : PySem.W.excIn X.K C bmB newId = true) (gC : X.mg x = some (.ref C))
    (kC : PySem.W.keepIn X.K (.ref C) = true) (r : Raises X (.ref C)) (hg : Gl X x) (hdb : (x == ("__debug__" : Str)) = false := by decide) :
    PMk X (.Call (.Name x p) [] [] pos) (fun _ H Q => Q (.ref C) none H) := by
  intro pins s σ H Q I h
  refine wpAny_Call_Name_kw (ld_glob I hg gC ?_ hdb)
  refine PySem.W.callWith_K0 I.kIn kC ?_
  obtain ⟨bm, N, nm, qn, bs, hdct, sn, sub, ab, col, dd, k0, k1, k2, k3, k5, mN, hC, hN, hni, T⟩ := exc_obj I.kIn q
  exact wpAny_call_exc_subT F T hC hN hni (fun h' e hm => mk_of I hm r h (I.hok.gone hm.new)) (Nat.zero_le _)

/-- a def that may raise, called where it is known that it does not -/
theorem passF {X : Cx} : Passes (L2.CX X.prog X.w) X E0 := fun pins σ H s e s' I c => by
  obtain ⟨_, _, _, _, _, _, _, _, _, _, _, _, hE⟩ := c
  exact hE.elim
theorem at_some {xs : List V} {i : Int} (h0 : 0 ≤ i) (h1 : i < xs.length) : ∃ v, atI xs i = some v ∧ v ∈ xs := by
  obtain ⟨j, rfl⟩ : ∃ j : Nat, i = (j : Int) := ⟨i.toNat, by omega⟩
  have hj : j < xs.length := by omega
  exact ⟨xs[j], atI_nat (List.getElem?_eq_getElem hj), List.getElem_mem hj⟩
/-! what a thing is -/
inductive Kn where
  | non | bl | int | str | tup | lst | dic | own
  deriving DecidableEq
def Kn.is : Kn → String → Bool
  | .non, _ => false
  | .bl, n => n == "bool" || n == "int"
  | .int, n => n == "int"
  | .str, n => n == "str"
  | .tup, n => n == "tuple"
  | .lst, n => n == "list"
  | .dic, n => n == "dict"
  | .own, _ => false
inductive Th (K : PySem.W.Frag) (H : Hp) : V → Kn → Prop
  | non : Th K H .non .non
  | bl (b : Bool) : Th K H (.bl b) .bl
  | int (i : Int) : Th K H (.int i) .int
  | str (z : Str) : Th K H (.str z) .str
  | tup {a : Addr} {xs : List V} (h : H a = some (.tup xs)) : Th K H (.ref a) .tup
  | lst {a : Addr} {xs : List V} (h : H a = some (.lst xs)) : Th K H (.ref a) .lst
  | dK {a : Addr} {xs : List (Key × V)} (h : H a = some (.dK xs)) : Th K H (.ref a) .dic
  | dT {a : Addr} {xs : List (List Key × V)} (h : H a = some (.dT xs)) : Th K H (.ref a) .dic
  | own {a C dx : Addr} {fs : List (Str × V)} (h : H a = some (.ins C dx fs)) (t : TyX K H (.ref a) (.ref C)) (k : ∀ n ∈ ["int", "bool", "tuple", "list", "dict", "str"], PySem.W.kitOne K (.ref C) (.type n) = some false) : Th K H (.ref a) .own
theorem Th.mono {K : PySem.W.Frag} {H H' : Hp} {x : V} {k : Kn} (h : Th K H x k) (s : Same H H') (own : k ≠ .own) : Th K H' x k := by
  cases h with
  | non => exact .non
  | bl b => exact .bl b
  | int i => exact .int i
  | str z => exact .str z
  | tup h => exact .tup (s _ _ h)
  | lst h => exact .lst (s _ _ h)
  | dK h => exact .dK (s _ _ h)
  | dT h => exact .dT (s _ _ h)
  | own h t k => exact absurd rfl own
theorem Th.isi {K : PySem.W.Frag} {H : Hp} {x : V} {k : Kn} (h : Th K H x k) (n : String) (hn : n ∈ ["int", "bool", "tuple", "list", "dict", "str"]) : ∃ t, TyX K H x t ∧ PySem.W.kitOne K t (.type n) = some (k.is n) := by
  cases h with
  | non => exact ⟨_, .base .non, kit_ty (by revert hn; revert n; decide +kernel)⟩
  | bl b => exact ⟨_, .base (.bl b), kit_ty (by revert hn; revert n; decide +kernel)⟩
  | int i => exact ⟨_, .base (.int i), kit_ty (by revert hn; revert n; decide +kernel)⟩
  | str z => exact ⟨_, .base (.str z), kit_ty (by revert hn; revert n; decide +kernel)⟩
  | tup h => exact ⟨_, .base (.tup h), kit_ty (by revert hn; revert n; decide +kernel)⟩
  | lst h => exact ⟨_, .base (.lst h), kit_ty (by revert hn; revert n; decide +kernel)⟩
  | dK h => exact ⟨_, .base (.dK h), kit_ty (by revert hn; revert n; decide +kernel)⟩
  | dT h => exact ⟨_, .base (.dT h), kit_ty (by revert hn; revert n; decide +kernel)⟩
  | own h t k => exact ⟨_, t, k n hn⟩
/-- an int that is no flag -/
def isI : V → Bool
  | .int _ => true
  | _ => false
theorem Th.isI {K : PySem.W.Frag} {H : Hp} {x : V} {k : Kn} (h : Th K H x k) : (k.is "int" && !k.is "bool") = My.isI x := by
  cases h <;> rfl
def within (x : V) (lo hi : Int) : Bool := match x with
  | .int i => decide (lo ≤ i) && decide (i ≤ hi)
  | _ => false
theorem within_int {x : V} {lo hi : Int} (h : within x lo hi = true) : ∃ i, x = .int i ∧ lo ≤ i ∧ i ≤ hi := by
  cases x <;> simp only [within] at h <;> first | exact absurd h (by decide) | exact ⟨_, rfl, by simpa using h⟩

theorem iteN {b : Bool} {X Y : Prop} (h1 : b = false → X) (h2 : b = true → Y) : if (!b) = true then X else Y := by
  cases b with
  | false => exact h1 rfl
  | true => exact h2 rfl
theorem iteB {b : Bool} {X Y : Prop} (h1 : b = true → X) (h2 : b = false → Y) : if b = true then X else Y := by
  cases b with
  | false => exact h2 rfl
  | true => exact h1 rfl
theorem dec_intP {i j : Int} : decide (V.int i = V.int j) = decide (i = j) := by
  rw [dec_int]
  rfl
theorem ans_chainLt {σ : L2.St} {H : Hp} {ta tb tc : TE} {i j k : Int} (ha : Val ta σ H (.int i)) (hb : Val tb σ H (.int j)) (hc : Val tc σ H (.int k)) :
    Ans (tTest (tChain (rI0 fun i j => .bl (decide (i < j))) (rI0 fun i j => .bl (decide (i < j))) ta tb tc)) σ H (decide (i < j) && decide (j < k)) := by
  intro Q q
  refine ha _ (hb _ ⟨i, j, rfl, rfl, _, rfl, iteB (fun c => hc _ ⟨j, k, rfl, rfl, _, rfl, ?_⟩) (fun c => ⟨_, rfl, ?_⟩)⟩)
  · rw [c] at q
    exact q
  · rw [c] at q
    exact q
theorem at_int {ns : List Int} {i : Int} (h0 : 0 ≤ i) (h1 : i < ns.length) : ∃ c, atI (ns.map V.int) i = some (.int c) := by
  obtain ⟨j, rfl⟩ : ∃ j : Nat, i = (j : Int) := ⟨i.toNat, by omega⟩
  have hj : j < ns.length := by omega
  exact ⟨ns[j], atI_nat (by rw [List.getElem?_map, List.getElem?_eq_getElem hj]; rfl)⟩
theorem isI_int {x : V} (h : isI x = true) : ∃ i, x = .int i := by
  cases x <;> simp only [isI] at h <;> first | exact absurd h (by decide) | exact ⟨_, rfl⟩
theorem within_not {x : V} {lo hi : Int} (h : isI x = false) : within x lo hi = false := by
  cases x <;> simp only [isI] at h <;> first | rfl | exact absurd h (by decide)
theorem in_ints {n : Int} : ∀ {ns : List Int}, inV (.int n) (ns.map V.int) = ns.contains n
  | [] => rfl
  | a :: r => by
    have ih := in_ints (n := n) (ns := r)
    show (eqV (.int a) (.int n) || inV (.int n) (r.map V.int)) = _
    rw [ih, List.contains_cons]
    congr 1
    show decide (a = n) = (n == a)
    by_cases e : a = n
    · subst e
      simp
    · have e2 : ¬ n = a := fun z => e z.symm
      simp [e, e2]
theorem flat_ints : ∀ {ns : List Int}, (ns.map V.int).all flatV = true
  | [] => rfl
  | _ :: r => by
    rw [List.map_cons, List.all_cons, flat_ints (ns := r)]
    rfl
theorem within_mk {i lo hi : Int} (h1 : lo ≤ i) (h2 : i ≤ hi) : within (.int i) lo hi = true := by
  simp only [within, Bool.and_eq_true, decide_eq_true_eq]
  exact ⟨h1, h2⟩
/-- a flat thing or a tuple -/
def Tg (H : Hp) (x : V) : Prop := x = .non ∨ (∃ b, x = .bl b) ∨ (∃ i, x = .int i) ∨ (∃ z, x = .str z) ∨ ∃ a xs, x = .ref a ∧ H a = some (.tup xs)
theorem Tg.th {K : PySem.W.Frag} {H : Hp} {x : V} (h : Tg H x) : ∃ k, Th K H x k ∧ k ≠ .own := by
  rcases h with rfl | ⟨b, rfl⟩ | ⟨i, rfl⟩ | ⟨z, rfl⟩ | ⟨a, xs, rfl, e⟩
  · exact ⟨_, .non, by decide⟩
  · exact ⟨_, .bl b, by decide⟩
  · exact ⟨_, .int i, by decide⟩
  · exact ⟨_, .str z, by decide⟩
  · exact ⟨_, .tup e, by decide⟩
theorem Tg.int {H : Hp} (i : Int) : Tg H (.int i) := .inr (.inr (.inl ⟨i, rfl⟩))
theorem Tg.keep {H H' : Hp} {x : V} (h : Tg H x) (s : ∀ a xs, H a = some (.tup xs) → H' a = some (.tup xs)) : Tg H' x := by
  rcases h with h | h | h | h | ⟨a, xs, e, e2⟩
  · exact .inl h
  · exact .inr (.inl h)
  · exact .inr (.inr (.inl h))
  · exact .inr (.inr (.inr (.inl h)))
  · exact .inr (.inr (.inr (.inr ⟨a, xs, e, s _ _ e2⟩)))
/-! heaps -/
theorem Same.new {H : Hp} {p : Addr} {o : HO} (h : H p = none) : Same H (upd H p o) := fun b x e => by
  rw [upd_ne (ne_of_none e h)]
  exact e
/-- all stands as it was but what stands at d -/
def Chg (d : Addr) (H H' : Hp) : Prop := ∀ b o, b ≠ d → H b = some o → H' b = some o
theorem Chg.of {d : Addr} {H H' : Hp} (s : Same H H') : Chg d H H' := fun b o _ e => s b o e
theorem Chg.refl (d : Addr) (H : Hp) : Chg d H H := fun _ _ _ h => h
theorem Chg.trans {d : Addr} {H H1 H2 : Hp} (a : Chg d H H1) (b : Chg d H1 H2) : Chg d H H2 := fun c o n h => b c o n (a c o n h)
theorem Chg.upd {d : Addr} {H : Hp} {o : HO} : Chg d H (upd H d o) := fun b x n e => by
  rw [upd_ne n]
  exact e
theorem Chg.seq {K : PySem.W.Frag} {d : Addr} {H H' : Hp} {a : Addr} {xs : List V} (e : Chg d H H') (n : a ≠ d) (h : SqL K H a xs) : SqL K H' a xs := by
  rcases h with (h | ⟨o, h⟩) | h
  · exact .inl (.inl (e _ _ n h))
  · exact .inl (.inr ⟨o, e _ _ n h⟩)
  · exact .inr h

theorem map_at {α : Type} {f : α → V} {l : List α} {i : Nat} {y : V} (h : (l.map f)[i]? = some y) : ∃ z, y = f z ∧ l[i]? = some z := by
  rw [List.getElem?_map] at h
  cases e : l[i]? with
  | none =>
    rw [e] at h
    cases h
  | some z =>
    rw [e] at h
    exact ⟨z, (Option.some.inj h).symm, rfl⟩

theorem Chg.tup {H H' : Hp} {d : Addr} {ys : List V} (c : Chg d H H') (hd : H d = some (.lst ys)) : ∀ a xs, H a = some (.tup xs) → H' a = some (.tup xs) := fun a xs e =>
  c a _ (ne_of e hd (by intro z; cases z)) e
theorem put_any {F : Hp → Prop} {H : Hp} {d : Addr} {o o' : HO} (e : o = o') (h : ∀ H', Chg d H H' → H' d = some o' → F H') : F (upd H d o) := by
  subst e
  exact h _ Chg.upd upd_same
theorem new_any {F : Hp → Prop} {H : Hp} {p : Addr} {o o' : HO} (hp : H p = none) (e : o = o') (h : ∀ H', Same H H' → H' p = some o' → F H') : F (upd H p o) := by
  subst e
  exact h _ (Same.new hp) upd_same

/-! comprehensions over a range or a list, whose parts change nothing that stands -/
theorem filt_step (c : Nat → Bool) (f : Nat → V) (i : Nat) : ((List.range (i + 1)).filter c).map f = ((List.range i).filter c).map f ++ (if c i = true then [f i] else []) := by
  rw [List.range_succ, List.filter_append, List.map_append]
  congr 1
  cases h : c i with
  | true => simp [List.filter, h]
  | false => simp [List.filter, h]
theorem filt_len (c : Nat → Bool) (f : Nat → V) (i : Nat) : (((List.range i).filter c).map f).length ≤ i := by
  rw [List.length_map]
  exact Nat.le_trans (List.length_filter_le _ _) (Nat.le_of_eq List.length_range)
theorem wipe1 (σ : L2.St) (j : Nat) : wipe σ [j] = σ.set j none := rfl
theorem wipe1_set (σ : L2.St) (j : Nat) (x : V) : wipe ((wipe σ [j]).set j (some x)) [j] = wipe σ [j] := by
  show ((σ.set j none).set j (some x)).set j none = σ.set j none
  rw [List.set_set, List.set_set]
theorem lc_rangeP {lo : Int} {n j : Nat} {tt : TT} {te : TE} {σ : L2.St} {H1 : Hp} {D : Addr} {Qd : Hp → Prop} (c : Nat → Bool) (f : Nat → V) (hD : H1 D = none) (hn : n ≤ 100000)
    (ht : ∀ i, i < n → ∀ H', Same H1 H' → ∀ Q : Bool → Hp → Prop, (∀ H2, Same H' H2 → Q (c i) H2) → tt ((wipe σ [j]).set j (some (.int (lo + i)))) H' Q)
    (he : ∀ i, i < n → c i = true → ∀ H', Same H1 H' → ∀ Q : VK, (∀ H2, Same H' H2 → Q (f i) H2) → te ((wipe σ [j]).set j (some (.int (lo + i)))) H' Q)
    (hq : ∀ H', Same H1 H' → H' D = some (.lst (((List.range n).filter c).map f)) → Qd H') :
    ∃ W : Nat → Nat → Hp → Prop, (∃ m, W 0 m (upd H1 D (.lst []))) ∧ ∀ i m H, W i m H →
      ((Itr lo n).stop i H ∧ Qd H) ∨ ((Itr lo n).go i H ∧ ∃ Nx : Hp → Prop, (∀ H', Nx H' → ∃ m', m' < m ∧ W (i + 1) m' H') ∧ ∀ x H', (Itr lo n).yld i H x H' → gName j x (wipe σ [j]) H' fun σ2 H2 => wipe σ2 [j] = wipe σ [j] ∧ tt σ2 H2 fun b H3 =>
        if b = true then te σ2 H3 fun y H4 => ∃ acc, H4 D = some (.lst acc) ∧ acc.length < sizeLine ∧ Nx (upd H4 D (.lst (acc ++ [y]))) else Nx H3) := by
  have nD : ∀ b o, H1 b = some o → b ≠ D := fun b o e => ne_of_none e hD
  refine lc_range (lo := lo) (n := n) (g := gName j) (tt := tt) (te := te) (vs := [j]) (fun i H => Same H1 H ∧ H D = some (.lst (((List.range i).filter c).map f))) ⟨Same.new hD, upd_same⟩ (fun i H hi ⟨s, hd⟩ => ?_) (fun H ⟨s, hd⟩ => hq H s hd)
  show wipe ((wipe σ [j]).set j (some (V.int (lo + i)))) [j] = wipe σ [j] ∧ _
  refine ⟨wipe1_set σ j _, ht i hi H s _ fun H2 s2 => ?_⟩
  cases hc : c i with
  | true =>
    refine iteT (he i hi hc H2 (s.trans s2) _ fun H3 s3 => ⟨_, s3 _ _ (s2 _ _ hd), ?_, fun b o e => ?_, ?_⟩)
    · exact Nat.lt_of_le_of_lt (filt_len c f i) (Nat.lt_of_lt_of_le hi (Nat.le_trans hn (by decide)))
    · rw [upd_ne (nD b o e)]
      exact s3 _ _ (s2 _ _ (s _ _ e))
    · rw [filt_step, hc, if_pos rfl]
      exact upd_same
  | false =>
    refine iteF ⟨s.trans s2, ?_⟩
    rw [filt_step, hc, if_neg Bool.false_ne_true, List.append_nil]
    exact s2 _ _ hd
end My

set_option Elab.async false
set_option linter.all false
set_option maxRecDepth 100000
set_option maxHeartbeats 4000000
namespace My
open PySem L2
/-! the mathematics of k67, in plain Lean -/
/-- the program's look for a prime -/
def primeB (n : Int) : Bool := decide (5 ≤ n) && decide (n ≤ 251) && (((List.range (n - 2).toNat).filter fun (i : Nat) => decide ((2 + (i : Int)) * (2 + (i : Int)) ≤ n)).map fun (i : Nat) => !decide (n % (2 + (i : Int)) = 0)).all id
def primeV : V → Bool
  | .int n => primeB n
  | _ => false
/-- the law's -/
def lawP (n : Int) : Bool := (((List.range 14).filter fun (i : Nat) => decide ((2 + (i : Int)) < n)).map fun (i : Nat) => decide (0 < n % (2 + (i : Int)))).all id
def lawL : List Int := ((List.range 247).filter fun (i : Nat) => lawP (5 + (i : Int))).map fun (i : Nat) => 5 + (i : Int)
theorem prime_same : ∀ i ∈ List.range 247, primeB (5 + (i : Int)) = lawL.contains (5 + (i : Int)) := by decide +kernel
theorem prime_law {n : Int} (h1 : 5 ≤ n) (h2 : n ≤ 251) : primeB n = lawL.contains n := by
  have h := prime_same (n - 5).toNat (by rw [List.mem_range]; omega)
  rwa [show (5 : Int) + ((n - 5).toNat : Int) = n by omega] at h
theorem lawL_len : lawL.length = 52 := by decide +kernel
theorem lawL_prime : ∀ n ∈ lawL, 5 ≤ n ∧ n ≤ 251 ∧ primeB n = true := by decide +kernel
def few (p s l f b : Int) : Bool := decide ((p.toNat + 1) ^ (l * b).toNat < p.toNat ^ (s * f).toNat)
theorem few_more {p s l f b : Int} (hp : 5 ≤ p) (hs : 1 ≤ s) (hf : 0 ≤ f) (h : few p s l f b = true) : few p s l (f + 1) b = true := by
  unfold few at h ⊢
  have h := of_decide_eq_true h
  refine decide_eq_true (Nat.lt_of_lt_of_le h (Nat.pow_le_pow_right (by omega) ?_))
  have : s * f ≤ s * (f + 1) := Int.mul_le_mul_of_nonneg_left (by omega) (by omega)
  omega
theorem few_links {p s l f b : Int} (hl : 0 ≤ l) (hb : 0 ≤ b) (h : few p s l f b = false) : few p s (l + 1) f b = false := by
  unfold few at h ⊢
  have h := of_decide_eq_false h
  refine decide_eq_false fun z => h (Nat.lt_of_le_of_lt (Nat.pow_le_pow_right (by omega) ?_) z)
  have : l * b ≤ (l + 1) * b := Int.mul_le_mul_of_nonneg_right (by omega) hb
  omega
theorem few_same {p s b : Int} (hp : 5 ≤ p) : few p s s b b = false := by
  unfold few
  refine decide_eq_false fun z => absurd (Nat.lt_of_lt_of_le z (Nat.pow_le_pow_left (Nat.le_succ _) _)) (Nat.lt_irrefl _)
/-- the beats that the law tries, one behind another -/
def behindB (p s late : Int) : Nat → Int → Bool
  | 0, _ => false
  | k + 1, b => (decide (b ≤ 400) && few p s (s - 1) (if 0 < b - late then b - late else 0) b) || behindB p s late k (2 * b + 1)
theorem behind_all : ∀ p ∈ lawL, ∀ s ∈ List.range 7, ∀ t ∈ List.range 3, behindB p (2 + (s : Int)) (1 + (t : Int)) 9 ((1 + (t : Int)) * (2 + (s : Int))) = true := by decide +kernel
theorem behind_ok {p s late : Int} (hp : p ∈ lawL) (h1 : 2 ≤ s) (h2 : s ≤ 8) (h3 : 1 ≤ late) (h4 : late ≤ 3) : behindB p s late 9 (late * s) = true := by
  have h := behind_all p hp (s - 2).toNat (by rw [List.mem_range]; omega) (late - 1).toNat (by rw [List.mem_range]; omega)
  rwa [show (2 : Int) + ((s - 2).toNat : Int) = s by omega, show (1 : Int) + ((late - 1).toNat : Int) = late by omega] at h
/-- a power by squares: what holds ahead of turn i -/
structure Sq (b t : Nat) (i : Nat) (f p l : Int) : Prop where
  l : l = ((t / 2 ^ i : Nat) : Int)
  eq : ∃ F Q : Nat, f = F ∧ p = Q ∧ F * Q ^ (t / 2 ^ i) = b ^ t ∧ 1 ≤ F ∧ 1 ≤ Q ∧ (1 ≤ t / 2 ^ i → Q ≤ b ^ t) ∧ F ≤ b ^ t
theorem Sq.start {b t : Nat} (hb : 1 ≤ b) : Sq b t 0 1 (b : Int) (t : Int) := by
  have e : t / 2 ^ 0 = t := by simp
  refine ⟨by rw [e], 1, b, rfl, rfl, by rw [e, Nat.one_mul], Nat.le_refl _, hb, fun h => ?_, Nat.pos_of_ne_zero (by
    have := Nat.pow_pos (n := t) hb
    omega)⟩
  rw [e] at h
  calc b = b ^ 1 := (Nat.pow_one b).symm
    _ ≤ b ^ t := Nat.pow_le_pow_right hb h
theorem Sq.turn {b t i : Nat} {f p l f' p' : Int} (h : Sq b t i f p l) (hf : f' = if l % 2 = 1 then f * p else f) (hp : p' = if 0 < l / 2 then p * p else p) : Sq b t (i + 1) f' p' (l / 2) := by
  obtain ⟨el, F, Q, rfl, rfl, e, h1, h2, h3, h4⟩ := h
  have e2 : t / 2 ^ (i + 1) = t / 2 ^ i / 2 := by rw [Nat.pow_succ, Nat.div_div_eq_div_mul]
  generalize hm : t / 2 ^ i = m at *
  subst el
  have el2 : ((m : Nat) : Int) / 2 = ((m / 2 : Nat) : Int) := by omega
  have eF : f' = ((F * Q ^ (m % 2) : Nat) : Int) := by
    rw [hf]
    by_cases o : m % 2 = 1
    · rw [if_pos (by omega), o, Nat.pow_one]; simp
    · rw [if_neg (by omega), show m % 2 = 0 by omega]; simp
  have hQ : 1 ≤ Q ^ (m % 2) := Nat.pow_pos h2
  have hF1 : 1 ≤ F * Q ^ (m % 2) := Nat.mul_pos h1 hQ
  refine ⟨by rw [e2, el2], F * Q ^ (m % 2), if 0 < m / 2 then Q * Q else Q, eF, ?_, ?_, hF1, ?_, ?_, ?_⟩
  · rw [hp, el2]
    by_cases o : 0 < m / 2
    · rw [if_pos (by omega), if_pos o]; simp
    · rw [if_neg (by omega), if_neg o]
  · rw [e2, ← e]
    by_cases o : 0 < m / 2
    · rw [if_pos o, Nat.mul_assoc, ← Nat.pow_two, ← Nat.pow_mul, ← Nat.pow_add]
      congr 2
      omega
    · rw [if_neg o, show m / 2 = 0 by omega, Nat.pow_zero, Nat.mul_one, show m % 2 = m by omega]
  · split
    · exact Nat.mul_pos h2 h2
    · exact h2
  · intro o
    rw [e2] at o
    rw [if_pos (by omega), ← e, ← Nat.pow_two]
    calc Q ^ 2 ≤ Q ^ m := Nat.pow_le_pow_right h2 (by omega)
      _ = 1 * Q ^ m := (Nat.one_mul _).symm
      _ ≤ F * Q ^ m := Nat.mul_le_mul_right _ h1
  · rw [← e]
    exact Nat.mul_le_mul_left _ (Nat.pow_le_pow_right h2 (Nat.mod_le _ _))
theorem Sq.done {b t i : Nat} {f p l : Int} (h : Sq b t i f p l) (ht : t < 2 ^ i) : f = ((b ^ t : Nat) : Int) := by
  obtain ⟨_, F, Q, rfl, rfl, e, _⟩ := h
  rw [Nat.div_eq_of_lt ht, Nat.pow_zero, Nat.mul_one] at e
  rw [e]
theorem pow_bits {b t : Nat} (hb : b ≤ 256) (ht : t ≤ 24000) : b ^ t < 2 ^ 192001 := by
  calc b ^ t ≤ (2 ^ 8) ^ t := Nat.pow_le_pow_left (by simpa using hb) _
    _ = 2 ^ (8 * t) := (Nat.pow_mul 2 8 t).symm
    _ ≤ 2 ^ 192000 := Nat.pow_le_pow_right (by decide) (by omega)
    _ < 2 ^ 192001 := Nat.pow_lt_pow_right (by decide) (by decide)
theorem Sq.bits {b t i : Nat} {f p l : Int} (h : Sq b t i f p l) (hb : b ≤ 256) (ht : t ≤ 24000) : f.natAbs < 2 ^ 192001 ∧ (0 < l → p.natAbs < 2 ^ 192001) := by
  obtain ⟨el, F, Q, rfl, rfl, e, h1, h2, h3, h4⟩ := h
  have z := pow_bits hb ht
  exact ⟨Nat.lt_of_le_of_lt h4 z, fun q => Nat.lt_of_le_of_lt (h3 (by omega)) z⟩
/-- what the law asks of a call -/
def dueV (p s l f b : V) : V :=
  if primeV p = false then .str "prime"
  else if (within s 1 8 && within l 0 60) = false then .str "number"
  else if (within f 0 400 && within b 0 400) = false then .str "number"
  else match p, s, l, f, b with
    | .int p, .int s, .int l, .int f, .int b => .bl (few p s l f b)
    | _, _, _, _, _ => .non
theorem dueV_prime {p s l f b : V} (h : primeV p = false) : dueV p s l f b = .str "prime" := by
  unfold dueV
  rw [if_pos h]
theorem dueV_num1 {p s l f b : V} (h : primeV p = true) (h1 : (within s 1 8 && within l 0 60) = false) : dueV p s l f b = .str "number" := by
  unfold dueV
  rw [if_neg (by rw [h]; decide), if_pos h1]
theorem dueV_num2 {p s l f b : V} (h : primeV p = true) (h2 : (within f 0 400 && within b 0 400) = false) : dueV p s l f b = .str "number" := by
  unfold dueV
  rw [if_neg (by rw [h]; decide), if_pos h2]
  split <;> rfl
theorem dueV_few {p s l f b : Int} (h : primeB p = true) (h1 : within (.int s) 1 8 = true) (h2 : within (.int l) 0 60 = true) (h3 : within (.int f) 0 400 = true) (h4 : within (.int b) 0 400 = true) : dueV (.int p) (.int s) (.int l) (.int f) (.int b) = .bl (few p s l f b) := by
  unfold dueV
  rw [if_neg (by show ¬ primeB p = false; rw [h]; decide), h1, h2, h3, h4]
  rfl
theorem primeV_int {p : V} (h : primeV p = true) : ∃ n, p = .int n ∧ primeB n = true ∧ 5 ≤ n ∧ n ≤ 251 := by
  cases p <;> simp only [primeV] at h <;> first | exact absurd h (by decide) | skip
  rename_i n
  refine ⟨n, rfl, h, ?_⟩
  unfold primeB at h
  simp only [Bool.and_eq_true, decide_eq_true_eq] at h
  exact h.1
theorem due_cases (p s l f b : V) : dueV p s l f b = .str "prime" ∨ dueV p s l f b = .str "number" ∨ ∃ r, dueV p s l f b = .bl r := by
  cases h : primeV p with
  | false => exact .inl (dueV_prime h)
  | true =>
    cases h1 : (within s 1 8 && within l 0 60) with
    | false => exact .inr (.inl (dueV_num1 h h1))
    | true =>
      cases h2 : (within f 0 400 && within b 0 400) with
      | false => exact .inr (.inl (dueV_num2 h h2))
      | true =>
        rw [Bool.and_eq_true] at h1 h2
        obtain ⟨n, rfl, hn, _⟩ := primeV_int h
        obtain ⟨s, rfl, _⟩ := within_int h1.1
        obtain ⟨l, rfl, _⟩ := within_int h1.2
        obtain ⟨f, rfl, _⟩ := within_int h2.1
        obtain ⟨b, rfl, _⟩ := within_int h2.2
        exact .inr (.inr ⟨_, dueV_few hn h1.1 h1.2 h2.1 h2.2⟩)
theorem due_scal (p s l f b : V) : scal (dueV p s l f b) (dueV p s l f b) = true := by
  rcases due_cases p s l f b with h | h | ⟨r, h⟩ <;> rw [h] <;> rfl
theorem few_cast {p s l f b : Int} : decide (((p.toNat + 1) ^ (l * b).toNat : Nat) < ((p.toNat ^ (s * f).toNat : Nat) : Int)) = few p s l f b := by
  unfold few
  exact decide_eq_decide.mpr Int.ofNat_lt
end My

set_option Elab.async false
set_option linter.all false
set_option maxRecDepth 100000
set_option maxHeartbeats 4000000
namespace My
open PySem PySem.Spec PyProof.Rows L2
/-! several clauses «except C as n», one slot each -/
def offD (D : Ends) (i : Nat) : Ends := { nx := fun ζ G => D.nx (ζ.set i none) G, rt := D.rt, bk := fun ζ G => D.bk (ζ.set i none) G, ct := fun ζ G => D.ct (ζ.set i none) G }
def wAsL (K : PySem.W.Frag) (Wo : WX) (D : Ends) : List (Value × Nat × (Addr → Value → Option Addr → TS)) → WX
  | [] => Wo
  | (c, i, ts) :: r => fun cl d ζ G => ∃ b, PySem.W.exmOne K cl c = some b ∧ (b = true → ∀ e, G e = none → ts e cl d (offD D i) (ζ.set i (some (.ref e))) G) ∧ (b = false → wAsL K Wo D r cl d ζ G)
inductive ClsOk (X : Cx) : List ExceptHandler → List (Value × Nat × (Addr → Value → Option Addr → TS)) → Prop
  | nil : ClsOk X [] []
  | cons {x n : Str} {i : Nat} {c : Value} {ts : Addr → Value → Option Addr → TS} {st₀ : Stmt} {sts : List Stmt} {np ps : Pos} {hl : List ExceptHandler} {l : List (Value × Nat × (Addr → Value → Option Addr → TS))} (hi : X.N[i]? = some n)
      (hn : X.env.kindOf n = some .local) (hc : Names X x c)
      (hsu : ∀ (e : Addr) (ob : Obj) (cl : Value) (d : Option Addr) (pn : List (Addr × Obj)), Zc cl d ob → (∃ vs, ob.data = .fields vs) → PSs (X.suite e ((e, ob) :: pn)) (st₀ :: sts) (ts e cl d)) (r : ClsOk X hl l) :
      ClsOk X (.ExceptHandler (some (.Name x np)) (some n) (st₀ :: sts) ps :: hl) ((c, i, ts) :: l)
section
variable {X : Cx} {body : List Stmt} {hd₀ : ExceptHandler} {hl : List ExceptHandler} {l : List (Value × Nat × (Addr → Value → Option Addr → TS))} {pos : Pos} {tb : WX → TS} {Wo : WX}
theorem ps_try_asL (hs : X.stack = X.env :: X.outer) (hf : X.env.frame = some X.env.locals) (nd : X.N.Nodup) (tk : Takes X Wo)
    (hb : ∀ (W : WX) (pn : List (Addr × Obj)) (ex : Value → Shared → Prop), Takes (X.tr pn ex) W → PassesOwn (model X.prog X.w) X.A X.env ex → PSs (X.tr pn ex) body (tb W))
    (hh : ClsOk X (hd₀ :: hl) l) : PS X (.Try body (hd₀ :: hl) [] [] pos) (fun D σ H => tb (wAsL X.K Wo D l) D σ H) := by
  refine ⟨fun pins s σ H D I h => ?_⟩
  have okX := I.ok
  have frX : X.A.frames = some (X.env :: X.outer) := by rw [okX.frames, hs]
  refine wpAny_Try_except ?_
  refine wpAny_mono ((hb (wAsL X.K Wo D l) (X.pn ++ pins) (fun u t => wpAny (model X.prog X.w) X.A (noteFrame u X.env) (fun _ t2 => wpAny (model X.prog X.w) X.A (setFlight u none) (fun _ t3 =>
    wpAny (model X.prog X.w) X.A (handleBy u X.env (hd₀ :: hl)) (SP X pins D) X.xe t3) X.xe t2) X.xe t) (fun u t zz => ?_) PassesOwn.looking).run [] s σ H D (I.toTry _) h) (fun f t hsp => ?_) (fun _ _ z => z)
  · obtain ⟨e, B, sI, pn', ζ, G, cl, d, rfl, J', nb, up, sky, na, os, ag, w⟩ := zz
    have J : Inv X pins ζ G sI := J'.ofTry okX
    have sky2 : Sky B (X.env :: X.outer) e (Zc cl d) X.env.locals t.heap := by rw [← hs]; exact sky
    show wpAny (model X.prog X.w) X.A (noteFrame (.ref e) X.env) _ _ _
    refine Sky.land Zc.steady frX hf sky2 fun g3 fl3 up3 => ?_
    have J3 : Inv X pins ζ G { t with heap := g3 } := J.landed nb fl3.1 (up.trans up3) os ag
    obtain ⟨ob3, vs3, hob3, hz3, hda3⟩ := fl3.there
    have offFr : ∀ {g : Heap} {o : Obj} {vs : Array Value}, g.FunFrames B (X.env :: X.outer) → g.get? e = some o → o.data = .fields vs → e ∉ frs (X.env :: X.outer) := fun {g o vs} ff q1 q2 hm => by
      obtain ⟨_, o2, q3, no⟩ := ff.mem hm
      rw [q1] at q3; cases q3
      exact no _ q2
    have noFr := offFr fl3.2.2.1 hob3 hda3
    have neL : e ≠ X.env.locals := fun z => noFr (List.mem_filterMap.mpr ⟨X.env, List.mem_cons_self, by rw [hf, z]⟩)
    have neF : e ∉ X.fs := fun hm => by
      obtain ⟨v, hv, q⟩ := List.mem_filterMap.mp hm
      exact noFr (List.mem_filterMap.mpr ⟨v, List.mem_cons_of_mem _ hv, q⟩)
    have S3 := J3.suite hob3 hda3 na neL neF
    have LT : PySem.W.Looks (model X.prog X.w) g3 (typeOf (.ref e)) cl := fun A Q E s k q => wpAny_typeOf_ref (k _ _ hob3) (by rw [hz3.1]; exact q)
    have go : ∀ {hl' : List ExceptHandler} {l' : List (Value × Nat × (Addr → Value → Option Addr → TS))}, ClsOk X hl' l' → wAsL X.K Wo D l' cl d ζ G →
        wpAny (model X.prog X.w) X.A (handleBy (.ref e) X.env hl') (SP X pins D) X.xe { t with heap := g3 } := by
      intro hl' l' hk
      induction hk with
      | nil =>
        intro w
        refine wpAny_handleBy_nil ?_
        obtain ⟨k1, k2, k3, ob, vs, Tb, oT, ts', q1, q2, q3, q4, q5⟩ := id fl3
        unfold PySem.passOn
        refine wpAny_bind (wpAny_field q1 q3 q4 ?_)
        rw [if_neg (show ¬ ((Value.ref Tb == Value.none) = true) from by simp)]
        have fin : wpAny (model X.prog X.w) X.A (setFlight (.ref e) X.env.frame) (fun _ t4 => wpAny (model X.prog X.w) X.A (throw (.ref e) : Sem Flow) (SP X pins D) X.xe t4) X.xe { t with heap := g3 } := by
          rw [hf]
          refine HandSPX.setFlight_upZ fl3 fun g4 hh4 up4 => wpAny_throw (tk _ _ ?_)
          exact ⟨e, B, sI, pins, ζ, G, cl, d, rfl, J, nb, (up.trans up3).trans up4, .inr (.inr (by rw [hs]; exact hh4)), na, os, ag, w⟩
        first
          | exact wpAny_bind (wpAny_pure (wpAny_bind fin))
          | exact wpAny_bind fin
      | @cons x n i c ts st₀ sts np ps hl2 l2 hi hn hc hsu r ih =>
        intro w
        obtain ⟨b, hb1, wyes, wno⟩ := w
        refine wpAny_handleBy_cons (codeAny_handlers_test ?_) (by intro q; cases q)
        have LM := PySem.W.exm_one (M := model X.prog X.w) (J3.kIn) LT hb1
        have look : ∀ {Q : Value → Shared → Prop} {E : Value → Shared → Prop}, Q c { t with heap := g3 } → wpAny (model X.prog X.w) (X.A.mark (some (.ref e))) (eval (.Name x np) X.env) Q E { t with heap := g3 } := fun {Q E} q => by
          obtain ⟨hg, hdbg, hm | ⟨hm, hv, hnn⟩⟩ := hc
          · exact ld_glob (X := X.suite e ((e, ob3) :: (X.pn ++ pins))) S3 hg hm q hdbg
          · exact ld_blt (X := X.suite e ((e, ob3) :: (X.pn ++ pins))) S3 hg hm hv q hnn hdbg
        refine look (LM.here ?_)
        cases b with
        | true =>
          refine codeAny_handlers_suite_as ?_
          refine HandSPX.lands_againZ fl3 fun g4 fl4 up4 => ?_
          have J4 : Inv X pins ζ G { t with heap := g4 } := J.landed nb fl4.1 ((up.trans up3).trans up4) os ag
          obtain ⟨ob4, vs4, hob4, hz4, hda4⟩ := fl4.there
          have S4 := J4.suite hob4 hda4 na neL neF
          refine store_ok (X := X.suite e ((e, ob4) :: (X.pn ++ pins))) (v := .ref e) S4 nd hi (.inl hn) rfl (fun s5 S5 => ?_) (.inr hn)
          refine wpAny_mono ((hsu e ob4 cl d (X.pn ++ pins) hz4 ⟨_, hda4⟩).run [] s5 _ G _ S5 (wyes rfl e na)) (fun f s6 hsp => ?_) (fun _ _ z => False.elim z)
          have done : ∀ {ζ6 : L2.St} {G6 : Hp} {Q : Shared → Prop}, Inv (X.suite e ((e, ob4) :: (X.pn ++ pins))) [] ζ6 G6 s6 → (∀ s7, Inv X pins (ζ6.set i none) G6 s7 → Q s7) →
              wpAny (model X.prog X.w) X.A (do bindName X.env n .none; unbindBehindTheSuite X.env n ps) (fun _ s7 => Q s7) X.xe s6 := fun {ζ6 G6 Q} S6 hq => gone_ok (S6.unsuite okX) nd hi hn hq
          cases f with
          | next =>
            obtain ⟨ζ6, G6, S6, q6⟩ := hsp
            exact done S6 fun s7 J7 => ⟨_, _, J7, q6⟩
          | brk =>
            obtain ⟨ζ6, G6, S6, q6⟩ := hsp
            exact done S6 fun s7 J7 => ⟨_, _, J7, q6⟩
          | cont =>
            obtain ⟨ζ6, G6, S6, q6⟩ := hsp
            exact done S6 fun s7 J7 => ⟨_, _, J7, q6⟩
          | ret u =>
            obtain ⟨v6, ζ6, G6, S6, r6, q6⟩ := hsp
            exact done S6 fun s7 J7 => ⟨_, _, _, J7, r6, q6⟩
        | false =>
          show wpAny _ X.A (handleBy (.ref e) X.env hl2) _ _ _
          exact ih (wno rfl)
    exact go hh w
  · cases f with
    | next =>
      obtain ⟨ζ, G, J, q⟩ := hsp
      exact wpAny_execs_nil ⟨ζ, G, J.ofTry okX, q⟩
    | brk =>
      obtain ⟨ζ, G, J, q⟩ := hsp
      exact ⟨ζ, G, J.ofTry okX, q⟩
    | cont =>
      obtain ⟨ζ, G, J, q⟩ := hsp
      exact ⟨ζ, G, J.ofTry okX, q⟩
    | ret u =>
      obtain ⟨v, ζ, G, J, r, q⟩ := hsp
      exact ⟨v, ζ, G, J.ofTry okX, r, q⟩
end
/-- isinstance of the error that a suite holds: its class is told by what was raised -/
def rIsX (K : PySem.W.Frag) (cl : Value) (d : Option Addr) (a : Addr) : List V → Hp → VK → Prop := fun xs H Q => ∃ (D : Addr) (c : V) (cv : Value) (b : Bool), cl = .ref D ∧ d = none ∧ ExcC K D ∧ xs = [.ref a, c] ∧ (∀ u, RelV c u → u = cv) ∧ PySem.W.kitOne K (.ref D) cv = some b ∧ Q (.bl b) H
theorem call_isX {X : Cx} {a : Addr} {cl : Value} {d : Option Addr} {oe : Obj} {pn : List (Addr × Obj)} (hz : Zc cl d oe) (hf : ∃ vs, oe.data = .fields vs) : CallR (X.suite a ((a, oe) :: pn)) (.builtin "isinstance") (rIsX X.K cl d a) := by
  intro pins s σ H xs us Q I r h
  obtain ⟨D, c, cv, b, e1, e2, C, rfl, hcv, e, q⟩ := h
  subst e1 e2
  exact call_isE C hz hf pins s σ H _ us Q I r ⟨c, cv, b, rfl, hcv, e, q⟩
/-- isinstance(e, C) of an own class C -/
theorem kit_ref {K : PySem.W.Frag} {C : Addr} {t : Value} {b : Bool} (hd : PySem.W.hasDictIn K C = true) (ht : PySem.W.typeIn K (.ref C) = some (.type "type")) (h4 : PySem.W.subIn K t (.ref C) = some b) (h5 : t = .ref C → b = true) : PySem.W.kitOne K t (.ref C) = some b := by
  obtain ⟨cd, hc, _⟩ := PySem.W.any_some hd
  have e2 : ((PySem.W.clsIn K C).isSome && PySem.W.typeIn K (.ref C) == some (.type "type")) = true := by rw [hc, ht] <;> rfl
  unfold PySem.W.kitOne PySem.W.kitCls
  by_cases e : (t == Value.ref C) = true
  · rw [if_pos e, h5 (beq_iff_eq.mp e)]
  · rw [if_neg e]
    simp only [e2, if_true]
    exact h4
end My

set_option Elab.async false
set_option linter.all false
set_option maxRecDepth 100000
set_option maxHeartbeats 4000000
namespace My
open PySem PySem.Spec PyProof.Rows L2
def topS (i : Nat) : Stmt := PySem.Challenge.pw_sparetrees_k67_whole_counts_of_what_come.main.body.getD i (.Pass ⟨0, 0, 0, 0⟩)
abbrev s_is_integer : Stmt := topS 1
abbrev N_is_integer : List Str := ["thing"]
abbrev P_is_integer : List Str := ["thing"]
theorem sc_is_integer : FnScope N_is_integer P_is_integer (defScope s_is_integer) := ⟨rfl, rfl, rfl, by decide +kernel, rfl, by decide +kernel, by decide +kernel⟩
abbrev s_is_within : Stmt := topS 2
abbrev N_is_within : List Str := ["thing", "least", "most"]
abbrev P_is_within : List Str := ["thing", "least", "most"]
theorem sc_is_within : FnScope N_is_within P_is_within (defScope s_is_within) := ⟨rfl, rfl, rfl, by decide +kernel, rfl, by decide +kernel, by decide +kernel⟩
abbrev s_is_prime : Stmt := topS 11
abbrev N_is_prime : List Str := ["thing", "divisor"]
abbrev P_is_prime : List Str := ["thing"]
theorem sc_is_prime : FnScope N_is_prime P_is_prime (defScope s_is_prime) := ⟨rfl, rfl, rfl, by decide +kernel, rfl, by decide +kernel, by decide +kernel⟩
abbrev s_check_prime : Stmt := topS 12
abbrev N_check_prime : List Str := ["thing"]
abbrev P_check_prime : List Str := ["thing"]
theorem sc_check_prime : FnScope N_check_prime P_check_prime (defScope s_check_prime) := ⟨rfl, rfl, rfl, by decide +kernel, rfl, by decide +kernel, by decide +kernel⟩
abbrev s_check_size : Stmt := topS 13
abbrev N_check_size : List Str := ["thing"]
abbrev P_check_size : List Str := ["thing"]
theorem sc_check_size : FnScope N_check_size P_check_size (defScope s_check_size) := ⟨rfl, rfl, rfl, by decide +kernel, rfl, by decide +kernel, by decide +kernel⟩
abbrev s_too_few : Stmt := topS 17
abbrev N_too_few : List Str := ["prime", "size", "links", "frames", "beats", "come", "turn", "rows"]
abbrev P_too_few : List Str := ["prime", "size", "links", "frames", "beats"]
theorem sc_too_few : FnScope N_too_few P_too_few (defScope s_too_few) := ⟨rfl, rfl, rfl, by decide +kernel, rfl, by decide +kernel, by decide +kernel⟩
abbrev s__law_deck : Stmt := topS 19
abbrev N__law_deck : List Str := ["_law_script", "_law_seed", "_law_cell"]
abbrev P__law_deck : List Str := ["_law_script"]
theorem sc__law_deck : FnScope N__law_deck P__law_deck (defScope s__law_deck) := ⟨rfl, rfl, rfl, by decide +kernel, rfl, by decide +kernel, by decide +kernel⟩
abbrev s__law_mixed : Stmt := topS 20
abbrev N__law_mixed : List Str := ["_law_cell", "_law_turn", "_law_number"]
abbrev P__law_mixed : List Str := ["_law_cell", "_law_turn"]
theorem sc__law_mixed : FnScope N__law_mixed P__law_mixed (defScope s__law_mixed) := ⟨rfl, rfl, rfl, by decide +kernel, rfl, by decide +kernel, by decide +kernel⟩
abbrev s__law_draw : Stmt := topS 21
abbrev N__law_draw : List Str := ["_law_deck_here", "_law_many", "_law_cell", "_law_found"]
abbrev P__law_draw : List Str := ["_law_deck_here", "_law_many"]
theorem sc__law_draw : FnScope N__law_draw P__law_draw (defScope s__law_draw) := ⟨rfl, rfl, rfl, by decide +kernel, rfl, by decide +kernel, by decide +kernel⟩
abbrev s__law_primes : Stmt := topS 22
abbrev N__law_primes : List Str := ["_law_found", "_law_number", "_law_one"]
abbrev P__law_primes : List Str := []
theorem sc__law_primes : FnScope N__law_primes P__law_primes (defScope s__law_primes) := ⟨rfl, rfl, rfl, by decide +kernel, rfl, by decide +kernel, by decide +kernel⟩
abbrev s__law_raised : Stmt := topS 23
abbrev N__law_raised : List Str := ["_law_base", "_law_times", "_law_found", "_law_power", "_law_left", "_law_turn"]
abbrev P__law_raised : List Str := ["_law_base", "_law_times"]
theorem sc__law_raised : FnScope N__law_raised P__law_raised (defScope s__law_raised) := ⟨rfl, rfl, rfl, by decide +kernel, rfl, by decide +kernel, by decide +kernel⟩
abbrev s__law_is_within : Stmt := topS 24
abbrev N__law_is_within : List Str := ["_law_thing", "_law_least", "_law_most"]
abbrev P__law_is_within : List Str := ["_law_thing", "_law_least", "_law_most"]
theorem sc__law_is_within : FnScope N__law_is_within P__law_is_within (defScope s__law_is_within) := ⟨rfl, rfl, rfl, by decide +kernel, rfl, by decide +kernel, by decide +kernel⟩
abbrev s__law_due : Stmt := topS 25
abbrev N__law_due : List Str := ["_law_prime", "_law_size", "_law_links", "_law_frames", "_law_beats"]
abbrev P__law_due : List Str := ["_law_prime", "_law_size", "_law_links", "_law_frames", "_law_beats"]
theorem sc__law_due : FnScope N__law_due P__law_due (defScope s__law_due) := ⟨rfl, rfl, rfl, by decide +kernel, rfl, by decide +kernel, by decide +kernel⟩
abbrev s__law_told : Stmt := topS 26
abbrev N__law_told : List Str := ["_law_prime", "_law_size", "_law_links", "_law_frames", "_law_beats", "_law_found", "_law_good", "error"]
abbrev P__law_told : List Str := ["_law_prime", "_law_size", "_law_links", "_law_frames", "_law_beats"]
theorem sc__law_told : FnScope N__law_told P__law_told (defScope s__law_told) := ⟨rfl, rfl, rfl, by decide +kernel, rfl, by decide +kernel, by decide +kernel⟩
abbrev s__law_is_right : Stmt := topS 27
abbrev N__law_is_right : List Str := ["_law_prime", "_law_size", "_law_links", "_law_frames", "_law_beats", "_law_due_here"]
abbrev P__law_is_right : List Str := ["_law_prime", "_law_size", "_law_links", "_law_frames", "_law_beats"]
theorem sc__law_is_right : FnScope N__law_is_right P__law_is_right (defScope s__law_is_right) := ⟨rfl, rfl, rfl, by decide +kernel, rfl, by decide +kernel, by decide +kernel⟩
abbrev s__law_is_behind : Stmt := topS 28
abbrev N__law_is_behind : List Str := ["_law_prime", "_law_size", "_law_links", "_law_late", "_law_beats", "_law_turn"]
abbrev P__law_is_behind : List Str := ["_law_prime", "_law_size", "_law_links", "_law_late"]
theorem sc__law_is_behind : FnScope N__law_is_behind P__law_is_behind (defScope s__law_is_behind) := ⟨rfl, rfl, rfl, by decide +kernel, rfl, by decide +kernel, by decide +kernel⟩
abbrev s_law : Stmt := topS 29
abbrev N_law : List Str := ["_law_script", "_law_deck_here", "_law_primes_here", "_law_prime", "_law_size", "_law_links", "_law_beats", "_law_frames", "_law_told_here", "_law_odd", "_law_turn", "_law_some", "_law_k"]
abbrev P_law : List Str := ["_law_script"]
theorem sc_law : FnScope N_law P_law (defScope s_law) := ⟨rfl, rfl, rfl, by decide +kernel, rfl, by decide +kernel, by decide +kernel⟩
structure Ad where
  a_is_integer : Addr
  d_is_integer : FuncData
  a_is_within : Addr
  d_is_within : FuncData
  a_is_prime : Addr
  d_is_prime : FuncData
  a_check_prime : Addr
  d_check_prime : FuncData
  a_check_size : Addr
  d_check_size : FuncData
  a_too_few : Addr
  d_too_few : FuncData
  a__law_deck : Addr
  d__law_deck : FuncData
  a__law_mixed : Addr
  d__law_mixed : FuncData
  a__law_draw : Addr
  d__law_draw : FuncData
  a__law_primes : Addr
  d__law_primes : FuncData
  a__law_raised : Addr
  d__law_raised : FuncData
  a__law_is_within : Addr
  d__law_is_within : FuncData
  a__law_due : Addr
  d__law_due : FuncData
  a__law_told : Addr
  d__law_told : FuncData
  a__law_is_right : Addr
  d__law_is_right : FuncData
  a__law_is_behind : Addr
  d__law_is_behind : FuncData
  a_law : Addr
  d_law : FuncData
  e_TreeError : Addr
  e_NoNumber : Addr
  e_NoPrime : Addr
structure Txt (K : PySem.W.Frag) (mg : Str → Option Value) (A : Ad) : Prop where
  m_is_integer : mg "is_integer" = some (.ref A.a_is_integer)
  F_is_integer : Fun K "is_integer" "is_integer" s_is_integer A.a_is_integer A.d_is_integer
  B_is_integer : Binds K A.d_is_integer P_is_integer []
  m_is_within : mg "is_within" = some (.ref A.a_is_within)
  F_is_within : Fun K "is_within" "is_within" s_is_within A.a_is_within A.d_is_within
  B_is_within : Binds K A.d_is_within P_is_within []
  m_is_prime : mg "is_prime" = some (.ref A.a_is_prime)
  F_is_prime : Fun K "is_prime" "is_prime" s_is_prime A.a_is_prime A.d_is_prime
  B_is_prime : Binds K A.d_is_prime P_is_prime []
  m_check_prime : mg "check_prime" = some (.ref A.a_check_prime)
  F_check_prime : Fun K "check_prime" "check_prime" s_check_prime A.a_check_prime A.d_check_prime
  B_check_prime : Binds K A.d_check_prime P_check_prime []
  m_check_size : mg "check_size" = some (.ref A.a_check_size)
  F_check_size : Fun K "check_size" "check_size" s_check_size A.a_check_size A.d_check_size
  B_check_size : Binds K A.d_check_size P_check_size []
  m_too_few : mg "too_few" = some (.ref A.a_too_few)
  F_too_few : Fun K "too_few" "too_few" s_too_few A.a_too_few A.d_too_few
  B_too_few : Binds K A.d_too_few P_too_few []
  m__law_deck : mg "_law_deck" = some (.ref A.a__law_deck)
  F__law_deck : Fun K "_law_deck" "_law_deck" s__law_deck A.a__law_deck A.d__law_deck
  B__law_deck : Binds K A.d__law_deck P__law_deck []
  m__law_mixed : mg "_law_mixed" = some (.ref A.a__law_mixed)
  F__law_mixed : Fun K "_law_mixed" "_law_mixed" s__law_mixed A.a__law_mixed A.d__law_mixed
  B__law_mixed : Binds K A.d__law_mixed P__law_mixed []
  m__law_draw : mg "_law_draw" = some (.ref A.a__law_draw)
  F__law_draw : Fun K "_law_draw" "_law_draw" s__law_draw A.a__law_draw A.d__law_draw
  B__law_draw : Binds K A.d__law_draw P__law_draw []
  m__law_primes : mg "_law_primes" = some (.ref A.a__law_primes)
  F__law_primes : Fun K "_law_primes" "_law_primes" s__law_primes A.a__law_primes A.d__law_primes
  B__law_primes : Binds K A.d__law_primes P__law_primes []
  m__law_raised : mg "_law_raised" = some (.ref A.a__law_raised)
  F__law_raised : Fun K "_law_raised" "_law_raised" s__law_raised A.a__law_raised A.d__law_raised
  B__law_raised : Binds K A.d__law_raised P__law_raised []
  m__law_is_within : mg "_law_is_within" = some (.ref A.a__law_is_within)
  F__law_is_within : Fun K "_law_is_within" "_law_is_within" s__law_is_within A.a__law_is_within A.d__law_is_within
  B__law_is_within : Binds K A.d__law_is_within P__law_is_within []
  m__law_due : mg "_law_due" = some (.ref A.a__law_due)
  F__law_due : Fun K "_law_due" "_law_due" s__law_due A.a__law_due A.d__law_due
  B__law_due : Binds K A.d__law_due P__law_due []
  m__law_told : mg "_law_told" = some (.ref A.a__law_told)
  F__law_told : Fun K "_law_told" "_law_told" s__law_told A.a__law_told A.d__law_told
  B__law_told : Binds K A.d__law_told P__law_told []
  m__law_is_right : mg "_law_is_right" = some (.ref A.a__law_is_right)
  F__law_is_right : Fun K "_law_is_right" "_law_is_right" s__law_is_right A.a__law_is_right A.d__law_is_right
  B__law_is_right : Binds K A.d__law_is_right P__law_is_right []
  m__law_is_behind : mg "_law_is_behind" = some (.ref A.a__law_is_behind)
  F__law_is_behind : Fun K "_law_is_behind" "_law_is_behind" s__law_is_behind A.a__law_is_behind A.d__law_is_behind
  B__law_is_behind : Binds K A.d__law_is_behind P__law_is_behind []
  m_law : mg "law" = some (.ref A.a_law)
  F_law : Fun K "law" "law" s_law A.a_law A.d_law
  B_law : Binds K A.d_law P_law []
  c_LEAST_PRIME : ∃ t, mg "LEAST_PRIME" = some (.int 5 t)
  c_MOST_PRIME : ∃ t, mg "MOST_PRIME" = some (.int 251 t)
  c_MOST_SIZE : ∃ t, mg "MOST_SIZE" = some (.int 8 t)
  c_MOST_LINKS : ∃ t, mg "MOST_LINKS" = some (.int 60 t)
  c_MOST_ROWS : ∃ t, mg "MOST_ROWS" = some (.int 400 t)
  b_abs : mg "abs" = none
  b_all : mg "all" = none
  b_bool : mg "bool" = none
  b_int : mg "int" = none
  b_isinstance : mg "isinstance" = none
  b_len : mg "len" = none
  b_list : mg "list" = none
  b_max : mg "max" = none
  b_min : mg "min" = none
  b_range : mg "range" = none
  g_TreeError : mg "TreeError" = some (.ref A.e_TreeError)
  x_TreeError : PySem.W.excIn K A.e_TreeError [.type "ValueError", .type "Exception", .type "BaseException", .type "object"] "ValueError.__new__" = true
  k_TreeError : PySem.W.keepIn K (.ref A.e_TreeError) = true
  s_TreeError : PySem.W.subIn K (.ref A.e_TreeError) (.type "BaseException") = some true
  t_TreeError : PySem.W.typeIn K (.ref A.e_TreeError) = some (.type "type")
  i_TreeError : ExcC K A.e_TreeError
  g_NoNumber : mg "NoNumber" = some (.ref A.e_NoNumber)
  x_NoNumber : PySem.W.excIn K A.e_NoNumber [.type "ValueError", .type "Exception", .type "BaseException", .type "object"] "ValueError.__new__" = true
  k_NoNumber : PySem.W.keepIn K (.ref A.e_NoNumber) = true
  s_NoNumber : PySem.W.subIn K (.ref A.e_NoNumber) (.type "BaseException") = some true
  t_NoNumber : PySem.W.typeIn K (.ref A.e_NoNumber) = some (.type "type")
  i_NoNumber : ExcC K A.e_NoNumber
  g_NoPrime : mg "NoPrime" = some (.ref A.e_NoPrime)
  x_NoPrime : PySem.W.excIn K A.e_NoPrime [.type "ValueError", .type "Exception", .type "BaseException", .type "object"] "ValueError.__new__" = true
  k_NoPrime : PySem.W.keepIn K (.ref A.e_NoPrime) = true
  s_NoPrime : PySem.W.subIn K (.ref A.e_NoPrime) (.type "BaseException") = some true
  t_NoPrime : PySem.W.typeIn K (.ref A.e_NoPrime) = some (.type "type")
  i_NoPrime : ExcC K A.e_NoPrime
  r_TreeError_TreeError : PySem.W.subIn K (.ref A.e_TreeError) (.ref A.e_TreeError) = some true
  r_TreeError_NoNumber : PySem.W.subIn K (.ref A.e_TreeError) (.ref A.e_NoNumber) = some false
  r_TreeError_NoPrime : PySem.W.subIn K (.ref A.e_TreeError) (.ref A.e_NoPrime) = some false
  r_NoNumber_TreeError : PySem.W.subIn K (.ref A.e_NoNumber) (.ref A.e_TreeError) = some true
  r_NoNumber_NoNumber : PySem.W.subIn K (.ref A.e_NoNumber) (.ref A.e_NoNumber) = some true
  r_NoNumber_NoPrime : PySem.W.subIn K (.ref A.e_NoNumber) (.ref A.e_NoPrime) = some false
  r_NoPrime_TreeError : PySem.W.subIn K (.ref A.e_NoPrime) (.ref A.e_TreeError) = some true
  r_NoPrime_NoNumber : PySem.W.subIn K (.ref A.e_NoPrime) (.ref A.e_NoNumber) = some false
  r_NoPrime_NoPrime : PySem.W.subIn K (.ref A.e_NoPrime) (.ref A.e_NoPrime) = some true
/-! promises -/
def sp_is_integer (K : PySem.W.Frag) (A : Ad) : Sp := Sp1 fun x H Q _ => (∃ k, Th K H x k) ∧ Q (.bl (isI x)) H
def sp_is_within (K : PySem.W.Frag) (A : Ad) : Sp := Sp3 fun x lo hi H Q _ => (∃ k, Th K H x k) ∧ ∃ l h, lo = .int l ∧ hi = .int h ∧ Q (.bl (within x l h)) H
def sp_is_prime (K : PySem.W.Frag) (A : Ad) : Sp := Sp1 fun x H Q _ => (∃ k, Th K H x k) ∧ ∀ H', Same H H' → Q (.bl (primeV x)) H'
def sp_check_prime (K : PySem.W.Frag) (A : Ad) : Sp := Sp1 fun x H Q E => (∃ k, Th K H x k) ∧ (primeV x = false → ∀ H', Same H H' → E (.ref A.e_NoPrime) none H') ∧ (primeV x = true → ∀ H', Same H H' → Q .non H')
def sp_check_size (K : PySem.W.Frag) (A : Ad) : Sp := Sp1 fun x H Q E => (∃ k, Th K H x k) ∧ (within x 1 8 = false → E (.ref A.e_NoNumber) none H) ∧ (within x 1 8 = true → Q .non H)
/-- a law's deck at d, its cells at l: what it draws from -/
def DeckL (H : Hp) (d l : Addr) : Prop := ∃ (ns : List Int) (i p t s : Int), H d = some (.lst [.ref l, .int i, .int p, .int t, .int s]) ∧ H l = some (.lst (ns.map V.int)) ∧ 0 ≤ i ∧ 0 ≤ p
def Deck (H : Hp) (d : Addr) : Prop := ∃ l, DeckL H d l
theorem DeckL.same {H H' : Hp} {d l : Addr} (h : DeckL H d l) (s : Same H H') : DeckL H' d l := by
  obtain ⟨ns, i, p, t, z, h1, h2, h3⟩ := h
  exact ⟨ns, i, p, t, z, s _ _ h1, s _ _ h2, h3⟩
theorem DeckL.chg {H H' : Hp} {d l e : Addr} (h : DeckL H d l) (s : Chg e H H') (n1 : d ≠ e) (n2 : l ≠ e) : DeckL H' d l := by
  obtain ⟨ns, i, p, t, z, h1, h2, h3⟩ := h
  exact ⟨ns, i, p, t, z, s _ _ n1 h1, s _ _ n2 h2, h3⟩
theorem DeckL.some {H : Hp} {d l : Addr} (h : DeckL H d l) : (∃ o, H d = some (.lst o)) ∧ ∃ o, H l = some (.lst o) := by
  obtain ⟨ns, i, p, t, z, h1, h2, _⟩ := h
  exact ⟨⟨_, h1⟩, ⟨_, h2⟩⟩
theorem DeckL.ne {H : Hp} {d l e : Addr} (h : DeckL H d l) (hn : H e = none) : e ≠ d ∧ e ≠ l := by
  obtain ⟨⟨o, h1⟩, ⟨o2, h2⟩⟩ := h.some
  exact ⟨(ne_of_none h1 hn).symm, (ne_of_none h2 hn).symm⟩
def sp__law_deck (K : PySem.W.Frag) (A : Ad) : Sp := Sp1 fun x H Q _ => ∃ (a : Addr) (ns : List Int), x = .ref a ∧ SqL K H a (ns.map V.int) ∧ ∀ H' d, Same H H' → H d = none → Deck H' d → Q (.ref d) H'
def sp__law_mixed (K : PySem.W.Frag) (A : Ad) : Sp := Sp2 fun x y H Q _ => ∃ i j : Int, x = .int i ∧ y = .int j ∧ ∀ r : Int, Q (.int r) H
def sp__law_draw (K : PySem.W.Frag) (A : Ad) : Sp := Sp2 fun x y H Q _ => ∃ (d l : Addr) (n : Int), x = .ref d ∧ y = .int n ∧ 0 < n ∧ n < 1000 ∧ DeckL H d l ∧ ∀ (r : Int) H', 0 ≤ r → r < n → DeckL H' d l → Chg d H H' → Q (.int r) H'
def sp__law_primes (K : PySem.W.Frag) (A : Ad) : Sp := Sp0 fun H Q _ => ∀ H' p, Same H H' → H p = none → H' p = some (.lst (lawL.map V.int)) → Q (.ref p) H'
def sp__law_raised (K : PySem.W.Frag) (A : Ad) : Sp := Sp2 fun x y H Q _ => ∃ b t : Nat, x = .int b ∧ y = .int t ∧ 1 ≤ b ∧ b ≤ 256 ∧ t ≤ 24000 ∧ Q (.int ((b ^ t : Nat) : Int)) H
def Ths (K : PySem.W.Frag) (H : Hp) (xs : List V) : Prop := ∀ x ∈ xs, ∃ k, Th K H x k ∧ k ≠ .own
theorem Ths.same {K : PySem.W.Frag} {H H' : Hp} {xs : List V} (h : Ths K H xs) (s : Same H H') : Ths K H' xs := fun x hx => by
  obtain ⟨k, t, n⟩ := h x hx
  exact ⟨k, t.mono s n, n⟩
theorem Ths.one {K : PySem.W.Frag} {H : Hp} {xs : List V} (h : Ths K H xs) {x : V} (hx : x ∈ xs) : ∃ k, Th K H x k := by
  obtain ⟨k, t, n⟩ := h x hx
  exact ⟨k, t⟩
def sp__law_is_within (K : PySem.W.Frag) (A : Ad) : Sp := sp_is_within K A
def sp__law_due (K : PySem.W.Frag) (A : Ad) : Sp := Sp5 fun p s l f b H Q _ => Ths K H [p, s, l, f, b] ∧ ∀ H', Same H H' → Q (dueV p s l f b) H'
def sp_too_few (K : PySem.W.Frag) (A : Ad) : Sp := Sp5 fun p s l f b H Q E => Ths K H [p, s, l, f, b] ∧ (dueV p s l f b = .str "prime" → ∀ H', Same H H' → E (.ref A.e_NoPrime) none H') ∧
  (dueV p s l f b = .str "number" → ∀ H', Same H H' → E (.ref A.e_NoNumber) none H') ∧ ∀ r, dueV p s l f b = .bl r → ∀ H', Same H H' → Q (.bl r) H'
def sp__law_told (K : PySem.W.Frag) (A : Ad) : Sp := sp__law_due K A
def sp__law_is_right (K : PySem.W.Frag) (A : Ad) : Sp := Sp5 fun p s l f b H Q _ => Ths K H [p, s, l, f, b] ∧ ∀ H', Same H H' → Q (.bl true) H'
def sp__law_is_behind (K : PySem.W.Frag) (A : Ad) : Sp := Sp4 fun p s l t H Q _ => ∃ a b c : Int, p = .int a ∧ s = .int b ∧ l = .int (b - 1) ∧ t = .int c ∧ a ∈ lawL ∧ 2 ≤ b ∧ b ≤ 8 ∧ 1 ≤ c ∧ c ≤ 3 ∧ ∀ H', Same H H' → Q (.bl true) H'
section
variable {P : Program} {w : World} {K : PySem.W.Frag} {mg : Str → Option Value} {base : Heap} {A : Ad}
theorem ok_is_integer (T : Txt K mg A) : FnOk P w K mg base CX0 1 A.a_is_integer A.d_is_integer P_is_integer (sp_is_integer K A) := by
  refine T.F_is_integer.ok sc_is_integer (fun vs H Q E h => by obtain ⟨_, rfl, _⟩ := h; rfl) (fun cdv AA outer s H vs Q E hr h => ?_)
  obtain ⟨x, rfl, h⟩ := h
  refine ⟨_, (pss_one (ps_ret (pe_and (pe_callB (id := "isinstance") (r := rIsi K) call_isi (by rfl) T.b_isinstance (by decide +kernel) (pa_cons (pv 0) (pa_cons (pe_bltn (by rfl) T.b_int (by decide +kernel) (show RelV (.ty "int") (.type "int") from rfl)) pa_nil))) (pe_one (pe_not (pe_callB (id := "isinstance") (r := rIsi K) call_isi (by rfl) T.b_isinstance (by decide +kernel) (pa_cons (pv 0) (pa_cons (pe_bltn (by rfl) T.b_bool (by decide +kernel) (show RelV (.ty "bool") (.type "bool") from rfl)) pa_nil)))))))), ?_⟩
  obtain ⟨⟨k, hk⟩, q⟩ := h
  obtain ⟨t1, y1, z1⟩ := hk.isi "int" (by decide)
  obtain ⟨t2, y2, z2⟩ := hk.isi "bool" (by decide)
  refine ⟨_, rfl, _, _, _, _, _, rfl, .ty _, y1, z1, _, rfl, ?_⟩
  have e := hk.isI
  cases h1 : k.is "int" with
  | false =>
    refine iteF ?_
    rw [← e, h1] at q
    exact q
  | true =>
    refine iteT ⟨_, rfl, _, _, _, _, _, rfl, .ty _, y2, z2, _, rfl, ?_⟩
    rw [← e, h1] at q
    exact q
theorem ok_is_within (T : Txt K mg A) : FnOk P w K mg base CX0 2 A.a_is_within A.d_is_within P_is_within (sp_is_within K A) := by
  have G_is_integer : FnOk P w K mg base CX0 1 A.a_is_integer A.d_is_integer P_is_integer (sp_is_integer K A) := ok_is_integer T
  refine T.F_is_within.ok sc_is_within (fun vs H Q E h => by obtain ⟨_, _, _, rfl, _⟩ := h; rfl) (fun cdv AA outer s H vs Q E hr h => ?_)
  obtain ⟨x, lo, hi, rfl, h⟩ := h
  have hr_is_integer : Room 1 _ := hr.mono (by decide)
  refine ⟨_, (pss_one (ps_ret (pe_and (pe_call G_is_integer hr_is_integer rfl T.m_is_integer T.F_is_integer.kp T.B_is_integer .nil pass0 (pa_cons (pv 0) pa_nil)) (pe_one (pe_chain op_le op_le (pv 1) (pv 0) (pv 2)))))), ?_⟩
  obtain ⟨hk, l, h, rfl, rfl, q⟩ := h
  refine ⟨_, rfl, _, rfl, hk, _, rfl, ?_⟩
  cases x with
  | int i =>
    refine iteT ⟨_, rfl, _, rfl, _, _, rfl, rfl, _, rfl, ?_⟩
    by_cases c : l ≤ i
    · rw [decide_eq_true c]
      refine iteT ⟨_, rfl, _, _, rfl, rfl, ?_⟩
      rw [show within (.int i) l h = (true && decide (i ≤ h)) by simp [within, c]] at q
      exact q
    · rw [decide_eq_false c]
      refine iteF ?_
      rw [show within (.int i) l h = false by simp [within, c]] at q
      exact q
  | _ => exact iteF q
theorem ok_is_prime (T : Txt K mg A) : FnOk P w K mg base CX0 3 A.a_is_prime A.d_is_prime P_is_prime (sp_is_prime K A) := by
  have G_is_within : FnOk P w K mg base CX0 2 A.a_is_within A.d_is_within P_is_within (sp_is_within K A) := ok_is_within T
  refine T.F_is_prime.ok sc_is_prime (fun vs H Q E h => by obtain ⟨_, rfl, _⟩ := h; rfl) (fun cdv AA outer s H vs Q E hr h => ?_)
  obtain ⟨x, rfl, h⟩ := h
  have hr_is_within : Room 2 _ := hr.mono (by decide)
  refine ⟨_, (pss_cons (ps_if (pt_not (pt_val (pe_call G_is_within hr_is_within rfl T.m_is_within T.F_is_within.kp T.B_is_within .nil pass0 (pa_cons (pv 0) (pa_cons (pe_glob (v := .int 5) rfl T.c_LEAST_PRIME.choose_spec (show RelV (.int 5) _ from ⟨_, rfl⟩)) (pa_cons (pe_glob (v := .int 251) rfl T.c_MOST_PRIME.choose_spec (show RelV (.int 251) _ from ⟨_, rfl⟩)) pa_nil)))))) (pss_one (ps_ret pe_bl)) pss_nil)
      (pss_one (ps_ret (pe_callB (cr_all rfl) (by rfl) T.b_all (by decide +kernel) (pa_cons (pe_lc (own := [("divisor", 1)]) (g := gName 1) (by rfl) sc_is_prime.nd (pi_range2 (by rfl) T.b_range (pa_cons pe_int (pa_cons (pv 0) pa_nil))) (blkOk_by (own := [("divisor", 1)]) (N := N_is_prime) (sc := defScope s_is_prime) (by decide +kernel)) (fun _ _ _ _ _ => (pg_name (i := 1) sc_is_prime.nd rfl (Or.inl rfl))) (fun _ _ _ _ _ => (pts_one (pt_cmpR op_le (pe_op op_mul (pv 1) (pv 1)) (pv 0) (nomark _)))) (fun _ _ _ _ _ => (pe_cmpR op_ne (pe_op op_mod (pv 0) (pv 1)) pe_int (nomark _)))) pa_nil))))), ?_⟩
  obtain ⟨hk, q⟩ := h
  refine ⟨_, rfl, _, _, _, rfl, hk, _, _, rfl, rfl, _, rfl, ?_⟩
  refine iteN (fun c => ?_) (fun c => ?_)
  · have z := q H (Same.refl H)
    have e : primeV x = false := by
      cases x <;> first | rfl | (simp only [within] at c; simp only [primeV, primeB, c, Bool.false_and])
    rw [e] at z
    exact z
  · obtain ⟨n, rfl, h1, h2⟩ := within_int c
    refine ⟨_, rfl, _, _, rfl, ⟨by decide, by decide, by omega, by omega⟩, fun D hD => ?_⟩
    refine lc_rangeP (j := 1) (fun i => decide ((2 + (i : Int)) * (2 + (i : Int)) ≤ n)) (fun i => V.bl (!decide (n % (2 + (i : Int)) = 0))) hD (by omega) (fun i hi H1 s1 Q1 q1 => ?_) (fun i hi _ H1 s1 Q1 q1 => ?_) (fun H1 s1 h1 => ?_)
    · exact ⟨_, rfl, _, rfl, _, _, rfl, rfl, .inl ⟨by omega, by omega⟩, _, rfl, _, _, rfl, rfl, _, rfl, q1 H1 (Same.refl _)⟩
    · refine ⟨_, rfl, _, rfl, _, _, rfl, rfl, (by omega : (0 : Int) < 2 + (i : Int)), rfl, ?_⟩
      have z := q1 H1 (Same.refl _)
      rwa [← dec_intP] at z
    · refine ⟨D, ((List.range (n - 2).toNat).filter fun (i : Nat) => decide ((2 + (i : Int)) * (2 + (i : Int)) ≤ n)).map (fun (i : Nat) => !decide (n % (2 + (i : Int)) = 0)), rfl, SqL.of (by rw [List.map_map]; exact h1), ?_⟩
      have z := q H1 s1
      have e : primeV (.int n) = (((List.range (n - 2).toNat).filter fun (i : Nat) => decide ((2 + (i : Int)) * (2 + (i : Int)) ≤ n)).map (fun (i : Nat) => !decide (n % (2 + (i : Int)) = 0))).all id := by
        show primeB n = _
        unfold primeB
        rw [decide_eq_true (by omega : (5 : Int) ≤ n), decide_eq_true (by omega : n ≤ 251), Bool.true_and, Bool.true_and]
      rw [e] at z
      exact z
theorem ok_check_prime (T : Txt K mg A) : FnOk P w K mg base (L2.CX P w) 4 A.a_check_prime A.d_check_prime P_check_prime (sp_check_prime K A) := by
  have G_is_prime : FnOk P w K mg base CX0 3 A.a_is_prime A.d_is_prime P_is_prime (sp_is_prime K A) := ok_is_prime T
  refine T.F_check_prime.okX sc_check_prime (fun vs H Q E h => by obtain ⟨_, rfl, _⟩ := h; rfl) (fun cdv AA outer s H vs Q E hr h => ?_)
  obtain ⟨x, rfl, h⟩ := h
  have hr_is_prime : Room 3 _ := hr.mono (by decide)
  refine ⟨_, (pss_one (ps_if (pt_not (pt_val (pe_call G_is_prime hr_is_prime rfl T.m_is_prime T.F_is_prime.kp T.B_is_prime .nil pass0 (pa_cons (pv 0) pa_nil)))) (pss_one (ps_raise rfl (takes_of rfl rfl rfl rfl) (pmk_own0 PySem.F.excBase_ValueError T.x_NoPrime T.g_NoPrime T.k_NoPrime (raises_own T.s_NoPrime T.t_NoPrime) rfl))) pss_nil)), ?_⟩
  obtain ⟨hk, q1, q2⟩ := h
  exact ⟨_, rfl, _, rfl, hk, fun H1 s1 => ⟨_, rfl, iteN (fun c => q1 c H1 s1) (fun c => q2 c H1 s1)⟩⟩
theorem ok_check_size (T : Txt K mg A) : FnOk P w K mg base (L2.CX P w) 3 A.a_check_size A.d_check_size P_check_size (sp_check_size K A) := by
  have G_is_within : FnOk P w K mg base CX0 2 A.a_is_within A.d_is_within P_is_within (sp_is_within K A) := ok_is_within T
  refine T.F_check_size.okX sc_check_size (fun vs H Q E h => by obtain ⟨_, rfl, _⟩ := h; rfl) (fun cdv AA outer s H vs Q E hr h => ?_)
  obtain ⟨x, rfl, h⟩ := h
  have hr_is_within : Room 2 _ := hr.mono (by decide)
  refine ⟨_, (pss_one (ps_if (pt_not (pt_val (pe_call G_is_within hr_is_within rfl T.m_is_within T.F_is_within.kp T.B_is_within .nil pass0 (pa_cons (pv 0) (pa_cons pe_int (pa_cons (pe_glob (v := .int 8) rfl T.c_MOST_SIZE.choose_spec (show RelV (.int 8) _ from ⟨_, rfl⟩)) pa_nil)))))) (pss_one (ps_raise rfl (takes_of rfl rfl rfl rfl) (pmk_own0 PySem.F.excBase_ValueError T.x_NoNumber T.g_NoNumber T.k_NoNumber (raises_own T.s_NoNumber T.t_NoNumber) rfl))) pss_nil)), ?_⟩
  obtain ⟨hk, q1, q2⟩ := h
  exact ⟨_, rfl, _, _, _, rfl, hk, _, _, rfl, rfl, _, rfl, iteN (fun c => q1 c) (fun c => q2 c)⟩

theorem ok__law_deck (T : Txt K mg A) : FnOk P w K mg base CX0 1 A.a__law_deck A.d__law_deck P__law_deck (sp__law_deck K A) := by
  refine T.F__law_deck.ok sc__law_deck (fun vs H Q E h => by obtain ⟨_, rfl, _⟩ := h; rfl) (fun cdv AA outer s H vs Q E hr h => ?_)
  obtain ⟨x, rfl, h⟩ := h
  refine ⟨_, (pss_cons (ps_set (i := 1) sc__law_deck.nd rfl (Or.inl rfl) pe_int)
      (pss_cons (ps_for PassesOwn.never rfl (pi_list (pv 0)) (pg_name (i := 2) sc__law_deck.nd rfl (Or.inl rfl))
      (pss_one (ps_set (i := 1) sc__law_deck.nd rfl (Or.inl rfl) (pe_op op_mod (pe_callTy call_int1 (by rfl) T.b_int (by decide +kernel) (pa_cons (pe_op op_add (pe_op op_mul (pv 1) pe_int) (pv 2)) pa_nil)) pe_int))))
      (pss_one (ps_ret (pe_lst (pa_cons (pe_callTy call_list_of (by rfl) T.b_list (by decide +kernel) (pa_cons (pv 0) pa_nil)) (pa_cons pe_int (pa_cons pe_int (pa_cons pe_int (pa_cons (pv 1) pa_nil)))))))))), ?_⟩
  obtain ⟨a, ns, rfl, hS, q⟩ := h
  refine ⟨_, rfl, a, rfl, ⟨_, hS⟩, for_list (K := K) (a := a) (xs := ns.map V.int) (fun i σ H' => ∃ (z : Int) (v : Option V), σ = [some (.ref a), some (.int z), v] ∧ H' = H) ⟨1, none, rfl, rfl⟩ (fun i σ H' _ ⟨_, _, _, e⟩ => by rw [e]; exact hS) ?_ ?_⟩
  · rintro i y σ H' hi ⟨z, v, rfl, rfl⟩
    obtain ⟨u, rfl, _⟩ := map_at hi
    exact ⟨_, rfl, _, _, rfl, rfl, .inr ⟨by decide, by decide⟩, _, rfl, _, _, rfl, rfl, .inl ⟨_, rfl, _, _, rfl, rfl, (by decide : (0 : Int) < 998244353), _, _, rfl, rfl⟩⟩
  · rintro σ H' ⟨z, v, rfl, rfl⟩
    refine ⟨_, rfl, a, _, rfl, .inl hS, fun l hl => ⟨_, rfl, (by decide : 5 ≤ sizeLine), fun d hd => ?_⟩⟩
    have n1 : l ≠ d := ne_of_none upd_same hd
    refine q _ d ((Same.new hl).trans (Same.new hd)) ((Same.new hl).free hd) ⟨l, ns, _, _, _, _, upd_same, ?_, by decide, by decide⟩
    rw [upd_ne n1]
    exact upd_same
theorem ok__law_mixed (T : Txt K mg A) : FnOk P w K mg base CX0 1 A.a__law_mixed A.d__law_mixed P__law_mixed (sp__law_mixed K A) := by
  refine T.F__law_mixed.ok sc__law_mixed (fun vs H Q E h => by obtain ⟨_, _, rfl, _⟩ := h; rfl) (fun cdv AA outer s H vs Q E hr h => ?_)
  obtain ⟨x, y, rfl, h⟩ := h
  refine ⟨_, (pss_cons (ps_set (i := 2) sc__law_mixed.nd rfl (Or.inl rfl) (pe_op op_mod (pe_op op_mul (pe_callTy call_int1 (by rfl) T.b_int (by decide +kernel) (pa_cons (pe_op op_add (pe_op op_add (pv 0) (pe_op op_mul pe_int (pv 1))) pe_int) pa_nil)) pe_int) pe_int))
      (pss_cons (ps_set (i := 2) sc__law_mixed.nd rfl (Or.inl rfl) (pe_op op_mod (pe_callTy call_int1 (by rfl) T.b_int (by decide +kernel) (pa_cons (pe_op op_mul (pv 2) (pe_op op_add (pe_op op_fdiv (pv 2) pe_int) pe_int)) pa_nil)) pe_int))
      (pss_cons (ps_set (i := 2) sc__law_mixed.nd rfl (Or.inl rfl) (pe_op op_mod (pe_callTy call_int1 (by rfl) T.b_int (by decide +kernel) (pa_cons (pe_op op_mul (pv 2) (pe_op op_add (pe_op op_add (pe_op op_fdiv (pv 2) pe_int) pe_int) (pv 1))) pa_nil)) pe_int))
      (pss_one (ps_ret (pe_op op_fdiv (pv 2) pe_int)))))), ?_⟩
  obtain ⟨i, j, rfl, rfl, q⟩ := h
  have b7 : ∀ z : Int, -(2 ^ 64) < z % 2147483647 ∧ z % 2147483647 < 2 ^ 64 := fun z => ⟨by omega, by omega⟩
  refine ⟨_, rfl, _, rfl, _, _, rfl, rfl, .inl ⟨by decide, by decide⟩, _, _, rfl, rfl, _, _, rfl, rfl, .inl ⟨_, rfl, _, _, rfl, rfl, .inr ⟨by decide, by decide⟩, _, _, rfl, rfl, (by decide : (0 : Int) < 2147483647), ?_⟩⟩
  refine ⟨_, rfl, _, rfl, _, _, rfl, rfl, ⟨by decide, by decide⟩, _, _, rfl, rfl, _, _, rfl, rfl, .inl (b7 _), .inl ⟨_, rfl, _, _, rfl, rfl, (by decide : (0 : Int) < 2147483647), ?_⟩⟩
  refine ⟨_, rfl, _, rfl, _, _, rfl, rfl, ⟨by decide, by decide⟩, _, _, rfl, rfl, _, rfl, _, _, rfl, rfl, _, _, rfl, rfl, .inl (b7 _), .inl ⟨_, rfl, _, _, rfl, rfl, (by decide : (0 : Int) < 2147483399), ?_⟩⟩
  exact ⟨_, rfl, _, _, rfl, rfl, ⟨by decide, by decide⟩, q _⟩
theorem ok__law_draw (T : Txt K mg A) : FnOk P w K mg base CX0 2 A.a__law_draw A.d__law_draw P__law_draw (sp__law_draw K A) := by
  have G__law_mixed : FnOk P w K mg base CX0 1 A.a__law_mixed A.d__law_mixed P__law_mixed (sp__law_mixed K A) := ok__law_mixed T
  refine T.F__law_draw.ok sc__law_draw (fun vs H Q E h => by obtain ⟨_, _, rfl, _⟩ := h; rfl) (fun cdv AA outer s H vs Q E hr h => ?_)
  obtain ⟨x, y, rfl, h⟩ := h
  have hr__law_mixed : Room 1 _ := hr.mono (by decide)
  refine ⟨_, (pss_cons (ps_asg (pe_op op_add (pe_ix ix_list (pv 0) pe_int (fun _ _ => rfl)) pe_int) (pg_sub (pv 0) pe_int set_list))
      (C8.pss_cut (ps_if (PW.pt (pw_and (pt_cmpR op_eq (pe_ix ix_list (pv 0) pe_int (fun _ _ => rfl)) pe_int (nomark _)) (pw_and1 (pt_cmpR op_lt (pe_ix ix_list (pv 0) pe_int (fun _ _ => rfl)) (pe_callB call_len_seq (by rfl) T.b_len (by decide +kernel) (pa_cons (pe_ix ix_list (pv 0) pe_int (fun _ _ => rfl)) pa_nil)) (nomark _))))) (pss_cons (ps_set (i := 2) sc__law_draw.nd rfl (Or.inl rfl) (pe_ix ix_list (pe_ix ix_list (pv 0) pe_int (fun _ _ => rfl)) (pe_ix ix_list (pv 0) pe_int (fun _ _ => rfl)) (fun _ _ => rfl)))
      (pss_cons (ps_asg (pe_op op_add (pe_ix ix_list (pv 0) pe_int (fun _ _ => rfl)) pe_int) (pg_sub (pv 0) pe_int set_list))
      (pss_cons (ps_if (pt_chain op_lt op_lt (pe_un un_neg (pe_op op_pow pe_int pe_int)) (pv 2) (pe_op op_pow pe_int pe_int)) (pss_one (ps_ret (pe_op op_mod (pe_callTy call_int1 (by rfl) T.b_int (by decide +kernel) (pa_cons (pe_call G__law_mixed hr__law_mixed rfl T.m__law_mixed T.F__law_mixed.kp T.B__law_mixed .nil pass0 (pa_cons (pv 2) (pa_cons (pe_ix ix_list (pv 0) pe_int (fun _ _ => rfl)) pa_nil))) pa_nil)) (pv 1)))) pss_nil)
      (pss_one (ps_asg (pe_callB call_abs (by rfl) T.b_abs (by decide +kernel) (pa_cons (pv 2) pa_nil)) (pg_sub (pv 0) pe_int set_list)))))) pss_nil)
      (pss_cons (ps_if (pt_cmpR op_gt (pe_ix ix_list (pv 0) pe_int (fun _ _ => rfl)) pe_int (nomark _)) (pss_cons (ps_set (i := 3) sc__law_draw.nd rfl (Or.inl rfl) (pe_op op_mod (pe_callTy call_int1 (by rfl) T.b_int (by decide +kernel) (pa_cons (pe_ix ix_list (pv 0) pe_int (fun _ _ => rfl)) pa_nil)) (pv 1)))
      (pss_cons (ps_asg (pe_op op_fdiv (pe_ix ix_list (pv 0) pe_int (fun _ _ => rfl)) (pv 1)) (pg_sub (pv 0) pe_int set_list))
      (pss_one (ps_ret (pv 3))))) pss_nil)
      (pss_one (ps_ret (pe_op op_mod (pe_callTy call_int1 (by rfl) T.b_int (by decide +kernel) (pa_cons (pe_call G__law_mixed hr__law_mixed rfl T.m__law_mixed T.F__law_mixed.kp T.B__law_mixed .nil pass0 (pa_cons (pe_ix ix_list (pv 0) pe_int (fun _ _ => rfl)) (pa_cons (pe_ix ix_list (pv 0) pe_int (fun _ _ => rfl)) pa_nil))) pa_nil)) (pv 1))))))), ?_⟩
  obtain ⟨d, l, n, rfl, rfl, hn, hn2, hd, q⟩ := h
  obtain ⟨ns, i, p, t, z, h1, h2, hi, hp⟩ := hd
  have nld : l ≠ d := ne_of h2 h1 (by intro e; cases ns <;> simp at e)
  refine ⟨_, rfl, d, _, _, _, rfl, rfl, SqL.of h1, rfl, _, _, rfl, rfl, _, rfl, d, _, _, _, rfl, rfl, h1, rfl, ?_⟩
  refine put_any (o' := .lst [.ref l, .int i, .int p, .int (t + 1), .int z]) rfl fun H1 g0 g1 => ?_
  have g2 : H1 l = some (.lst (ns.map V.int)) := g0 _ _ nld h2
  -- behind the if: the place and the pool are some
  refine ⟨fun σ' H' => ∃ (v2 v3 : Option V) (i' p' : Int), σ' = [some (.ref d), some (.int n), v2, v3] ∧ Chg d H H' ∧ H' d = some (.lst [.ref l, .int i', .int p', .int (t + 1), .int z]) ∧ 0 ≤ i' ∧ 0 ≤ p', ?_, ?_⟩
  · refine ⟨_, rfl, d, _, _, _, rfl, rfl, SqL.of g1, rfl, rfl, _, rfl, ?_⟩
    refine iteB (fun c => ?_) (fun c => iteF ⟨none, none, i, p, rfl, g0, g1, hi, hp⟩)
    refine ⟨_, rfl, d, _, _, _, rfl, rfl, SqL.of g1, rfl, _, rfl, d, _, _, _, rfl, rfl, SqL.of g1, rfl, l, _, rfl, .inl (SqL.of g2), _, _, rfl, rfl, _, rfl, ?_⟩
    refine iteB (fun c2 => ?_) (fun c2 => ⟨none, none, i, p, rfl, g0, g1, hi, hp⟩)
    have c3 : i < ((ns.map V.int).length : Int) := of_decide_eq_true c2
    rw [List.length_map] at c3
    obtain ⟨cell, hc⟩ := at_int hi c3
    refine ⟨_, rfl, d, _, _, _, rfl, rfl, SqL.of g1, rfl, _, rfl, d, _, _, _, rfl, rfl, SqL.of g1, rfl, l, _, _, _, rfl, rfl, SqL.of g2, hc, ?_⟩
    refine ⟨_, rfl, d, _, _, _, rfl, rfl, SqL.of g1, rfl, _, _, rfl, rfl, _, rfl, d, _, _, _, rfl, rfl, g1, rfl, ?_⟩
    refine put_any (o' := .lst [.ref l, .int (i + 1), .int p, .int (t + 1), .int z]) rfl fun H2 k00 k1 => ?_
    have k0 := g0.trans k00
    have k2 : H2 l = some (.lst (ns.map V.int)) := k0 _ _ nld h2
    have w10 : ∀ σ : L2.St, Val (tOp (rI CPow fun i j => .int (i ^ j.toNat)) (tC (.int 10)) (tC (.int 18))) σ H2 (.int (10 ^ 18)) := fun σ Q q => ⟨_, _, rfl, rfl, ⟨by decide, by decide, by decide⟩, q⟩
    have w11 : ∀ σ : L2.St, Val (tUn (rU fun i => .int (-i)) (tOp (rI CPow fun i j => .int (i ^ j.toNat)) (tC (.int 10)) (tC (.int 18)))) σ H2 (.int (-(10 ^ 18))) := fun σ Q q => by
      refine w10 σ _ ?_
      exact ⟨_, rfl, q⟩
    refine ans_chainLt (w11 _) (val_var (i := 2) (v := .int cell) rfl) (w10 _) _ ?_
    refine iteB (fun c4 => ?_) (fun c4 => ?_)
    · refine ⟨_, rfl, _, rfl, d, _, _, _, rfl, rfl, SqL.of k1, rfl, _, _, rfl, _, _, rfl, rfl, fun r => .inl ⟨_, rfl, _, rfl, _, _, rfl, rfl, hn, ?_⟩⟩
      exact q _ _ (Int.emod_nonneg _ (by omega)) (Int.emod_lt_of_pos _ hn) ⟨ns, _, _, _, _, k1, k2, by omega, hp⟩ k0
    · refine ⟨_, rfl, _, rfl, _, rfl, d, _, _, _, rfl, rfl, k1, rfl, ?_⟩
      exact ⟨_, none, i + 1, _, rfl, k0.trans Chg.upd, upd_same, by omega, by split <;> omega⟩
  · rintro σ' H' ⟨v2, v3, i', p', rfl, s1, e1, hi', hp'⟩
    have e2 : H' l = some (.lst (ns.map V.int)) := s1 _ _ nld h2
    refine ⟨_, rfl, d, _, _, _, rfl, rfl, SqL.of e1, rfl, _, _, rfl, rfl, _, rfl, ?_⟩
    refine iteB (fun c => ?_) (fun c => ?_)
    · refine ⟨_, rfl, d, _, _, _, rfl, rfl, SqL.of e1, rfl, .inl ⟨_, rfl, _, rfl, _, _, rfl, rfl, hn, ?_⟩⟩
      refine ⟨_, rfl, d, _, _, _, rfl, rfl, SqL.of e1, rfl, _, rfl, _, _, rfl, rfl, ⟨hn, by omega⟩, _, rfl, d, _, _, _, rfl, rfl, e1, rfl, ?_⟩
      refine ⟨_, rfl, q _ _ (Int.emod_nonneg _ (by omega)) (Int.emod_lt_of_pos _ hn) ⟨ns, _, _, _, _, upd_same, ?_, hi', Int.ediv_nonneg hp' (by omega)⟩ (s1.trans Chg.upd)⟩
      rw [upd_ne nld]
      exact e2
    · refine ⟨_, rfl, d, _, _, _, rfl, rfl, SqL.of e1, rfl, _, rfl, d, _, _, _, rfl, rfl, SqL.of e1, rfl, _, _, rfl, _, _, rfl, rfl, fun r => .inl ⟨_, rfl, _, rfl, _, _, rfl, rfl, hn, ?_⟩⟩
      exact q _ _ (Int.emod_nonneg _ (by omega)) (Int.emod_lt_of_pos _ hn) ⟨ns, _, _, _, _, e1, e2, hi', hp'⟩ s1
theorem ok__law_primes (T : Txt K mg A) : FnOk P w K mg base CX0 1 A.a__law_primes A.d__law_primes P__law_primes (sp__law_primes K A) := by
  refine T.F__law_primes.ok sc__law_primes (fun vs H Q E h => by obtain ⟨rfl, _⟩ := h; rfl) (fun cdv AA outer s H vs Q E hr h => ?_)
  obtain ⟨rfl, h⟩ := h
  refine ⟨_, (pss_cons (ps_set (i := 0) sc__law_primes.nd rfl (Or.inl rfl) (pe_lst pa_nil))
      (pss_cons (ps_for PassesOwn.never rfl (pi_range2 (by rfl) T.b_range (pa_cons pe_int (pa_cons pe_int pa_nil))) (pg_name (i := 1) sc__law_primes.nd rfl (Or.inr rfl))
      (pss_one (ps_if (pt_val (pe_callB (cr_all rfl) (by rfl) T.b_all (by decide +kernel) (pa_cons (pe_lc (own := [("_law_one", 2)]) (g := gName 2) (by rfl) sc__law_primes.nd (pi_range2 (by rfl) T.b_range (pa_cons pe_int (pa_cons pe_int pa_nil))) (blkOk_by (own := [("_law_one", 2)]) (N := N__law_primes) (sc := defScope s__law_primes) (by decide +kernel)) (fun _ _ _ _ _ => (pg_name (i := 2) sc__law_primes.nd rfl (Or.inl rfl))) (fun _ _ _ _ _ => (pts_one (pt_cmpR op_lt (pv 2) (pv 1) (nomark _)))) (fun _ _ _ _ _ => (pe_cmpR op_gt (pe_op op_mod (pe_callTy call_int1 (by rfl) T.b_int (by decide +kernel) (pa_cons (pv 1) pa_nil)) (pv 2)) pe_int (nomark _)))) pa_nil))) (pss_one (ps_expr (pe_bm PySem.F.plainAttrs_list PySem.F.slot_list_append PySem.F.type_list_append mt_append (pv 0) (pa_cons (pv 1) pa_nil)))) pss_nil)))
      (pss_one (ps_ret (pv 0))))), ?_⟩
  have q := h
  refine ⟨Nat.zero_le _, fun p hp => ?_⟩
  refine ⟨_, _, rfl, ⟨by decide, by decide, by decide, by decide⟩, for_range (lo := 5) (n := 247) (fun i σ H' => ∃ v : Option V, σ = [some (.ref p), v, none] ∧ Same H H' ∧ H' p = some (.lst (((List.range i).filter fun (i : Nat) => lawP (5 + (i : Int))).map fun (i : Nat) => V.int (5 + (i : Int)))))
    ⟨none, rfl, Same.new hp, upd_same⟩ ?_ ?_⟩
  · rintro i σ H1 hi ⟨v, rfl, s1, e1⟩
    refine ⟨_, _, rfl, ⟨by decide, by decide, by decide, by decide⟩, fun D hD => ?_⟩
    refine lc_rangeP (j := 2) (lo := 2) (n := 14) (fun j => decide ((2 + (j : Int)) < 5 + (i : Int))) (fun j => V.bl (decide (0 < (5 + (i : Int)) % (2 + (j : Int))))) hD (by decide) (fun j hj H2 s2 Q2 q2 => ?_) (fun j hj _ H2 s2 Q2 q2 => ?_) (fun H2 s2 h2 => ?_)
    · exact ⟨_, rfl, _, rfl, _, _, rfl, rfl, _, rfl, q2 H2 (Same.refl _)⟩
    · exact ⟨_, rfl, .inl ⟨_, rfl, _, rfl, _, _, rfl, rfl, (by omega : (0 : Int) < 2 + (j : Int)), _, _, rfl, rfl, q2 H2 (Same.refl _)⟩⟩
    · have ep : H2 p = some (.lst (((List.range i).filter fun (i : Nat) => lawP (5 + (i : Int))).map fun (i : Nat) => V.int (5 + (i : Int)))) := s2 _ _ e1
      refine ⟨D, ((List.range 14).filter fun (j : Nat) => decide ((2 + (j : Int)) < 5 + (i : Int))).map (fun (j : Nat) => decide (0 < (5 + (i : Int)) % (2 + (j : Int)))), rfl, SqL.of (by rw [List.map_map]; exact h2), _, rfl, iteB (fun c => ?_) (fun c => ?_)⟩
      · refine ⟨_, rfl, .inl ⟨rfl, _, SqL.of ep⟩, _, rfl, p, _, _, rfl, rfl, ep, Nat.lt_of_le_of_lt (filt_len _ _ i) (Nat.lt_of_lt_of_le hi (by decide)), ?_⟩
        refine ⟨_, rfl, fun b o e => ?_, ?_⟩
        · rw [upd_ne (ne_of_none e hp)]
          exact s2 _ _ (s1 _ _ e)
        · rw [filt_step (fun (i : Nat) => lawP (5 + (i : Int))), if_pos (show lawP (5 + (i : Int)) = true from c)]
          exact upd_same
      · refine ⟨_, rfl, s1.trans s2, ?_⟩
        rw [filt_step (fun (i : Nat) => lawP (5 + (i : Int))), if_neg (by rw [show lawP (5 + (i : Int)) = false from c]; decide), List.append_nil]
        exact ep
  · rintro σ H1 ⟨v, rfl, s1, e1⟩
    refine ⟨_, rfl, q _ p s1 hp ?_⟩
    rw [e1]
    unfold lawL
    rw [List.map_map]
    rfl
theorem ok__law_raised (T : Txt K mg A) : FnOk P w K mg base CX0 1 A.a__law_raised A.d__law_raised P__law_raised (sp__law_raised K A) := by
  refine T.F__law_raised.ok sc__law_raised (fun vs H Q E h => by obtain ⟨_, _, rfl, _⟩ := h; rfl) (fun cdv AA outer s H vs Q E hr h => ?_)
  obtain ⟨x, y, rfl, h⟩ := h
  refine ⟨_, (pss_cons (ps_set (i := 2) sc__law_raised.nd rfl (Or.inl rfl) pe_int)
      (pss_cons (ps_set (i := 3) sc__law_raised.nd rfl (Or.inl rfl) (pv 0))
      (pss_cons (ps_set (i := 4) sc__law_raised.nd rfl (Or.inl rfl) (pv 1))
      (pss_cons (ps_for PassesOwn.never rfl (pi_range1 (by rfl) T.b_range (pa_cons pe_int pa_nil)) (pg_name (i := 5) sc__law_raised.nd rfl (Or.inl rfl))
      (C8.pss_cut (ps_if (pt_cmpR op_eq (pe_op op_mod (pe_callTy call_int1 (by rfl) T.b_int (by decide +kernel) (pa_cons (pv 4) pa_nil)) pe_int) pe_int (nomark _)) (pss_one (ps_set (i := 2) sc__law_raised.nd rfl (Or.inl rfl) (pe_op op_mulW (pv 2) (pv 3)))) pss_nil)
      (pss_cons (ps_set (i := 4) sc__law_raised.nd rfl (Or.inl rfl) (pe_op op_fdiv (pv 4) pe_int))
      (pss_one (ps_if (pt_cmpR op_gt (pv 4) pe_int (nomark _)) (pss_one (ps_set (i := 3) sc__law_raised.nd rfl (Or.inl rfl) (pe_op op_mulW (pv 3) (pv 3)))) pss_nil)))))
      (pss_one (ps_ret (pv 2))))))), ?_⟩
  obtain ⟨b, t, rfl, rfl, h1, h2, h3, q⟩ := h
  refine ⟨_, rfl, _, rfl, _, rfl, by decide, by decide, for_range (lo := 0) (n := 20) (fun i σ H' => ∃ (f p l : Int) (v : Option V), σ = [some (.int b), some (.int t), some (.int f), some (.int p), some (.int l), v] ∧ Sq b t i f p l ∧ H' = H)
    ⟨1, b, t, none, rfl, Sq.start h1, rfl⟩ ?_ ?_⟩
  · rintro i σ H1 hi ⟨f, p, l, v, rfl, S, rfl⟩
    have l0 : 0 ≤ l := by rw [S.l]; exact Int.natCast_nonneg _
    have l1 : l % 2 = 1 → 0 < l := fun _ => by omega
    have l2 : 0 < l / 2 → 0 < l := fun _ => by omega
    obtain ⟨b1, b2⟩ := S.bits h2 h3
    refine ⟨fun σ' H' => σ' = [some (.int b), some (.int t), some (.int (if l % 2 = 1 then f * p else f)), some (.int p), some (.int l), some (.int (0 + (i : Int)))] ∧ H' = H1, ?_, ?_⟩
    · refine ⟨_, rfl, .inl ⟨_, rfl, _, _, rfl, rfl, (by decide : (0 : Int) < 2), rfl, _, rfl, iteB (fun c => ?_) (fun c => ?_)⟩⟩
      · rw [dec_intP] at c
        have c := of_decide_eq_true c
        refine ⟨_, rfl, _, rfl, _, _, rfl, rfl, wide_mul b1 (b2 (l1 c)) (by decide) (by decide) (by decide), ?_⟩
        rw [if_pos c]
        exact ⟨rfl, rfl⟩
      · rw [dec_intP] at c
        have c := of_decide_eq_false c
        rw [if_neg c]
        exact ⟨rfl, rfl⟩
    · rintro σ' H' ⟨rfl, rfl⟩
      refine ⟨_, rfl, _, _, rfl, rfl, ⟨by decide, by decide⟩, _, rfl, _, _, rfl, rfl, _, rfl, iteB (fun c => ?_) (fun c => ?_)⟩
      · have c := of_decide_eq_true c
        have b3 := b2 (l2 c)
        exact ⟨_, rfl, _, rfl, _, _, rfl, rfl, wide_mul b3 b3 (by decide) (by decide) (by decide), _, _, _, _, rfl, S.turn rfl (by rw [if_pos c]), rfl⟩
      · have c := of_decide_eq_false c
        exact ⟨_, _, _, _, rfl, S.turn rfl (by rw [if_neg c]), rfl⟩
  · rintro σ H1 ⟨f, p, l, v, rfl, S, rfl⟩
    refine ⟨_, rfl, ?_⟩
    rw [← S.done (by omega)] at q
    exact q
end
end My

set_option Elab.async false
set_option linter.all false
set_option maxRecDepth 100000
set_option maxHeartbeats 4000000
namespace My
open PySem PySem.Spec PyProof.Rows L2
section
variable {P : Program} {w : World} {K : PySem.W.Frag} {mg : Str → Option Value} {base : Heap} {A : Ad}
theorem ok__law_is_within (T : Txt K mg A) : FnOk P w K mg base CX0 1 A.a__law_is_within A.d__law_is_within P__law_is_within (sp__law_is_within K A) := by
  refine T.F__law_is_within.ok sc__law_is_within (fun vs H Q E h => by obtain ⟨_, _, _, rfl, _⟩ := h; rfl) (fun cdv AA outer s H vs Q E hr h => ?_)
  obtain ⟨x, lo, hi, rfl, h⟩ := h
  refine ⟨_, (pss_one (ps_ret (pe_and (pe_callB (id := "isinstance") (r := rIsi K) call_isi (by rfl) T.b_isinstance (by decide +kernel) (pa_cons (pv 0) (pa_cons (pe_bltn (by rfl) T.b_int (by decide +kernel) (show RelV (.ty "int") (.type "int") from rfl)) pa_nil))) (pe_and (pe_not (pe_callB (id := "isinstance") (r := rIsi K) call_isi (by rfl) T.b_isinstance (by decide +kernel) (pa_cons (pv 0) (pa_cons (pe_bltn (by rfl) T.b_bool (by decide +kernel) (show RelV (.ty "bool") (.type "bool") from rfl)) pa_nil)))) (pe_one (pe_chain op_le op_le (pv 1) (pv 0) (pv 2))))))), ?_⟩
  obtain ⟨⟨k, hk⟩, l, h, rfl, rfl, q⟩ := h
  obtain ⟨t1, y1, z1⟩ := hk.isi "int" (by decide)
  obtain ⟨t2, y2, z2⟩ := hk.isi "bool" (by decide)
  have e := hk.isI
  refine ⟨_, rfl, _, _, _, _, _, rfl, .ty _, y1, z1, _, rfl, ?_⟩
  cases h1 : k.is "int" with
  | false =>
    rw [h1] at e
    rw [within_not e.symm] at q
    exact iteF q
  | true =>
    refine iteT ⟨_, rfl, _, _, _, _, _, rfl, .ty _, y2, z2, _, rfl, _, rfl, ?_⟩
    rw [h1] at e
    cases h2 : k.is "bool" with
    | true =>
      rw [h2] at e
      rw [within_not e.symm] at q
      exact iteF q
    | false =>
      rw [h2] at e
      obtain ⟨i, rfl⟩ := isI_int e.symm
      refine iteT ⟨_, rfl, _, rfl, _, _, rfl, rfl, _, rfl, ?_⟩
      by_cases c : l ≤ i
      · rw [decide_eq_true c]
        refine iteT ⟨_, rfl, _, _, rfl, rfl, ?_⟩
        rw [show within (.int i) l h = (true && decide (i ≤ h)) by simp [within, c]] at q
        exact q
      · rw [decide_eq_false c]
        refine iteF ?_
        rw [show within (.int i) l h = false by simp [within, c]] at q
        exact q
theorem ok__law_due (T : Txt K mg A) : FnOk P w K mg base CX0 2 A.a__law_due A.d__law_due P__law_due (sp__law_due K A) := by
  have G__law_primes : FnOk P w K mg base CX0 1 A.a__law_primes A.d__law_primes P__law_primes (sp__law_primes K A) := ok__law_primes T
  have G__law_raised : FnOk P w K mg base CX0 1 A.a__law_raised A.d__law_raised P__law_raised (sp__law_raised K A) := ok__law_raised T
  have G__law_is_within : FnOk P w K mg base CX0 1 A.a__law_is_within A.d__law_is_within P__law_is_within (sp__law_is_within K A) := ok__law_is_within T
  refine T.F__law_due.ok sc__law_due (fun vs H Q E h => by obtain ⟨_, _, _, _, _, rfl, _⟩ := h; rfl) (fun cdv AA outer s H vs Q E hr h => ?_)
  obtain ⟨p, s, l, f, b, rfl, h⟩ := h
  have hr__law_primes : Room 1 _ := hr.mono (by decide)
  have hr__law_raised : Room 1 _ := hr.mono (by decide)
  have hr__law_is_within : Room 1 _ := hr.mono (by decide)
  refine ⟨_, (pss_cons (ps_if (PW.pt (pw_or (pt_not (pt_val (pe_call G__law_is_within hr__law_is_within rfl T.m__law_is_within T.F__law_is_within.kp T.B__law_is_within .nil pass0 (pa_cons (pv 0) (pa_cons pe_int (pa_cons pe_int pa_nil)))))) (pw_or1 (pt_cmpR op_notIn_seq (pv 0) (pe_call0 G__law_primes hr__law_primes rfl T.m__law_primes T.F__law_primes.kp T.B__law_primes .nil pass0) (by rfl))))) (pss_one (ps_ret pe_str)) pss_nil)
      (pss_cons (ps_if (PW.pt (pw_or (pt_not (pt_val (pe_call G__law_is_within hr__law_is_within rfl T.m__law_is_within T.F__law_is_within.kp T.B__law_is_within .nil pass0 (pa_cons (pv 1) (pa_cons pe_int (pa_cons pe_int pa_nil)))))) (pw_or1 (pt_not (pt_val (pe_call G__law_is_within hr__law_is_within rfl T.m__law_is_within T.F__law_is_within.kp T.B__law_is_within .nil pass0 (pa_cons (pv 2) (pa_cons pe_int (pa_cons pe_int pa_nil))))))))) (pss_one (ps_ret pe_str)) pss_nil)
      (pss_cons (ps_if (PW.pt (pw_or (pt_not (pt_val (pe_call G__law_is_within hr__law_is_within rfl T.m__law_is_within T.F__law_is_within.kp T.B__law_is_within .nil pass0 (pa_cons (pv 3) (pa_cons pe_int (pa_cons pe_int pa_nil)))))) (pw_or1 (pt_not (pt_val (pe_call G__law_is_within hr__law_is_within rfl T.m__law_is_within T.F__law_is_within.kp T.B__law_is_within .nil pass0 (pa_cons (pv 4) (pa_cons pe_int (pa_cons pe_int pa_nil))))))))) (pss_one (ps_ret pe_str)) pss_nil)
      (pss_one (ps_ret (pe_cmpR op_lt (pe_call G__law_raised hr__law_raised rfl T.m__law_raised T.F__law_raised.kp T.B__law_raised .nil pass0 (pa_cons (pe_op op_add (pv 0) pe_int) (pa_cons (pe_op op_mul (pv 2) (pv 4)) pa_nil))) (pe_call G__law_raised hr__law_raised rfl T.m__law_raised T.F__law_raised.kp T.B__law_raised .nil pass0 (pa_cons (pv 0) (pa_cons (pe_op op_mul (pv 1) (pv 3)) pa_nil))) (nomark _))))))), ?_⟩
  obtain ⟨ht, q⟩ := h
  refine ⟨_, rfl, _, _, _, rfl, ht.one (by simp), _, _, rfl, rfl, _, rfl, ?_⟩
  refine iteN (fun c => iteT ?_) (fun c => ?_)
  · have z := q H (Same.refl H)
    have e : primeV p = false := by
      cases p <;> first | rfl | (simp only [within] at c; simp only [primeV, primeB, c, Bool.false_and])
    rw [dueV_prime e] at z
    exact z
  obtain ⟨n, rfl, n1, n2⟩ := within_int c
  have en : primeV (.int n) = lawL.contains n := prime_law n1 n2
  refine ⟨_, rfl, rfl, fun H1 pp s1 np ep => ⟨pp, lawL.map V.int, rfl, .inl (SqL.of ep), rfl, flat_ints, _, rfl, ?_⟩⟩
  show (if (!inV (.int n) (lawL.map V.int)) = true then _ else _)
  rw [in_ints, ← en]
  have ht1 := ht.same s1
  refine iteN (fun c1 => ?_) (fun c1 => ?_)
  · have z := q H1 s1
    rw [dueV_prime c1] at z
    exact z
  refine ⟨_, rfl, _, _, _, rfl, ht1.one (by simp), _, _, rfl, rfl, _, rfl, iteN (fun c2 => iteT ?_) (fun c2 => ⟨_, rfl, _, _, _, rfl, ht1.one (by simp), _, _, rfl, rfl, _, rfl, iteN (fun c3 => ?_) (fun c3 => ?_)⟩)⟩
  · have z := q H1 s1
    rw [dueV_num1 c1 (by rw [c2]; rfl)] at z
    exact z
  · have z := q H1 s1
    rw [dueV_num1 c1 (by rw [c2, c3]; rfl)] at z
    exact z
  refine ⟨_, rfl, _, _, _, rfl, ht1.one (by simp), _, _, rfl, rfl, _, rfl, iteN (fun c4 => iteT ?_) (fun c4 => ⟨_, rfl, _, _, _, rfl, ht1.one (by simp), _, _, rfl, rfl, _, rfl, iteN (fun c5 => ?_) (fun c5 => ?_)⟩)⟩
  · have z := q H1 s1
    rw [dueV_num2 c1 (by rw [c4]; rfl)] at z
    exact z
  · have z := q H1 s1
    rw [dueV_num2 c1 (by rw [c4, c5]; rfl)] at z
    exact z
  obtain ⟨s, rfl, s3, s4⟩ := within_int c2
  obtain ⟨l, rfl, l1, l2⟩ := within_int c3
  obtain ⟨f, rfl, f1, f2⟩ := within_int c4
  obtain ⟨b, rfl, b1, b2⟩ := within_int c5
  have z := q H1 s1
  rw [dueV_few c1 c2 c3 c4 c5] at z
  have m1 : 0 ≤ l * b ∧ l * b ≤ 24000 := ⟨Int.mul_nonneg l1 b1, Int.le_trans (Int.mul_le_mul l2 b2 b1 (by decide)) (by decide)⟩
  have m2 : 0 ≤ s * f ∧ s * f ≤ 24000 := ⟨Int.mul_nonneg (by omega) f1, Int.le_trans (Int.mul_le_mul s4 f2 f1 (by decide)) (by decide)⟩
  have e1 : V.int (n + 1) = V.int ((n.toNat + 1 : Nat) : Int) := congrArg V.int (by omega)
  have e2 : V.int (l * b) = V.int ((l * b).toNat : Int) := congrArg V.int (by omega)
  have e3 : V.int n = V.int (n.toNat : Int) := congrArg V.int (by omega)
  have e4 : V.int (s * f) = V.int ((s * f).toNat : Int) := congrArg V.int (by omega)
  refine ⟨_, rfl, _, _, rfl, rfl, _, rfl, _, rfl, _, _, rfl, rfl, .inl ⟨by omega, by omega⟩, _, _, rfl, n.toNat + 1, (l * b).toNat, e1, e2, by omega, by omega, by omega, ?_⟩
  refine ⟨_, rfl, _, rfl, _, rfl, _, _, rfl, rfl, .inl ⟨by omega, by omega⟩, _, _, rfl, n.toNat, (s * f).toNat, e3, e4, by omega, by omega, by omega, ?_⟩
  refine ⟨_, _, rfl, rfl, ?_⟩
  rw [← few_cast] at z
  exact z
theorem ok_too_few (T : Txt K mg A) : FnOk P w K mg base (L2.CX P w) 5 A.a_too_few A.d_too_few P_too_few (sp_too_few K A) := by
  have G_is_within : FnOk P w K mg base CX0 2 A.a_is_within A.d_is_within P_is_within (sp_is_within K A) := ok_is_within T
  have G_check_prime : FnOk P w K mg base (L2.CX P w) 4 A.a_check_prime A.d_check_prime P_check_prime (sp_check_prime K A) := ok_check_prime T
  have G_check_size : FnOk P w K mg base (L2.CX P w) 3 A.a_check_size A.d_check_size P_check_size (sp_check_size K A) := ok_check_size T
  refine T.F_too_few.okX sc_too_few (fun vs H Q E h => by obtain ⟨_, _, _, _, _, rfl, _⟩ := h; rfl) (fun cdv AA outer s H vs Q E hr h => ?_)
  obtain ⟨p, s, l, f, b, rfl, h⟩ := h
  have hr_is_within : Room 2 _ := hr.mono (by decide)
  have hr_check_prime : Room 4 _ := hr.mono (by decide)
  have hr_check_size : Room 3 _ := hr.mono (by decide)
  refine ⟨_, (pss_cons (ps_expr (pe_call G_check_prime hr_check_prime rfl T.m_check_prime T.F_check_prime.kp T.B_check_prime .nil (passes_call (takes_of rfl rfl rfl rfl) (fun _ _ _ _ h => h)) (pa_cons (pv 0) pa_nil)))
      (pss_cons (ps_expr (pe_call G_check_size hr_check_size rfl T.m_check_size T.F_check_size.kp T.B_check_size .nil (passes_call (takes_of rfl rfl rfl rfl) (fun _ _ _ _ h => h)) (pa_cons (pv 1) pa_nil)))
      (pss_cons (ps_if (PW.pt (pw_or (pt_not (pt_val (pe_call G_is_within hr_is_within rfl T.m_is_within T.F_is_within.kp T.B_is_within .nil pass0 (pa_cons (pv 2) (pa_cons pe_int (pa_cons (pe_glob (v := .int 60) rfl T.c_MOST_LINKS.choose_spec (show RelV (.int 60) _ from ⟨_, rfl⟩)) pa_nil)))))) (pw_or (pt_not (pt_val (pe_call G_is_within hr_is_within rfl T.m_is_within T.F_is_within.kp T.B_is_within .nil pass0 (pa_cons (pv 3) (pa_cons pe_int (pa_cons (pe_glob (v := .int 400) rfl T.c_MOST_ROWS.choose_spec (show RelV (.int 400) _ from ⟨_, rfl⟩)) pa_nil)))))) (pw_or1 (pt_not (pt_val (pe_call G_is_within hr_is_within rfl T.m_is_within T.F_is_within.kp T.B_is_within .nil pass0 (pa_cons (pv 4) (pa_cons pe_int (pa_cons (pe_glob (v := .int 400) rfl T.c_MOST_ROWS.choose_spec (show RelV (.int 400) _ from ⟨_, rfl⟩)) pa_nil)))))))))) (pss_one (ps_raise rfl (takes_of rfl rfl rfl rfl) (pmk_own0 PySem.F.excBase_ValueError T.x_NoNumber T.g_NoNumber T.k_NoNumber (raises_own T.s_NoNumber T.t_NoNumber) rfl))) pss_nil)
      (pss_cons (ps_set (i := 5) sc_too_few.nd rfl (Or.inl rfl) pe_int)
      (pss_cons (ps_for (passes_of rfl) rfl (pi_range1 (by rfl) T.b_range (pa_cons (pe_op op_mul (pv 2) (pv 4)) pa_nil)) (pg_name (i := 6) sc_too_few.nd rfl (Or.inl rfl))
      (pss_one (ps_set (i := 5) sc_too_few.nd rfl (Or.inl rfl) (pe_op op_mulW (pv 5) (pe_op op_add (pv 0) pe_int)))))
      (pss_cons (ps_set (i := 7) sc_too_few.nd rfl (Or.inl rfl) pe_int)
      (pss_cons (ps_for (passes_of rfl) rfl (pi_range1 (by rfl) T.b_range (pa_cons (pe_op op_mul (pv 1) (pv 3)) pa_nil)) (pg_name (i := 6) sc_too_few.nd rfl (Or.inl rfl))
      (pss_one (ps_set (i := 7) sc_too_few.nd rfl (Or.inl rfl) (pe_op op_mul (pv 7) (pv 0)))))
      (pss_one (ps_ret (pe_cmpR op_lt (pv 5) (pv 7) (nomark _))))))))))), ?_⟩
  obtain ⟨ht, q1, q2, q3⟩ := h
  refine ⟨_, rfl, _, rfl, ht.one (by simp), fun c H1 s1 => q1 (dueV_prime c) H1 s1, fun c1 H1 s1 => ?_⟩
  have ht1 := ht.same s1
  refine ⟨_, rfl, _, rfl, ht1.one (by simp), fun c => q2 (dueV_num1 c1 (by rw [c]; rfl)) H1 s1, fun c2 => ?_⟩
  refine ⟨_, rfl, _, _, _, rfl, ht1.one (by simp), _, _, rfl, rfl, _, rfl, iteN (fun c3 => iteT ?_) (fun c3 => ⟨_, rfl, _, _, _, rfl, ht1.one (by simp), _, _, rfl, rfl, _, rfl, iteN (fun c4 => iteT ?_) (fun c4 => ⟨_, rfl, _, _, _, rfl, ht1.one (by simp), _, _, rfl, rfl, _, rfl, iteN (fun c5 => ?_) (fun c5 => ?_)⟩)⟩)⟩
  · exact q2 (dueV_num1 c1 (by rw [c2, c3]; rfl)) H1 s1
  · exact q2 (dueV_num2 c1 (by rw [c4]; rfl)) H1 s1
  · exact q2 (dueV_num2 c1 (by rw [c4, c5]; rfl)) H1 s1
  obtain ⟨n, rfl, n0, n1, n2⟩ := primeV_int c1
  obtain ⟨s, rfl, s3, s4⟩ := within_int c2
  obtain ⟨l, rfl, l1, l2⟩ := within_int c3
  obtain ⟨f, rfl, f1, f2⟩ := within_int c4
  obtain ⟨b, rfl, b1, b2⟩ := within_int c5
  have z := q3 _ (dueV_few n0 c2 c3 c4 c5) H1 s1
  have m1 : 0 ≤ l * b ∧ l * b ≤ 24000 := ⟨Int.mul_nonneg l1 b1, Int.le_trans (Int.mul_le_mul l2 b2 b1 (by decide)) (by decide)⟩
  have m2 : 0 ≤ s * f ∧ s * f ≤ 24000 := ⟨Int.mul_nonneg (by omega) f1, Int.le_trans (Int.mul_le_mul s4 f2 f1 (by decide)) (by decide)⟩
  refine ⟨_, rfl, _, rfl, _, _, rfl, rfl, .inl ⟨by omega, by omega⟩, _, rfl, by omega, by omega, for_range (lo := 0) (n := (l * b).toNat) (fun i σ H' => ∃ v : Option V, σ = [some (.int n), some (.int s), some (.int l), some (.int f), some (.int b), some (.int (((n.toNat + 1) ^ i : Nat) : Int)), v, none] ∧ H' = H1)
    ⟨none, rfl, rfl⟩ ?_ ?_⟩
  · rintro i σ H2 hi ⟨v, rfl, rfl⟩
    have e : (((n.toNat + 1) ^ i : Nat) : Int) * (n + 1) = (((n.toNat + 1) ^ (i + 1) : Nat) : Int) := by
      rw [show n + 1 = ((n.toNat + 1 : Nat) : Int) by omega, ← Int.natCast_mul, Nat.pow_succ]
    have k1 : n.toNat + 1 ≤ 256 := by omega
    have k2 : i ≤ 24000 := by omega
    have k3 : (n + 1).natAbs < 2 ^ 8 := by omega
    refine ⟨_, rfl, _, rfl, _, _, rfl, rfl, _, _, rfl, rfl, wide_mul (pow_bits k1 k2) k3 (by decide) (by decide) (by decide), some (.int (0 + (i : Int))), ?_, rfl⟩
    rw [← e]
    rfl
  rintro σ H2 ⟨v, rfl, rfl⟩
  refine ⟨_, rfl, _, rfl, _, _, rfl, rfl, .inl ⟨by omega, by omega⟩, _, rfl, by omega, by omega, for_range (lo := 0) (n := (s * f).toNat) (fun i σ H' => ∃ v : Option V, σ = [some (.int n), some (.int s), some (.int l), some (.int f), some (.int b), some (.int (((n.toNat + 1) ^ (l * b).toNat : Nat) : Int)), v, some (.int ((n.toNat ^ i : Nat) : Int))] ∧ H' = H2)
    ⟨_, rfl, rfl⟩ ?_ ?_⟩
  · rintro i σ H3 hi ⟨v, rfl, rfl⟩
    have e : ((n.toNat ^ i : Nat) : Int) * n = ((n.toNat ^ (i + 1) : Nat) : Int) := by
      rw [Nat.pow_succ, Int.natCast_mul, show ((n.toNat : Nat) : Int) = n by omega]
    refine ⟨_, rfl, _, rfl, _, _, rfl, rfl, .inr ⟨by omega, by omega⟩, some (.int (0 + (i : Int))), ?_, rfl⟩
    rw [← e]
    rfl
  rintro σ H3 ⟨v2, rfl, rfl⟩
  refine ⟨_, rfl, _, rfl, _, _, rfl, rfl, ?_⟩
  rw [← few_cast] at z
  exact z
theorem ok__law_told (T : Txt K mg A) : FnOk P w K mg base CX0 6 A.a__law_told A.d__law_told P__law_told (sp__law_told K A) := by
  have G_too_few : FnOk P w K mg base (L2.CX P w) 5 A.a_too_few A.d_too_few P_too_few (sp_too_few K A) := ok_too_few T
  refine T.F__law_told.ok sc__law_told (fun vs H Q E h => by obtain ⟨_, _, _, _, _, rfl, _⟩ := h; rfl) (fun cdv AA outer s H vs Q E hr h => ?_)
  obtain ⟨p, s, l, f, b, rfl, h⟩ := h
  have hr_too_few : Room 5 _ := hr.mono (by decide)
  refine ⟨_, (pss_cons (ps_set (i := 5) sc__law_told.nd rfl (Or.inl rfl) pe_non)
      (pss_cons (ps_set (i := 6) sc__law_told.nd rfl (Or.inl rfl) pe_bl)
      (pss_cons (ps_try_asL (Wo := fun _ _ _ _ => False) rfl rfl sc__law_told.nd takes0 (fun W pn xe tk _ => (pss_cons (ps_set (i := 5) sc__law_told.nd rfl (Or.inl rfl) (pe_callS G_too_few hr_too_few rfl T.m_too_few T.F_too_few.kp T.B_too_few (fun σ => passAt tk σ) (pa_cons (pv 0) (pa_cons (pv 1) (pa_cons (pv 2) (pa_cons (pv 3) (pa_cons (pv 4) pa_nil)))))))
      (pss_one (ps_set (i := 6) sc__law_told.nd rfl (Or.inl rfl) (pe_callB (id := "isinstance") (r := rIsi K) call_isi (by rfl) T.b_isinstance (by decide +kernel) (pa_cons (pv 5) (pa_cons (pe_bltn (by rfl) T.b_bool (by decide +kernel) (show RelV (.ty "bool") (.type "bool") from rfl)) pa_nil)))))))
      (ClsOk.cons (i := 7) rfl rfl ⟨rfl, by decide, .inl T.g_NoPrime⟩ (fun e ob cl d pn hz hf => (pss_cons (ps_set (i := 5) sc__law_told.nd rfl (Or.inl rfl) pe_str)
      (pss_one (ps_set (i := 6) sc__law_told.nd rfl (Or.inl rfl) (pe_callB (id := "isinstance") (r := rIsX K cl d e) (call_isX hz hf) (by rfl) T.b_isinstance (by decide +kernel) (pa_cons (pv 7) (pa_cons (pe_glob (v := .ref A.e_TreeError) rfl T.g_TreeError rfl) pa_nil))))))) (ClsOk.cons (i := 7) rfl rfl ⟨rfl, by decide, .inl T.g_NoNumber⟩ (fun e ob cl d pn hz hf => (pss_cons (ps_set (i := 5) sc__law_told.nd rfl (Or.inl rfl) pe_str)
      (pss_one (ps_set (i := 6) sc__law_told.nd rfl (Or.inl rfl) (pe_callB (id := "isinstance") (r := rIsX K cl d e) (call_isX hz hf) (by rfl) T.b_isinstance (by decide +kernel) (pa_cons (pv 7) (pa_cons (pe_glob (v := .ref A.e_TreeError) rfl T.g_TreeError rfl) pa_nil))))))) ClsOk.nil)))
      (pss_one (ps_ret (pe_ifExp (pt_val (pv 6)) (pv 5) pe_non)))))), ?_⟩
  obtain ⟨ht, q⟩ := h
  -- found = None; good = True; try: found = too_few(..); good = isinstance(found, bool)
  refine ⟨_, rfl, _, rfl, _, rfl, _, rfl, _, rfl, _, _, _, _, _, rfl, ht, fun c H1 s1 => ?_, fun c H1 s1 => ?_, fun r c H1 s1 => ?_⟩
  · have z := q H1 s1
    rw [c] at z
    refine ⟨true, PySem.W.exm_ref T.s_NoPrime T.i_NoPrime.hd T.t_NoPrime T.r_NoPrime_NoPrime, fun _ e _ => ?_, fun y => Bool.noConfusion y⟩
    refine ⟨_, rfl, A.e_NoPrime, _, _, _, rfl, rfl, T.i_NoPrime, rfl, (fun u hu => hu), kit_ref T.i_TreeError.hd T.t_TreeError T.r_NoPrime_TreeError (fun _ => rfl), ?_⟩
    exact ⟨_, rfl, _, rfl, iteT ⟨_, rfl, z⟩⟩
  · have z := q H1 s1
    rw [c] at z
    refine ⟨false, PySem.W.exm_ref T.s_NoPrime T.i_NoPrime.hd T.t_NoPrime T.r_NoNumber_NoPrime, fun y => Bool.noConfusion y, fun _ => ?_⟩
    refine ⟨true, PySem.W.exm_ref T.s_NoNumber T.i_NoNumber.hd T.t_NoNumber T.r_NoNumber_NoNumber, fun _ e _ => ?_, fun y => Bool.noConfusion y⟩
    refine ⟨_, rfl, A.e_NoNumber, _, _, _, rfl, rfl, T.i_NoNumber, rfl, (fun u hu => hu), kit_ref T.i_TreeError.hd T.t_TreeError T.r_NoNumber_TreeError (fun _ => rfl), ?_⟩
    exact ⟨_, rfl, _, rfl, iteT ⟨_, rfl, z⟩⟩
  · have z := q H1 s1
    rw [c] at z
    refine ⟨_, rfl, _, _, _, _, _, rfl, .ty _, .base (.bl r), kit_ty (b := "bool") (r := true) (by decide +kernel), ?_⟩
    exact ⟨_, rfl, _, rfl, iteT ⟨_, rfl, z⟩⟩
theorem ok__law_is_right (T : Txt K mg A) : FnOk P w K mg base CX0 7 A.a__law_is_right A.d__law_is_right P__law_is_right (sp__law_is_right K A) := by
  have G__law_due : FnOk P w K mg base CX0 2 A.a__law_due A.d__law_due P__law_due (sp__law_due K A) := ok__law_due T
  have G__law_told : FnOk P w K mg base CX0 6 A.a__law_told A.d__law_told P__law_told (sp__law_told K A) := ok__law_told T
  refine T.F__law_is_right.ok sc__law_is_right (fun vs H Q E h => by obtain ⟨_, _, _, _, _, rfl, _⟩ := h; rfl) (fun cdv AA outer s H vs Q E hr h => ?_)
  obtain ⟨p, s, l, f, b, rfl, h⟩ := h
  have hr__law_due : Room 2 _ := hr.mono (by decide)
  have hr__law_told : Room 6 _ := hr.mono (by decide)
  refine ⟨_, (pss_cons (ps_set (i := 5) sc__law_is_right.nd rfl (Or.inl rfl) (pe_call G__law_due hr__law_due rfl T.m__law_due T.F__law_due.kp T.B__law_due .nil pass0 (pa_cons (pv 0) (pa_cons (pv 1) (pa_cons (pv 2) (pa_cons (pv 3) (pa_cons (pv 4) pa_nil)))))))
      (pss_one (ps_ret (pe_cmpR op_eq (pe_call G__law_told hr__law_told rfl T.m__law_told T.F__law_told.kp T.B__law_told .nil pass0 (pa_cons (pv 0) (pa_cons (pv 1) (pa_cons (pv 2) (pa_cons (pv 3) (pa_cons (pv 4) pa_nil)))))) (pv 5) (nomark _))))), ?_⟩
  obtain ⟨ht, q⟩ := h
  refine ⟨_, rfl, _, rfl, _, rfl, _, rfl, _, rfl, _, _, _, _, _, rfl, ht, fun H1 s1 => ⟨_, rfl, _, rfl, _, rfl, _, rfl, _, rfl, _, _, _, _, _, rfl, ht.same s1, fun H2 s2 => ⟨_, rfl, due_scal _ _ _ _ _, ?_⟩⟩⟩
  have z := q H2 (s1.trans s2)
  rw [← decide_eq_true (rfl : dueV p s l f b = dueV p s l f b)] at z
  exact z
theorem ok__law_is_behind (T : Txt K mg A) : FnOk P w K mg base CX0 7 A.a__law_is_behind A.d__law_is_behind P__law_is_behind (sp__law_is_behind K A) := by
  have G__law_told : FnOk P w K mg base CX0 6 A.a__law_told A.d__law_told P__law_told (sp__law_told K A) := ok__law_told T
  refine T.F__law_is_behind.ok sc__law_is_behind (fun vs H Q E h => by obtain ⟨_, _, _, _, rfl, _⟩ := h; rfl) (fun cdv AA outer s H vs Q E hr h => ?_)
  obtain ⟨p, s, l, t, rfl, h⟩ := h
  have hr__law_told : Room 6 _ := hr.mono (by decide)
  refine ⟨_, (pss_cons (ps_set (i := 4) sc__law_is_behind.nd rfl (Or.inl rfl) (pe_op op_mul (pv 3) (pv 1)))
      (pss_cons (ps_for PassesOwn.never rfl (pi_range1 (by rfl) T.b_range (pa_cons pe_int pa_nil)) (pg_name (i := 5) sc__law_is_behind.nd rfl (Or.inl rfl))
      (C8.pss_cut (ps_if (PW.pt (pw_and (pt_cmpR op_le (pv 4) pe_int (nomark _)) (pw_and1 (pt_cmpR op_isBl (pe_call G__law_told hr__law_told rfl T.m__law_told T.F__law_told.kp T.B__law_told .nil pass0 (pa_cons (pv 0) (pa_cons (pv 1) (pa_cons (pv 2) (pa_cons (pe_callB (call_max2 rfl) (by rfl) T.b_max (by decide +kernel) (pa_cons pe_int (pa_cons (pe_op op_sub (pv 4) (pv 3)) pa_nil))) (pa_cons (pv 4) pa_nil)))))) pe_bl (nomark _))))) (pss_one (ps_ret pe_bl)) pss_nil)
      (pss_one (ps_set (i := 4) sc__law_is_behind.nd rfl (Or.inl rfl) (pe_op op_add (pe_op op_mul pe_int (pv 4)) pe_int)))))
      (pss_one (ps_ret pe_bl)))), ?_⟩
  obtain ⟨a, b, c, rfl, rfl, rfl, rfl, ha, b1, b2, c1, c2, q⟩ := h
  obtain ⟨a1, a2, a3⟩ := lawL_prime a ha
  have m0 : 0 ≤ c * b := Int.mul_nonneg (by omega) (by omega)
  refine ⟨_, rfl, _, rfl, _, _, rfl, rfl, .inl ⟨by omega, by omega⟩, _, rfl, by decide, by decide, for_range (lo := 0) (n := 9) (fun i σ H' => ∃ (z : Int) (v : Option V), σ = [some (.int a), some (.int b), some (.int (b - 1)), some (.int c), some (.int z), v] ∧ Same H H' ∧ 0 ≤ z ∧ behindB a b c (9 - i) z = true)
    ⟨_, none, rfl, Same.refl _, m0, behind_ok ha b1 b2 c1 c2⟩ ?_ ?_⟩
  · rintro i σ H1 hi ⟨z, v, rfl, s1, z0, hb⟩
    obtain ⟨k, hk⟩ : ∃ k, 9 - i = k + 1 := ⟨9 - i - 1, by omega⟩
    rw [hk] at hb
    have hk2 : 9 - (i + 1) = k := by omega
    refine ⟨fun σ' H' => σ' = [some (.int a), some (.int b), some (.int (b - 1)), some (.int c), some (.int z), some (.int (0 + (i : Int)))] ∧ Same H H' ∧ behindB a b c k (2 * z + 1) = true, ?_, ?_⟩
    · refine ⟨_, rfl, _, _, rfl, rfl, _, rfl, iteB (fun c4 => ?_) (fun c4 => ?_)⟩
      · have c4 := of_decide_eq_true c4
        refine ⟨_, rfl, _, rfl, _, rfl, _, rfl, _, rfl, _, _, rfl, rfl, _, _, rfl, _, rfl, _, _, _, _, _, rfl, ?_, fun H2 s2 => ?_⟩
        · intro x hx
          have : ∃ n, x = V.int n := by
            simp only [List.mem_cons, List.not_mem_nil, or_false] at hx
            rcases hx with h | h | h | h | h <;> exact ⟨_, h⟩
          obtain ⟨n, rfl⟩ := this
          exact ⟨.int, .int n, by decide⟩
        have e : dueV (.int a) (.int b) (.int (b - 1)) (.int (if z - c > 0 then z - c else 0)) (.int z) = .bl (few a b (b - 1) (if 0 < z - c then z - c else 0) z) := by
          refine dueV_few a3 (by simp only [within, Bool.and_eq_true, decide_eq_true_eq]; omega) (by simp only [within, Bool.and_eq_true, decide_eq_true_eq]; omega) ?_ (by simp only [within, Bool.and_eq_true, decide_eq_true_eq]; omega)
          simp only [within, Bool.and_eq_true, decide_eq_true_eq]
          split <;> omega
        refine ⟨_, _, e, rfl, _, rfl, iteB (fun c5 => ?_) (fun c5 => ?_)⟩
        · exact q H2 (s1.trans s2)
        · refine ⟨rfl, s1.trans s2, ?_⟩
          unfold behindB at hb
          have c5 := of_decide_eq_false c5
          cases hf : few a b (b - 1) (if 0 < z - c then z - c else 0) z with
          | true => exact absurd hf c5
          | false =>
            rw [hf, Bool.and_false, Bool.false_or] at hb
            exact hb
      · refine ⟨rfl, s1, ?_⟩
        unfold behindB at hb
        rw [c4, Bool.false_and, Bool.false_or] at hb
        exact hb
    · rintro σ' H2 ⟨rfl, s2, hb2⟩
      refine ⟨_, rfl, _, _, rfl, rfl, .inl ⟨by decide, by decide⟩, _, _, rfl, rfl, _, _, rfl, s2, by omega, ?_⟩
      rw [hk2]
      exact hb2
  · rintro σ H1 ⟨z, v, rfl, s1, z0, hb⟩
    exact (Bool.false_ne_true (show false = true from hb)).elim
end
end My

set_option Elab.async false
set_option linter.all false
set_option maxRecDepth 100000
set_option maxHeartbeats 4000000
namespace My
open PySem PySem.Spec PyProof.Rows L2

def spLaw (K : PySem.W.Frag) : Sp := Sp1 fun x H Q _ => ∃ (a : Addr) (ns : List Int), x = .ref a ∧ SqL K H a (ns.map V.int) ∧ ns.length ≤ 63 ∧ ∀ H', Q (.bl true) H'
def sp_law (K : PySem.W.Frag) (A : Ad) : Sp := spLaw K
theorem ths5 {K : PySem.W.Frag} {H : Hp} {a b c d e : V} (h1 : Tg H a) (h2 : Tg H b) (h3 : Tg H c) (h4 : Tg H d) (h5 : Tg H e) : Ths K H [a, b, c, d, e] := fun x hx => by
  simp only [List.mem_cons, List.not_mem_nil, or_false] at hx
  rcases hx with rfl | rfl | rfl | rfl | rfl
  · exact h1.th
  · exact h2.th
  · exact h3.th
  · exact h4.th
  · exact h5.th
theorem few_ok {p s l f b : Int} (hp : p ∈ lawL) (s1 : 1 ≤ s) (s2 : s ≤ 8) (l1 : 0 ≤ l) (l2 : l ≤ 60) (f1 : 0 ≤ f) (f2 : f ≤ 400) (b1 : 0 ≤ b) (b2 : b ≤ 400) : dueV (.int p) (.int s) (.int l) (.int f) (.int b) = .bl (few p s l f b) :=
  dueV_few (lawL_prime p hp).2.2 (within_mk s1 s2) (within_mk l1 l2) (within_mk f1 f2) (within_mk b1 b2)
section
variable {P : Program} {w : World} {K : PySem.W.Frag} {mg : Str → Option Value} {base : Heap} {A : Ad}
theorem ok_law (T : Txt K mg A) : FnOk P w K mg base CX0 8 A.a_law A.d_law P_law (sp_law K A) := by
  have G_too_few : FnOk P w K mg base (L2.CX P w) 5 A.a_too_few A.d_too_few P_too_few (sp_too_few K A) := ok_too_few T
  have G__law_deck : FnOk P w K mg base CX0 1 A.a__law_deck A.d__law_deck P__law_deck (sp__law_deck K A) := ok__law_deck T
  have G__law_draw : FnOk P w K mg base CX0 2 A.a__law_draw A.d__law_draw P__law_draw (sp__law_draw K A) := ok__law_draw T
  have G__law_primes : FnOk P w K mg base CX0 1 A.a__law_primes A.d__law_primes P__law_primes (sp__law_primes K A) := ok__law_primes T
  have G__law_is_right : FnOk P w K mg base CX0 7 A.a__law_is_right A.d__law_is_right P__law_is_right (sp__law_is_right K A) := ok__law_is_right T
  have G__law_is_behind : FnOk P w K mg base CX0 7 A.a__law_is_behind A.d__law_is_behind P__law_is_behind (sp__law_is_behind K A) := ok__law_is_behind T
  refine T.F_law.ok sc_law (fun vs H Q E h => by obtain ⟨_, rfl, _⟩ := h; rfl) (fun cdv AA outer s H vs Q E hr h => ?_)
  obtain ⟨x, rfl, h⟩ := h
  have hr_too_few : Room 5 _ := hr.mono (by decide)
  have hr__law_deck : Room 1 _ := hr.mono (by decide)
  have hr__law_draw : Room 2 _ := hr.mono (by decide)
  have hr__law_primes : Room 1 _ := hr.mono (by decide)
  have hr__law_is_right : Room 7 _ := hr.mono (by decide)
  have hr__law_is_behind : Room 7 _ := hr.mono (by decide)
  refine ⟨_, (pss_cons (ps_set (i := 1) sc_law.nd rfl (Or.inl rfl) (pe_call G__law_deck hr__law_deck rfl T.m__law_deck T.F__law_deck.kp T.B__law_deck .nil pass0 (pa_cons (pv 0) pa_nil)))
      (pss_cons (ps_set (i := 2) sc_law.nd rfl (Or.inl rfl) (pe_call0 G__law_primes hr__law_primes rfl T.m__law_primes T.F__law_primes.kp T.B__law_primes .nil pass0))
      (pss_cons (ps_set (i := 3) sc_law.nd rfl (Or.inl rfl) (pe_ix ix_list (pv 2) (pe_call G__law_draw hr__law_draw rfl T.m__law_draw T.F__law_draw.kp T.B__law_draw .nil pass0 (pa_cons (pv 1) (pa_cons (pe_ix ix_list (pe_lst (pa_cons pe_int (pa_cons (pe_callB call_len_seq (by rfl) T.b_len (by decide +kernel) (pa_cons (pv 2) pa_nil)) pa_nil))) (pe_call G__law_draw hr__law_draw rfl T.m__law_draw T.F__law_draw.kp T.B__law_draw .nil pass0 (pa_cons (pv 1) (pa_cons pe_int pa_nil))) (fun _ _ => rfl)) pa_nil))) (fun _ _ => rfl)))
      (pss_cons (ps_set (i := 4) sc_law.nd rfl (Or.inl rfl) (pe_op op_add pe_int (pe_call G__law_draw hr__law_draw rfl T.m__law_draw T.F__law_draw.kp T.B__law_draw .nil pass0 (pa_cons (pv 1) (pa_cons pe_int pa_nil)))))
      (pss_cons (ps_set (i := 5) sc_law.nd rfl (Or.inl rfl) (pe_ix ix_list (pe_lst (pa_cons (pv 4) (pa_cons (pe_op op_sub (pv 4) pe_int) (pa_cons (pe_call G__law_draw hr__law_draw rfl T.m__law_draw T.F__law_draw.kp T.B__law_draw .nil pass0 (pa_cons (pv 1) (pa_cons pe_int pa_nil))) (pa_cons (pe_call G__law_draw hr__law_draw rfl T.m__law_draw T.F__law_draw.kp T.B__law_draw .nil pass0 (pa_cons (pv 1) (pa_cons pe_int pa_nil))) pa_nil))))) (pe_call G__law_draw hr__law_draw rfl T.m__law_draw T.F__law_draw.kp T.B__law_draw .nil pass0 (pa_cons (pv 1) (pa_cons pe_int pa_nil))) (fun _ _ => rfl)))
      (pss_cons (ps_set (i := 6) sc_law.nd rfl (Or.inl rfl) (pe_lst (pa_cons (pe_call G__law_draw hr__law_draw rfl T.m__law_draw T.F__law_draw.kp T.B__law_draw .nil pass0 (pa_cons (pv 1) (pa_cons pe_int pa_nil))) (pa_cons (pe_call G__law_draw hr__law_draw rfl T.m__law_draw T.F__law_draw.kp T.B__law_draw .nil pass0 (pa_cons (pv 1) (pa_cons pe_int pa_nil))) (pa_cons (pe_call G__law_draw hr__law_draw rfl T.m__law_draw T.F__law_draw.kp T.B__law_draw .nil pass0 (pa_cons (pv 1) (pa_cons pe_int pa_nil))) (pa_cons pe_int pa_nil))))))
      (pss_cons (ps_set (i := 6) sc_law.nd rfl (Or.inl rfl) (pe_ix ix_list (pv 6) (pe_ix ix_list (pe_lst (pa_cons pe_int (pa_cons pe_int (pa_cons pe_int (pa_cons pe_int (pa_cons pe_int (pa_cons pe_int (pa_cons pe_int (pa_cons pe_int pa_nil))))))))) (pe_call G__law_draw hr__law_draw rfl T.m__law_draw T.F__law_draw.kp T.B__law_draw .nil pass0 (pa_cons (pv 1) (pa_cons pe_int pa_nil))) (fun _ _ => rfl)) (fun _ _ => rfl)))
      (pss_cons (ps_set (i := 7) sc_law.nd rfl (Or.inl rfl) (pe_callB (call_max2 rfl) (by rfl) T.b_max (by decide +kernel) (pa_cons pe_int (pa_cons (pe_callB (call_min2 rfl) (by rfl) T.b_min (by decide +kernel) (pa_cons pe_int (pa_cons (pe_op op_sub (pe_op op_add (pe_op op_fdiv (pe_op op_mul (pv 5) (pv 6)) (pv 4)) (pe_call G__law_draw hr__law_draw rfl T.m__law_draw T.F__law_draw.kp T.B__law_draw .nil pass0 (pa_cons (pv 1) (pa_cons pe_int pa_nil)))) pe_int) pa_nil))) pa_nil))))
      (C8.pss_cut (ps_if (pt_cmpR op_eq (pe_call G__law_draw hr__law_draw rfl T.m__law_draw T.F__law_draw.kp T.B__law_draw .nil pass0 (pa_cons (pv 1) (pa_cons pe_int pa_nil))) pe_int (nomark _)) (pss_one (ps_set (i := 7) sc_law.nd rfl (Or.inl rfl) (pe_call G__law_draw hr__law_draw rfl T.m__law_draw T.F__law_draw.kp T.B__law_draw .nil pass0 (pa_cons (pv 1) (pa_cons pe_int pa_nil))))) pss_nil)
      (pss_cons (ps_if (pt_not (pt_val (pe_call G__law_is_right hr__law_is_right rfl T.m__law_is_right T.F__law_is_right.kp T.B__law_is_right .nil pass0 (pa_cons (pv 3) (pa_cons (pv 4) (pa_cons (pv 5) (pa_cons (pv 7) (pa_cons (pv 6) pa_nil)))))))) (pss_one (ps_ret pe_bl)) pss_nil)
      (pss_cons (ps_set (i := 8) sc_law.nd rfl (Or.inl rfl) (pe_call G_too_few hr_too_few rfl T.m_too_few T.F_too_few.kp T.B_too_few .nil passF (pa_cons (pv 3) (pa_cons (pv 4) (pa_cons (pv 5) (pa_cons (pv 7) (pa_cons (pv 6) pa_nil)))))))
      (C8.pss_cut (ps_if (PW.pt (pw_and (pt_val (pv 8)) (pw_and (pt_cmpR op_lt (pv 7) pe_int (nomark _)) (pw_and1 (pt_cmpR op_notBl (pe_call G_too_few hr_too_few rfl T.m_too_few T.F_too_few.kp T.B_too_few .nil passF (pa_cons (pv 3) (pa_cons (pv 4) (pa_cons (pv 5) (pa_cons (pe_op op_add (pv 7) pe_int) (pa_cons (pv 6) pa_nil)))))) pe_bl (nomark _)))))) (pss_one (ps_ret pe_bl)) pss_nil)
      (C8.pss_cut (ps_if (PW.pt (pw_and (pt_not (pt_val (pv 8))) (pw_and (pt_cmpR op_lt (pv 5) pe_int (nomark _)) (pw_and1 (pt_cmpR op_notBl (pe_call G_too_few hr_too_few rfl T.m_too_few T.F_too_few.kp T.B_too_few .nil passF (pa_cons (pv 3) (pa_cons (pv 4) (pa_cons (pe_op op_add (pv 5) pe_int) (pa_cons (pv 7) (pa_cons (pv 6) pa_nil)))))) pe_bl (nomark _)))))) (pss_one (ps_ret pe_bl)) pss_nil)
      (pss_cons (ps_if (pt_cmpR op_notBl (pe_call G_too_few hr_too_few rfl T.m_too_few T.F_too_few.kp T.B_too_few .nil passF (pa_cons (pv 3) (pa_cons (pv 4) (pa_cons (pv 4) (pa_cons (pv 6) (pa_cons (pv 6) pa_nil)))))) pe_bl (nomark _)) (pss_one (ps_ret pe_bl)) pss_nil)
      (C8.pss_cut (ps_if (PW.pt (pw_and (pt_cmpR op_gt (pv 4) pe_int (nomark _)) (pw_and1 (pt_not (pt_val (pe_call G__law_is_behind hr__law_is_behind rfl T.m__law_is_behind T.F__law_is_behind.kp T.B__law_is_behind .nil pass0 (pa_cons (pv 3) (pa_cons (pv 4) (pa_cons (pe_op op_sub (pv 4) pe_int) (pa_cons (pe_op op_add pe_int (pe_call G__law_draw hr__law_draw rfl T.m__law_draw T.F__law_draw.kp T.B__law_draw .nil pass0 (pa_cons (pv 1) (pa_cons pe_int pa_nil)))) pa_nil)))))))))) (pss_one (ps_ret pe_bl)) pss_nil)
      (pss_cons (ps_set (i := 9) sc_law.nd rfl (Or.inl rfl) (pe_lst (pa_cons pe_int (pa_cons (pe_un un_neg pe_int) (pa_cons pe_int (pa_cons pe_int (pa_cons pe_int (pa_cons pe_int (pa_cons pe_int (pa_cons pe_int (pa_cons pe_bl (pa_cons pe_non (pa_cons pe_str (pa_cons (pe_op op_pow pe_int pe_int) (pa_cons (pe_tup (pa_cons pe_int pa_nil)) (pa_cons pe_int pa_nil))))))))))))))))
      (pss_cons (ps_for PassesOwn.never rfl (pi_range1 (by rfl) T.b_range (pa_cons pe_int pa_nil)) (pg_name (i := 10) sc_law.nd rfl (Or.inl rfl))
      (pss_cons (ps_set (i := 11) sc_law.nd rfl (Or.inl rfl) (pe_lst (pa_cons (pv 3) (pa_cons (pv 4) (pa_cons (pv 5) (pa_cons (pv 7) (pa_cons (pv 6) pa_nil)))))))
      (pss_cons (ps_for PassesOwn.never rfl (pi_range1 (by rfl) T.b_range (pa_cons (pe_op op_add pe_int (pe_call G__law_draw hr__law_draw rfl T.m__law_draw T.F__law_draw.kp T.B__law_draw .nil pass0 (pa_cons (pv 1) (pa_cons pe_int pa_nil)))) pa_nil)) (pg_name (i := 12) sc_law.nd rfl (Or.inl rfl))
      (pss_one (ps_asg (pe_ix ix_list (pv 9) (pe_call G__law_draw hr__law_draw rfl T.m__law_draw T.F__law_draw.kp T.B__law_draw .nil pass0 (pa_cons (pv 1) (pa_cons pe_int pa_nil))) (fun _ _ => rfl)) (pg_sub (pv 11) (pe_call G__law_draw hr__law_draw rfl T.m__law_draw T.F__law_draw.kp T.B__law_draw .nil pass0 (pa_cons (pv 1) (pa_cons pe_int pa_nil))) set_list))))
      (pss_one (ps_if (pt_not (pt_val (pe_call G__law_is_right hr__law_is_right rfl T.m__law_is_right T.F__law_is_right.kp T.B__law_is_right .nil pass0 (pa_cons (pe_ix ix_list (pv 11) pe_int (fun _ _ => rfl)) (pa_cons (pe_ix ix_list (pv 11) pe_int (fun _ _ => rfl)) (pa_cons (pe_ix ix_list (pv 11) pe_int (fun _ _ => rfl)) (pa_cons (pe_ix ix_list (pv 11) pe_int (fun _ _ => rfl)) (pa_cons (pe_ix ix_list (pv 11) pe_int (fun _ _ => rfl)) pa_nil)))))))) (pss_one (ps_ret pe_bl)) pss_nil)))))
      (pss_one (ps_ret pe_bl))))))))))))))))))), ?_⟩
  obtain ⟨a, ns, rfl, hS, hlen, q⟩ := h
  have ithe : ∀ (H : Hp) (a b c d e : Int), Ths K H [.int a, .int b, .int c, .int d, .int e] := fun H a b c d e => ths5 (.int a) (.int b) (.int c) (.int d) (.int e)
  -- deck, primes
  refine ⟨_, rfl, _, rfl, a, ns, rfl, hS, fun H1 d s1 nd D1 => ⟨rfl, fun H2 pp s2 np ep => ?_⟩⟩
  obtain ⟨dl, D1⟩ := D1
  have D2 := D1.same s2
  have npd : pp ≠ d := (D1.ne np).1
  -- prime = primes[draw([4, len(primes)][draw(2)])]
  refine ⟨_, rfl, _, rfl, _, rfl, pp, _, rfl, .inl (SqL.of ep), (by decide : 2 ≤ sizeLine), fun L hL => ?_⟩
  have D3 := D2.same (Same.new (o := .lst [.int 4, .int ((lawL.map V.int).length : Int)]) hL)
  have nLd := (D2.ne hL).1
  refine ⟨_, rfl, _, _, rfl, d, dl, 2, rfl, rfl, by decide, by decide, D3, fun r H4 r0 r1 D4 c4 => ?_⟩
  have eL : H4 L = some (.lst [.int 4, .int ((lawL.map V.int).length : Int)]) := c4 _ _ nLd upd_same
  obtain ⟨m, em, m0, m1⟩ : ∃ m : Int, atI ([.int 4, .int ((lawL.map V.int).length : Int)] : List V) r = some (.int m) ∧ 0 < m ∧ m ≤ 52 := by
    have e52 : ((lawL.map V.int).length : Int) = 52 := by rw [List.length_map, lawL_len]; rfl
    rw [e52]
    obtain ⟨v, hv, mv⟩ := at_some (xs := [.int 4, .int 52]) r0 (by simpa using r1)
    simp only [List.mem_cons, List.not_mem_nil, or_false] at mv
    rcases mv with rfl | rfl
    · exact ⟨4, hv, by decide, by decide⟩
    · exact ⟨52, hv, by decide, by decide⟩
  refine ⟨L, _, _, _, rfl, rfl, SqL.of eL, em, _, _, rfl, d, dl, m, rfl, rfl, m0, by omega, D4, fun r5 H5 r50 r51 D5 c5 => ?_⟩
  have ep5 : H5 pp = some (.lst (lawL.map V.int)) := c5 _ _ npd (c4 _ _ npd (by rw [upd_ne (ne_of_none ep hL)]; exact ep))
  obtain ⟨p, hp, ev⟩ : ∃ p, p ∈ lawL ∧ atI (lawL.map V.int) r5 = some (.int p) := by
    obtain ⟨v, hv, mv⟩ := at_some (xs := lawL.map V.int) r50 (by rw [List.length_map, lawL_len]; omega)
    obtain ⟨p, hp, rfl⟩ := List.mem_map.mp mv
    exact ⟨p, hp, hv⟩
  refine ⟨pp, _, _, _, rfl, rfl, SqL.of ep5, ev, ?_⟩
  -- size = 1 + draw(8)
  refine ⟨_, rfl, _, _, rfl, d, dl, 8, rfl, rfl, by decide, by decide, D5, fun r6 H6 r60 r61 D6 c6 => ⟨_, _, rfl, rfl, ?_⟩⟩
  have z1 : 1 ≤ 1 + r6 := by omega
  have z8 : 1 + r6 ≤ 8 := by omega
  -- links = [size, size - 1, draw(9), draw(61)][draw(4)]
  refine ⟨_, rfl, _, rfl, _, _, rfl, rfl, _, rfl, _, _, rfl, d, dl, 9, rfl, rfl, by decide, by decide, D6, fun r7 H7 r70 r71 D7 c7 => ⟨_, rfl, _, _, rfl, d, dl, 61, rfl, rfl, by decide, by decide, D7, fun r8 H8 r80 r81 D8 c8 => ⟨(by decide : 4 ≤ sizeLine), fun L2 hL2 => ?_⟩⟩⟩
  refine ⟨_, rfl, _, _, rfl, d, dl, 4, rfl, rfl, by decide, by decide, D8.same (Same.new hL2), fun r9 H9 r90 r91 D9 c9 => ?_⟩
  have eL2 : H9 L2 = some (.lst [.int (1 + r6), .int (1 + r6 - 1), .int r7, .int r8]) := c9 _ _ (D8.ne hL2).1 upd_same
  obtain ⟨l, el, l0, l60⟩ : ∃ l : Int, atI ([.int (1 + r6), .int (1 + r6 - 1), .int r7, .int r8] : List V) r9 = some (.int l) ∧ 0 ≤ l ∧ l ≤ 60 := by
    obtain ⟨v, hv, mv⟩ := at_some (xs := [.int (1 + r6), .int (1 + r6 - 1), .int r7, .int r8]) r90 (by simpa using r91)
    simp only [List.mem_cons, List.not_mem_nil, or_false] at mv
    rcases mv with rfl | rfl | rfl | rfl <;> exact ⟨_, hv, by omega, by omega⟩
  refine ⟨L2, _, _, _, rfl, rfl, SqL.of eL2, el, ?_⟩
  -- beats = [draw(12), draw(60), draw(401), 400]
  refine ⟨_, rfl, _, _, rfl, d, dl, 12, rfl, rfl, by decide, by decide, D9, fun r10 H10 r100 r101 D10 c10 => ⟨_, rfl, _, _, rfl, d, dl, 60, rfl, rfl, by decide, by decide, D10, fun r11 H11 r110 r111 D11 c11 => ⟨_, rfl, _, _, rfl, d, dl, 401, rfl, rfl, by decide, by decide, D11, fun r12 H12 r120 r121 D12 c12 => ⟨(by decide : 4 ≤ sizeLine), fun L3 hL3 => ?_⟩⟩⟩⟩
  have n3d := (D12.ne hL3).1
  refine new_any (o' := .lst [.int r10, .int r11, .int r12, .int 400]) hL3 rfl fun H13 s13 e13 => ?_
  have D13 := D12.same s13
  -- beats = beats[[0, 0, 0, 0, 1, 1, 2, 3][draw(8)]]
  refine ⟨_, rfl, (by decide : 8 ≤ sizeLine), fun L4 hL4 => ?_⟩
  refine ⟨_, rfl, _, _, rfl, d, dl, 8, rfl, rfl, by decide, by decide, D13.same (Same.new hL4), fun r14 H14 r140 r141 D14 c14 => ?_⟩
  have e14 : H14 L4 = some (.lst [.int 0, .int 0, .int 0, .int 0, .int 1, .int 1, .int 2, .int 3]) := c14 _ _ (D13.ne hL4).1 upd_same
  have e15 : H14 L3 = some (.lst [.int r10, .int r11, .int r12, .int 400]) := c14 _ _ n3d (by rw [upd_ne (ne_of_none e13 hL4)]; exact e13)
  obtain ⟨j, ej, j0, j4⟩ : ∃ j : Int, atI ([.int 0, .int 0, .int 0, .int 0, .int 1, .int 1, .int 2, .int 3] : List V) r14 = some (.int j) ∧ 0 ≤ j ∧ j < 4 := by
    obtain ⟨v, hv, mv⟩ := at_some (xs := [.int 0, .int 0, .int 0, .int 0, .int 1, .int 1, .int 2, .int 3]) r140 (by simpa using r141)
    simp only [List.mem_cons, List.not_mem_nil, or_false] at mv
    rcases mv with rfl | rfl | rfl | rfl | rfl | rfl | rfl | rfl <;> exact ⟨_, hv, by decide, by decide⟩
  obtain ⟨b, eb, b0, b400⟩ : ∃ b : Int, atI ([.int r10, .int r11, .int r12, .int 400] : List V) j = some (.int b) ∧ 0 ≤ b ∧ b ≤ 400 := by
    obtain ⟨v, hv, mv⟩ := at_some (xs := [.int r10, .int r11, .int r12, .int 400]) j0 (by simpa using j4)
    simp only [List.mem_cons, List.not_mem_nil, or_false] at mv
    rcases mv with rfl | rfl | rfl | rfl <;> exact ⟨_, hv, by omega, by omega⟩
  refine ⟨L4, _, _, _, rfl, rfl, SqL.of e14, ej, L3, _, _, _, rfl, rfl, SqL.of e15, eb, ?_⟩
  -- frames = max(0, min(400, links * beats // size + draw(5) - 2))
  refine ⟨_, rfl, _, rfl, _, _, rfl, rfl, .inl ⟨by omega, by omega⟩, _, rfl, _, _, rfl, rfl, ⟨by omega, by omega⟩, _, rfl, _, _, rfl, d, dl, 5, rfl, rfl, by decide, by decide, D14, fun r15 H15 r150 r151 D15 c15 => ?_⟩
  refine ⟨_, _, rfl, rfl, _, _, rfl, rfl, _, _, rfl, _, _, rfl, ?_⟩
  -- behind the if: frames from 0 to 400
  refine ⟨fun σ' H' => ∃ f : Int, σ' = [some (.ref a), some (.ref d), some (.ref pp), some (.int p), some (.int (1 + r6)), some (.int l), some (.int b), some (.int f), none, none, none, none, none] ∧ 0 ≤ f ∧ f ≤ 400 ∧ DeckL H' d dl, ?_, ?_⟩
  · refine ⟨_, rfl, _, _, rfl, d, dl, 3, rfl, rfl, by decide, by decide, D15, fun r16 H16 r160 r161 D16 c16 => ⟨rfl, _, rfl, iteB (fun _ => ?_) (fun _ => ?_)⟩⟩
    · refine ⟨_, rfl, _, _, rfl, d, dl, 40, rfl, rfl, by decide, by decide, D16, fun r17 H17 r170 r171 D17 c17 => ⟨r17, rfl, by omega, by omega, D17⟩⟩
    · refine ⟨_, rfl, ?_, ?_, D16⟩
      · split <;> omega
      · split <;> split <;> omega
  rintro σ' H17 ⟨f, rfl, f0, f400, D17⟩
  -- is_right
  refine ⟨_, rfl, _, rfl, _, rfl, _, rfl, _, rfl, _, _, _, _, _, rfl, ithe _ _ _ _ _ _, fun H18 s18 => ⟨_, rfl, iteF ?_⟩⟩
  have due := few_ok hp z1 z8 l0 l60 f0 f400 b0 b400
  -- told_here = too_few(..)
  refine ⟨_, rfl, _, rfl, _, rfl, _, rfl, _, rfl, _, _, _, _, _, rfl, ithe _ _ _ _ _ _, fun e => by rw [due] at e; exact absurd e (by simp), fun e => by rw [due] at e; exact absurd e (by simp), fun r e H19 s19 => ?_⟩
  rw [due] at e
  obtain rfl : few p (1 + r6) l f b = r := by injection e
  have D19 := (D17.same s18).same s19
  have p5 := (lawL_prime p hp).1
  -- with a frame more
  refine ⟨fun σ' H' => σ' = [some (.ref a), some (.ref d), some (.ref pp), some (.int p), some (.int (1 + r6)), some (.int l), some (.int b), some (.int f), some (.bl (few p (1 + r6) l f b)), none, none, none, none] ∧ DeckL H' d dl, ?_, ?_⟩
  · refine ⟨_, rfl, _, rfl, iteB (fun c => ?_) (fun c => iteF ⟨rfl, D19⟩)⟩
    refine ⟨_, rfl, _, _, rfl, rfl, _, rfl, iteB (fun c2 => ?_) (fun c2 => ⟨rfl, D19⟩)⟩
    have c2 := of_decide_eq_true c2
    have due2 := few_ok hp z1 z8 l0 l60 (show 0 ≤ f + 1 by omega) (show f + 1 ≤ 400 by omega) b0 b400
    rw [few_more p5 z1 f0 c] at due2
    refine ⟨_, rfl, _, rfl, _, rfl, _, rfl, _, _, rfl, rfl, _, rfl, _, _, _, _, _, rfl, ithe _ _ _ _ _ _, fun e => by rw [due2] at e; exact absurd e (by simp), fun e => by rw [due2] at e; exact absurd e (by simp), fun r e H20 s20 => ?_⟩
    rw [due2] at e
    obtain rfl : true = r := by injection e
    exact ⟨_, _, rfl, rfl, _, rfl, iteF ⟨rfl, D19.same s20⟩⟩
  rintro σ' H20 ⟨rfl, D20⟩
  -- with a link more
  refine ⟨fun σ' H' => σ' = [some (.ref a), some (.ref d), some (.ref pp), some (.int p), some (.int (1 + r6)), some (.int l), some (.int b), some (.int f), some (.bl (few p (1 + r6) l f b)), none, none, none, none] ∧ DeckL H' d dl, ?_, ?_⟩
  · refine ⟨_, rfl, _, rfl, iteN (fun c => ?_) (fun c => iteF ⟨rfl, D20⟩)⟩
    refine ⟨_, rfl, _, _, rfl, rfl, _, rfl, iteB (fun c2 => ?_) (fun c2 => ⟨rfl, D20⟩)⟩
    have c2 := of_decide_eq_true c2
    have due2 := few_ok hp z1 z8 (show 0 ≤ l + 1 by omega) (show l + 1 ≤ 60 by omega) f0 f400 b0 b400
    rw [few_links l0 b0 c] at due2
    refine ⟨_, rfl, _, rfl, _, rfl, _, _, rfl, rfl, _, rfl, _, rfl, _, _, _, _, _, rfl, ithe _ _ _ _ _ _, fun e => by rw [due2] at e; exact absurd e (by simp), fun e => by rw [due2] at e; exact absurd e (by simp), fun r e H21 s21 => ?_⟩
    rw [due2] at e
    obtain rfl : false = r := by injection e
    exact ⟨_, _, rfl, rfl, _, rfl, iteF ⟨rfl, D20.same s21⟩⟩
  rintro σ' H21 ⟨rfl, D21⟩
  -- as many links as values
  have due3 := few_ok hp z1 z8 (show 0 ≤ 1 + r6 by omega) (show 1 + r6 ≤ 60 by omega) b0 b400 b0 b400
  rw [few_same p5] at due3
  refine ⟨_, rfl, _, rfl, _, rfl, _, rfl, _, rfl, _, _, _, _, _, rfl, ithe _ _ _ _ _ _, fun e => by rw [due3] at e; exact absurd e (by simp), fun e => by rw [due3] at e; exact absurd e (by simp), fun r e H22 s22 => ?_⟩
  rw [due3] at e
  obtain rfl : false = r := by injection e
  refine ⟨_, _, rfl, rfl, _, rfl, iteF ?_⟩
  have D22 := D21.same s22
  -- fewer links
  refine ⟨fun σ' H' => σ' = [some (.ref a), some (.ref d), some (.ref pp), some (.int p), some (.int (1 + r6)), some (.int l), some (.int b), some (.int f), some (.bl (few p (1 + r6) l f b)), none, none, none, none] ∧ DeckL H' d dl, ?_, ?_⟩
  · refine ⟨_, rfl, _, _, rfl, rfl, _, rfl, iteB (fun c => ?_) (fun c => iteF ⟨rfl, D22⟩)⟩
    have c := of_decide_eq_true c
    refine ⟨_, rfl, _, rfl, _, rfl, _, _, rfl, rfl, _, rfl, _, _, rfl, d, dl, 3, rfl, rfl, by decide, by decide, D22, fun r18 H23 r180 r181 D23 c23 => ⟨_, _, rfl, rfl, ?_⟩⟩
    exact ⟨_, _, _, _, rfl, p, 1 + r6, 1 + r18, rfl, rfl, rfl, rfl, hp, by omega, z8, by omega, by omega, fun H24 s24 => ⟨_, rfl, iteF ⟨rfl, D23.same s24⟩⟩⟩
  rintro σ' H24 ⟨rfl, D24⟩
  refine ⟨_, rfl, _, _, rfl, rfl, ⟨by decide, by decide, by decide⟩, (by decide : 1 ≤ sizeLine), fun tp htp => ⟨(by decide : 14 ≤ sizeLine), fun O hO => ?_⟩⟩
  have sO : Same H24 (upd (upd H24 tp (.tup [.int 5])) O (.lst [.int 0, .int (-1), .int 4, .int 9, .int 61, .int 401, .int 252, .int 8, .bl true, .non, .str "5", .int (10 ^ 30), .ref tp, .int 1])) := (Same.new htp).trans (Same.new hO)
  have ntO : tp ≠ O := ne_of_none upd_same hO
  have nOd := (D24.same (Same.new (o := .tup [.int 5]) htp)).ne hO
  have tO : ∀ x ∈ ([.int 0, .int (-1), .int 4, .int 9, .int 61, .int 401, .int 252, .int 8, .bl true, .non, .str "5", .int (10 ^ 30), .ref tp, .int 1] : List V), Tg (upd (upd H24 tp (.tup [.int 5])) O (.lst [.int 0, .int (-1), .int 4, .int 9, .int 61, .int 401, .int 252, .int 8, .bl true, .non, .str "5", .int (10 ^ 30), .ref tp, .int 1])) x := by
    intro x hx
    simp only [List.mem_cons, List.not_mem_nil, or_false] at hx
    rcases hx with rfl | rfl | rfl | rfl | rfl | rfl | rfl | rfl | rfl | rfl | rfl | rfl | rfl | rfl
    all_goals first
      | exact .int _
      | exact .inr (.inl ⟨_, rfl⟩)
      | exact .inl rfl
      | exact .inr (.inr (.inr (.inl ⟨_, rfl⟩)))
      | exact .inr (.inr (.inr (.inr ⟨tp, _, rfl, by rw [upd_ne ntO]; exact upd_same⟩)))
  refine ⟨_, rfl, by decide, by decide, for_range (lo := 0) (n := 3) (fun i σ H' => ∃ (v1 v2 v3 : Option V) (xs : List V), σ = [some (.ref a), some (.ref d), some (.ref pp), some (.int p), some (.int (1 + r6)), some (.int l), some (.int b), some (.int f), some (.bl (few p (1 + r6) l f b)), some (.ref O), v1, v2, v3] ∧ DeckL H' d dl ∧ xs.length = 14 ∧ H' O = some (.lst xs) ∧ ∀ x ∈ xs, Tg H' x)
    ⟨none, none, none, _, rfl, D24.same sO, rfl, upd_same, tO⟩ ?_ ?_⟩
  · rintro i σ H25 hi ⟨v1, v2, v3, xs, rfl, D25, xl, eO, tx⟩
    -- some = [prime, size, links, frames, beats]
    refine ⟨_, rfl, _, rfl, _, rfl, _, rfl, _, rfl, (by decide : 5 ≤ sizeLine), fun S hS5 => ?_⟩
    have nS := D25.ne hS5
    have nSO : O ≠ S := ne_of_none eO hS5
    refine new_any (o' := .lst [.int p, .int (1 + r6), .int l, .int f, .int b]) hS5 rfl fun H26 s26 e26 => ?_
    refine ⟨_, rfl, _, _, rfl, d, dl, 2, rfl, rfl, by decide, by decide, D25.same s26, fun r27 H27 r270 r271 D27 c27 => ⟨_, _, rfl, rfl, _, rfl, by omega, by omega, ?_⟩⟩
    have t26 : ∀ a ys, H26 a = some (.tup ys) → H27 a = some (.tup ys) := by
      obtain ⟨⟨o, ho⟩, _⟩ := (D25.same s26).some
      exact c27.tup ho
    have tx27 : ∀ x ∈ xs, Tg H27 x := fun x hx => ((tx x hx).keep fun a ys e => s26 _ _ e).keep t26
    have eO27 : H27 O = some (.lst xs) := c27 _ _ nOd.1 (s26 _ _ eO)
    refine for_range (lo := 0) (n := (1 + r27).toNat) (fun i2 σ H' => ∃ (v3 : Option V) (vs : List V), σ = [some (.ref a), some (.ref d), some (.ref pp), some (.int p), some (.int (1 + r6)), some (.int l), some (.int b), some (.int f), some (.bl (few p (1 + r6) l f b)), some (.ref O), some (.int (0 + (i : Int))), some (.ref S), v3] ∧
        DeckL H' d dl ∧ H' O = some (.lst xs) ∧ (∀ x ∈ xs, Tg H' x) ∧ vs.length = 5 ∧ H' S = some (.lst vs) ∧ ∀ x ∈ vs, Tg H' x)
      ⟨v3, _, rfl, D27, eO27, tx27, rfl, c27 _ _ nS.1 e26, ?_⟩ ?_ ?_
    · intro x hx
      simp only [List.mem_cons, List.not_mem_nil, or_false] at hx
      rcases hx with rfl | rfl | rfl | rfl | rfl <;> exact .int _
    · rintro i2 σ H28 hi2 ⟨v4, vs, rfl, D28, eO28, tx28, vl, eS, tv⟩
      -- some[draw(5)] = odd[draw(14)]
      refine ⟨_, rfl, _, rfl, _, _, rfl, d, dl, 14, rfl, rfl, by decide, by decide, D28, fun r29 H29 r290 r291 D29 c29 => ?_⟩
      have t29 : ∀ a ys, H28 a = some (.tup ys) → H29 a = some (.tup ys) := by
        obtain ⟨⟨o, ho⟩, _⟩ := D28.some
        exact c29.tup ho
      obtain ⟨y, ey, my⟩ := at_some (xs := xs) r290 (by omega)
      have eO29 := c29 _ _ nOd.1 eO28
      refine ⟨O, _, _, _, rfl, rfl, SqL.of eO29, ey, _, rfl, _, rfl, _, _, rfl, d, dl, 5, rfl, rfl, by decide, by decide, D29, fun r30 H30 r300 r301 D30 c30 => ?_⟩
      have t30 : ∀ a ys, H29 a = some (.tup ys) → H30 a = some (.tup ys) := by
        obtain ⟨⟨o, ho⟩, _⟩ := D29.some
        exact c30.tup ho
      have eS30 : H30 S = some (.lst vs) := c30 _ _ nS.1 (c29 _ _ nS.1 eS)
      have hix : ixN vs.length r30 = some r30.toNat := by
        unfold ixN
        rw [if_pos r300, if_pos (by omega)]
      refine ⟨S, _, _, _, rfl, rfl, eS30, hix, ?_⟩
      refine put_any (o' := .lst (vs.set r30.toNat y)) rfl fun H31 c31 e31 => ?_
      have t31 := c31.tup eS30
      have up : ∀ x, Tg H28 x → Tg H31 x := fun x hx => ((hx.keep t29).keep t30).keep t31
      refine ⟨_, _, rfl, D30.chg c31 nS.1.symm nS.2.symm, c31 _ _ nSO (c30 _ _ nOd.1 eO29), fun x hx => up x (tx28 x hx), by rw [List.length_set]; exact vl, e31, fun x hx => ?_⟩
      rcases List.mem_or_eq_of_mem_set hx with hx | rfl
      · exact up x (tv x hx)
      · exact up _ (tx28 _ my)
    · rintro σ H28 ⟨v4, vs, rfl, D28, eO28, tx28, vl, eS, tv⟩
      match vs, vl with
      | [x0, x1, x2, x3, x4], _ =>
        refine ⟨_, rfl, S, _, _, _, rfl, rfl, SqL.of eS, rfl, _, rfl, S, _, _, _, rfl, rfl, SqL.of eS, rfl, _, rfl, S, _, _, _, rfl, rfl, SqL.of eS, rfl, _, rfl, S, _, _, _, rfl, rfl, SqL.of eS, rfl, _, rfl, S, _, _, _, rfl, rfl, SqL.of eS, rfl, ?_⟩
        refine ⟨_, _, _, _, _, rfl, ths5 (tv _ (by simp)) (tv _ (by simp)) (tv _ (by simp)) (tv _ (by simp)) (tv _ (by simp)), fun H29 s29 => ⟨_, rfl, iteF ?_⟩⟩
        exact ⟨_, _, _, xs, rfl, D28.same s29, xl, s29 _ _ eO28, fun x hx => (tx28 x hx).keep fun a ys e => s29 _ _ e⟩
  · rintro σ H25 ⟨v1, v2, v3, xs, rfl, D25, xl, eO, tx⟩
    exact q _
end
theorem all_mk {l : PySem.W.OpenLaw} {w : World} {K : PySem.W.Frag} {h : Heap} {mg : Str → Option Value} {fa : Addr} (X : K.In h) (G : h.Ns mainGlobals mg) (hfa : mg "law" = some (.ref fa))
    {f0 f1 f2 f3 f4 f5 f6 f7 f8 f9 f10 f11 f12 f13 f14 f15 f16 e_TreeError e_NoNumber e_NoPrime : Addr} {od0 an0 od1 an1 od2 an2 od3 an3 od4 an4 od5 an5 od6 an6 od7 an7 od8 an8 od9 an9 od10 an10 od11 an11 od12 an12 od13 an13 od14 an14 od15 an15 od16 an16 : Option Addr} {sl0 sl1 sl2 sl3 sl4 sl5 sl6 sl7 sl8 sl9 sl10 sl11 sl12 sl13 sl14 sl15 sl16 : Array (Option Value)} {oc0 kV0 dc0 pm0 cd0 ct0 oc1 kV1 dc1 pm1 cd1 ct1 oc2 kV2 dc2 pm2 cd2 ct2 oc3 kV3 dc3 pm3 cd3 ct3 oc4 kV4 dc4 pm4 cd4 ct4 oc5 kV5 dc5 pm5 cd5 ct5 oc6 kV6 dc6 pm6 cd6 ct6 oc7 kV7 dc7 pm7 cd7 ct7 oc8 kV8 dc8 pm8 cd8 ct8 oc9 kV9 dc9 pm9 cd9 ct9 oc10 kV10 dc10 pm10 cd10 ct10 oc11 kV11 dc11 pm11 cd11 ct11 oc12 kV12 dc12 pm12 cd12 ct12 oc13 kV13 dc13 pm13 cd13 ct13 oc14 kV14 dc14 pm14 cd14 ct14 oc15 kV15 dc15 pm15 cd15 ct15 oc16 kV16 dc16 pm16 cd16 ct16 : Value} {qt0 qt1 qt2 qt3 qt4 : Tok}
    (a0 : PySem.W.nsIn K mainGlobals "is_integer" = some (some (.ref f0)))
    (l0 : K.lookup f0 = some ⟨oc0, od0, .func (PySem.W.fnOf "is_integer" "is_integer" (defArgs s_is_integer) (defBody s_is_integer) (defScope s_is_integer) .none kV0 dc0 pm0 an0 cd0 ct0), sl0⟩)
    (c0 : PySem.W.codeIn K cd0 "is_integer" = true)
    (k0 : PySem.W.keepIn K (.ref f0) = true)
    (a1 : PySem.W.nsIn K mainGlobals "is_within" = some (some (.ref f1)))
    (l1 : K.lookup f1 = some ⟨oc1, od1, .func (PySem.W.fnOf "is_within" "is_within" (defArgs s_is_within) (defBody s_is_within) (defScope s_is_within) .none kV1 dc1 pm1 an1 cd1 ct1), sl1⟩)
    (c1 : PySem.W.codeIn K cd1 "is_within" = true)
    (k1 : PySem.W.keepIn K (.ref f1) = true)
    (a2 : PySem.W.nsIn K mainGlobals "is_prime" = some (some (.ref f2)))
    (l2 : K.lookup f2 = some ⟨oc2, od2, .func (PySem.W.fnOf "is_prime" "is_prime" (defArgs s_is_prime) (defBody s_is_prime) (defScope s_is_prime) .none kV2 dc2 pm2 an2 cd2 ct2), sl2⟩)
    (c2 : PySem.W.codeIn K cd2 "is_prime" = true)
    (k2 : PySem.W.keepIn K (.ref f2) = true)
    (a3 : PySem.W.nsIn K mainGlobals "check_prime" = some (some (.ref f3)))
    (l3 : K.lookup f3 = some ⟨oc3, od3, .func (PySem.W.fnOf "check_prime" "check_prime" (defArgs s_check_prime) (defBody s_check_prime) (defScope s_check_prime) .none kV3 dc3 pm3 an3 cd3 ct3), sl3⟩)
    (c3 : PySem.W.codeIn K cd3 "check_prime" = true)
    (k3 : PySem.W.keepIn K (.ref f3) = true)
    (a4 : PySem.W.nsIn K mainGlobals "check_size" = some (some (.ref f4)))
    (l4 : K.lookup f4 = some ⟨oc4, od4, .func (PySem.W.fnOf "check_size" "check_size" (defArgs s_check_size) (defBody s_check_size) (defScope s_check_size) .none kV4 dc4 pm4 an4 cd4 ct4), sl4⟩)
    (c4 : PySem.W.codeIn K cd4 "check_size" = true)
    (k4 : PySem.W.keepIn K (.ref f4) = true)
    (a5 : PySem.W.nsIn K mainGlobals "too_few" = some (some (.ref f5)))
    (l5 : K.lookup f5 = some ⟨oc5, od5, .func (PySem.W.fnOf "too_few" "too_few" (defArgs s_too_few) (defBody s_too_few) (defScope s_too_few) .none kV5 dc5 pm5 an5 cd5 ct5), sl5⟩)
    (c5 : PySem.W.codeIn K cd5 "too_few" = true)
    (k5 : PySem.W.keepIn K (.ref f5) = true)
    (a6 : PySem.W.nsIn K mainGlobals "_law_deck" = some (some (.ref f6)))
    (l6 : K.lookup f6 = some ⟨oc6, od6, .func (PySem.W.fnOf "_law_deck" "_law_deck" (defArgs s__law_deck) (defBody s__law_deck) (defScope s__law_deck) .none kV6 dc6 pm6 an6 cd6 ct6), sl6⟩)
    (c6 : PySem.W.codeIn K cd6 "_law_deck" = true)
    (k6 : PySem.W.keepIn K (.ref f6) = true)
    (a7 : PySem.W.nsIn K mainGlobals "_law_mixed" = some (some (.ref f7)))
    (l7 : K.lookup f7 = some ⟨oc7, od7, .func (PySem.W.fnOf "_law_mixed" "_law_mixed" (defArgs s__law_mixed) (defBody s__law_mixed) (defScope s__law_mixed) .none kV7 dc7 pm7 an7 cd7 ct7), sl7⟩)
    (c7 : PySem.W.codeIn K cd7 "_law_mixed" = true)
    (k7 : PySem.W.keepIn K (.ref f7) = true)
    (a8 : PySem.W.nsIn K mainGlobals "_law_draw" = some (some (.ref f8)))
    (l8 : K.lookup f8 = some ⟨oc8, od8, .func (PySem.W.fnOf "_law_draw" "_law_draw" (defArgs s__law_draw) (defBody s__law_draw) (defScope s__law_draw) .none kV8 dc8 pm8 an8 cd8 ct8), sl8⟩)
    (c8 : PySem.W.codeIn K cd8 "_law_draw" = true)
    (k8 : PySem.W.keepIn K (.ref f8) = true)
    (a9 : PySem.W.nsIn K mainGlobals "_law_primes" = some (some (.ref f9)))
    (l9 : K.lookup f9 = some ⟨oc9, od9, .func (PySem.W.fnOf "_law_primes" "_law_primes" (defArgs s__law_primes) (defBody s__law_primes) (defScope s__law_primes) .none kV9 dc9 pm9 an9 cd9 ct9), sl9⟩)
    (c9 : PySem.W.codeIn K cd9 "_law_primes" = true)
    (k9 : PySem.W.keepIn K (.ref f9) = true)
    (a10 : PySem.W.nsIn K mainGlobals "_law_raised" = some (some (.ref f10)))
    (l10 : K.lookup f10 = some ⟨oc10, od10, .func (PySem.W.fnOf "_law_raised" "_law_raised" (defArgs s__law_raised) (defBody s__law_raised) (defScope s__law_raised) .none kV10 dc10 pm10 an10 cd10 ct10), sl10⟩)
    (c10 : PySem.W.codeIn K cd10 "_law_raised" = true)
    (k10 : PySem.W.keepIn K (.ref f10) = true)
    (a11 : PySem.W.nsIn K mainGlobals "_law_is_within" = some (some (.ref f11)))
    (l11 : K.lookup f11 = some ⟨oc11, od11, .func (PySem.W.fnOf "_law_is_within" "_law_is_within" (defArgs s__law_is_within) (defBody s__law_is_within) (defScope s__law_is_within) .none kV11 dc11 pm11 an11 cd11 ct11), sl11⟩)
    (c11 : PySem.W.codeIn K cd11 "_law_is_within" = true)
    (k11 : PySem.W.keepIn K (.ref f11) = true)
    (a12 : PySem.W.nsIn K mainGlobals "_law_due" = some (some (.ref f12)))
    (l12 : K.lookup f12 = some ⟨oc12, od12, .func (PySem.W.fnOf "_law_due" "_law_due" (defArgs s__law_due) (defBody s__law_due) (defScope s__law_due) .none kV12 dc12 pm12 an12 cd12 ct12), sl12⟩)
    (c12 : PySem.W.codeIn K cd12 "_law_due" = true)
    (k12 : PySem.W.keepIn K (.ref f12) = true)
    (a13 : PySem.W.nsIn K mainGlobals "_law_told" = some (some (.ref f13)))
    (l13 : K.lookup f13 = some ⟨oc13, od13, .func (PySem.W.fnOf "_law_told" "_law_told" (defArgs s__law_told) (defBody s__law_told) (defScope s__law_told) .none kV13 dc13 pm13 an13 cd13 ct13), sl13⟩)
    (c13 : PySem.W.codeIn K cd13 "_law_told" = true)
    (k13 : PySem.W.keepIn K (.ref f13) = true)
    (a14 : PySem.W.nsIn K mainGlobals "_law_is_right" = some (some (.ref f14)))
    (l14 : K.lookup f14 = some ⟨oc14, od14, .func (PySem.W.fnOf "_law_is_right" "_law_is_right" (defArgs s__law_is_right) (defBody s__law_is_right) (defScope s__law_is_right) .none kV14 dc14 pm14 an14 cd14 ct14), sl14⟩)
    (c14 : PySem.W.codeIn K cd14 "_law_is_right" = true)
    (k14 : PySem.W.keepIn K (.ref f14) = true)
    (a15 : PySem.W.nsIn K mainGlobals "_law_is_behind" = some (some (.ref f15)))
    (l15 : K.lookup f15 = some ⟨oc15, od15, .func (PySem.W.fnOf "_law_is_behind" "_law_is_behind" (defArgs s__law_is_behind) (defBody s__law_is_behind) (defScope s__law_is_behind) .none kV15 dc15 pm15 an15 cd15 ct15), sl15⟩)
    (c15 : PySem.W.codeIn K cd15 "_law_is_behind" = true)
    (k15 : PySem.W.keepIn K (.ref f15) = true)
    (a16 : PySem.W.nsIn K mainGlobals "law" = some (some (.ref f16)))
    (l16 : K.lookup f16 = some ⟨oc16, od16, .func (PySem.W.fnOf "law" "law" (defArgs s_law) (defBody s_law) (defScope s_law) .none kV16 dc16 pm16 an16 cd16 ct16), sl16⟩)
    (c16 : PySem.W.codeIn K cd16 "law" = true)
    (k16 : PySem.W.keepIn K (.ref f16) = true)
    (q0 : PySem.W.nsIn K mainGlobals "LEAST_PRIME" = some (some (.int 5 qt0)))
    (q1 : PySem.W.nsIn K mainGlobals "MOST_PRIME" = some (some (.int 251 qt1)))
    (q2 : PySem.W.nsIn K mainGlobals "MOST_SIZE" = some (some (.int 8 qt2)))
    (q3 : PySem.W.nsIn K mainGlobals "MOST_LINKS" = some (some (.int 60 qt3)))
    (q4 : PySem.W.nsIn K mainGlobals "MOST_ROWS" = some (some (.int 400 qt4)))
    (z_abs : PySem.W.nsIn K mainGlobals "abs" = some none)
    (z_all : PySem.W.nsIn K mainGlobals "all" = some none)
    (z_bool : PySem.W.nsIn K mainGlobals "bool" = some none)
    (z_int : PySem.W.nsIn K mainGlobals "int" = some none)
    (z_isinstance : PySem.W.nsIn K mainGlobals "isinstance" = some none)
    (z_len : PySem.W.nsIn K mainGlobals "len" = some none)
    (z_list : PySem.W.nsIn K mainGlobals "list" = some none)
    (z_max : PySem.W.nsIn K mainGlobals "max" = some none)
    (z_min : PySem.W.nsIn K mainGlobals "min" = some none)
    (z_range : PySem.W.nsIn K mainGlobals "range" = some none)
    (g_TreeError : PySem.W.nsIn K mainGlobals "TreeError" = some (some (.ref e_TreeError)))
    (x_TreeError : PySem.W.excIn K e_TreeError [.type "ValueError", .type "Exception", .type "BaseException", .type "object"] "ValueError.__new__" = true)
    (k_TreeError : PySem.W.keepIn K (.ref e_TreeError) = true)
    (s_TreeError : PySem.W.subIn K (.ref e_TreeError) (.type "BaseException") = some true)
    (t_TreeError : PySem.W.typeIn K (.ref e_TreeError) = some (.type "type"))
    (i1_TreeError : PySem.W.findIn K (.ref e_TreeError) "__getattribute__" = some (some (.builtin "BaseException.__getattribute__")))
    (i2_TreeError : PySem.W.findIn K (.ref e_TreeError) "__getattr__" = some none)
    (i3_TreeError : PySem.W.hasDictIn K e_TreeError = true)
    (i4_TreeError : PySem.W.findIn K (.ref e_TreeError) "__class__" = some (some (.builtin "object.__class__")))
    (i5_TreeError : PySem.W.mroIn K e_TreeError (.type "object") = some true)
    (g_NoNumber : PySem.W.nsIn K mainGlobals "NoNumber" = some (some (.ref e_NoNumber)))
    (x_NoNumber : PySem.W.excIn K e_NoNumber [.type "ValueError", .type "Exception", .type "BaseException", .type "object"] "ValueError.__new__" = true)
    (k_NoNumber : PySem.W.keepIn K (.ref e_NoNumber) = true)
    (s_NoNumber : PySem.W.subIn K (.ref e_NoNumber) (.type "BaseException") = some true)
    (t_NoNumber : PySem.W.typeIn K (.ref e_NoNumber) = some (.type "type"))
    (i1_NoNumber : PySem.W.findIn K (.ref e_NoNumber) "__getattribute__" = some (some (.builtin "BaseException.__getattribute__")))
    (i2_NoNumber : PySem.W.findIn K (.ref e_NoNumber) "__getattr__" = some none)
    (i3_NoNumber : PySem.W.hasDictIn K e_NoNumber = true)
    (i4_NoNumber : PySem.W.findIn K (.ref e_NoNumber) "__class__" = some (some (.builtin "object.__class__")))
    (i5_NoNumber : PySem.W.mroIn K e_NoNumber (.type "object") = some true)
    (g_NoPrime : PySem.W.nsIn K mainGlobals "NoPrime" = some (some (.ref e_NoPrime)))
    (x_NoPrime : PySem.W.excIn K e_NoPrime [.type "ValueError", .type "Exception", .type "BaseException", .type "object"] "ValueError.__new__" = true)
    (k_NoPrime : PySem.W.keepIn K (.ref e_NoPrime) = true)
    (s_NoPrime : PySem.W.subIn K (.ref e_NoPrime) (.type "BaseException") = some true)
    (t_NoPrime : PySem.W.typeIn K (.ref e_NoPrime) = some (.type "type"))
    (i1_NoPrime : PySem.W.findIn K (.ref e_NoPrime) "__getattribute__" = some (some (.builtin "BaseException.__getattribute__")))
    (i2_NoPrime : PySem.W.findIn K (.ref e_NoPrime) "__getattr__" = some none)
    (i3_NoPrime : PySem.W.hasDictIn K e_NoPrime = true)
    (i4_NoPrime : PySem.W.findIn K (.ref e_NoPrime) "__class__" = some (some (.builtin "object.__class__")))
    (i5_NoPrime : PySem.W.mroIn K e_NoPrime (.type "object") = some true)
    (i6 : PySem.W.specialIn K (.builtin "object.__class__") "__get__" = some (some (.builtin "getset_descriptor.__get__")))
    (i7 : PySem.W.takesIn K (.builtin "object.__class__") = some true)
    (r_TreeError_TreeError : PySem.W.subIn K (.ref e_TreeError) (.ref e_TreeError) = some true)
    (r_TreeError_NoNumber : PySem.W.subIn K (.ref e_TreeError) (.ref e_NoNumber) = some false)
    (r_TreeError_NoPrime : PySem.W.subIn K (.ref e_TreeError) (.ref e_NoPrime) = some false)
    (r_NoNumber_TreeError : PySem.W.subIn K (.ref e_NoNumber) (.ref e_TreeError) = some true)
    (r_NoNumber_NoNumber : PySem.W.subIn K (.ref e_NoNumber) (.ref e_NoNumber) = some true)
    (r_NoNumber_NoPrime : PySem.W.subIn K (.ref e_NoNumber) (.ref e_NoPrime) = some false)
    (r_NoPrime_TreeError : PySem.W.subIn K (.ref e_NoPrime) (.ref e_TreeError) = some true)
    (r_NoPrime_NoNumber : PySem.W.subIn K (.ref e_NoPrime) (.ref e_NoNumber) = some false)
    (r_NoPrime_NoPrime : PySem.W.subIn K (.ref e_NoPrime) (.ref e_NoPrime) = some true)
    : ∃ fd : FuncData, (∀ (s : Shared) (v : Value), BindsTo s fd ⟨[v], []⟩ [("_law_script", v)]) ∧ ∀ base : Heap, K.In base → base.Ns mainGlobals mg → FnOk l.prog w K mg base CX0 8 fa fd ["_law_script"] (spLaw K) := by
  have e := hfa.symm.trans (PySem.W.mg_of X G a16)
  cases e
  have F0 := fun_mk (st := s_is_integer) l0 c0 k0
  have B0 := F0.binds (ps := P_is_integer) fun _ _ _ _ _ _ us hl => match us, hl with | [_], _ => rfl
  have F1 := fun_mk (st := s_is_within) l1 c1 k1
  have B1 := F1.binds (ps := P_is_within) fun _ _ _ _ _ _ us hl => match us, hl with | [_, _, _], _ => rfl
  have F2 := fun_mk (st := s_is_prime) l2 c2 k2
  have B2 := F2.binds (ps := P_is_prime) fun _ _ _ _ _ _ us hl => match us, hl with | [_], _ => rfl
  have F3 := fun_mk (st := s_check_prime) l3 c3 k3
  have B3 := F3.binds (ps := P_check_prime) fun _ _ _ _ _ _ us hl => match us, hl with | [_], _ => rfl
  have F4 := fun_mk (st := s_check_size) l4 c4 k4
  have B4 := F4.binds (ps := P_check_size) fun _ _ _ _ _ _ us hl => match us, hl with | [_], _ => rfl
  have F5 := fun_mk (st := s_too_few) l5 c5 k5
  have B5 := F5.binds (ps := P_too_few) fun _ _ _ _ _ _ us hl => match us, hl with | [_, _, _, _, _], _ => rfl
  have F6 := fun_mk (st := s__law_deck) l6 c6 k6
  have B6 := F6.binds (ps := P__law_deck) fun _ _ _ _ _ _ us hl => match us, hl with | [_], _ => rfl
  have F7 := fun_mk (st := s__law_mixed) l7 c7 k7
  have B7 := F7.binds (ps := P__law_mixed) fun _ _ _ _ _ _ us hl => match us, hl with | [_, _], _ => rfl
  have F8 := fun_mk (st := s__law_draw) l8 c8 k8
  have B8 := F8.binds (ps := P__law_draw) fun _ _ _ _ _ _ us hl => match us, hl with | [_, _], _ => rfl
  have F9 := fun_mk (st := s__law_primes) l9 c9 k9
  have B9 := F9.binds (ps := P__law_primes) fun _ _ _ _ _ _ us hl => match us, hl with | [], _ => rfl
  have F10 := fun_mk (st := s__law_raised) l10 c10 k10
  have B10 := F10.binds (ps := P__law_raised) fun _ _ _ _ _ _ us hl => match us, hl with | [_, _], _ => rfl
  have F11 := fun_mk (st := s__law_is_within) l11 c11 k11
  have B11 := F11.binds (ps := P__law_is_within) fun _ _ _ _ _ _ us hl => match us, hl with | [_, _, _], _ => rfl
  have F12 := fun_mk (st := s__law_due) l12 c12 k12
  have B12 := F12.binds (ps := P__law_due) fun _ _ _ _ _ _ us hl => match us, hl with | [_, _, _, _, _], _ => rfl
  have F13 := fun_mk (st := s__law_told) l13 c13 k13
  have B13 := F13.binds (ps := P__law_told) fun _ _ _ _ _ _ us hl => match us, hl with | [_, _, _, _, _], _ => rfl
  have F14 := fun_mk (st := s__law_is_right) l14 c14 k14
  have B14 := F14.binds (ps := P__law_is_right) fun _ _ _ _ _ _ us hl => match us, hl with | [_, _, _, _, _], _ => rfl
  have F15 := fun_mk (st := s__law_is_behind) l15 c15 k15
  have B15 := F15.binds (ps := P__law_is_behind) fun _ _ _ _ _ _ us hl => match us, hl with | [_, _, _, _], _ => rfl
  have F16 := fun_mk (st := s_law) l16 c16 k16
  have B16 := F16.binds (ps := P_law) fun _ _ _ _ _ _ us hl => match us, hl with | [_], _ => rfl
  have T : Txt K mg { a_is_integer := f0, d_is_integer := _, a_is_within := f1, d_is_within := _, a_is_prime := f2, d_is_prime := _, a_check_prime := f3, d_check_prime := _, a_check_size := f4, d_check_size := _, a_too_few := f5, d_too_few := _, a__law_deck := f6, d__law_deck := _, a__law_mixed := f7, d__law_mixed := _, a__law_draw := f8, d__law_draw := _, a__law_primes := f9, d__law_primes := _, a__law_raised := f10, d__law_raised := _, a__law_is_within := f11, d__law_is_within := _, a__law_due := f12, d__law_due := _, a__law_told := f13, d__law_told := _, a__law_is_right := f14, d__law_is_right := _, a__law_is_behind := f15, d__law_is_behind := _, a_law := fa, d_law := _, e_TreeError := e_TreeError, e_NoNumber := e_NoNumber, e_NoPrime := e_NoPrime } := {
    m_is_integer := PySem.W.mg_of X G a0,
    F_is_integer := F0,
    B_is_integer := B0,
    m_is_within := PySem.W.mg_of X G a1,
    F_is_within := F1,
    B_is_within := B1,
    m_is_prime := PySem.W.mg_of X G a2,
    F_is_prime := F2,
    B_is_prime := B2,
    m_check_prime := PySem.W.mg_of X G a3,
    F_check_prime := F3,
    B_check_prime := B3,
    m_check_size := PySem.W.mg_of X G a4,
    F_check_size := F4,
    B_check_size := B4,
    m_too_few := PySem.W.mg_of X G a5,
    F_too_few := F5,
    B_too_few := B5,
    m__law_deck := PySem.W.mg_of X G a6,
    F__law_deck := F6,
    B__law_deck := B6,
    m__law_mixed := PySem.W.mg_of X G a7,
    F__law_mixed := F7,
    B__law_mixed := B7,
    m__law_draw := PySem.W.mg_of X G a8,
    F__law_draw := F8,
    B__law_draw := B8,
    m__law_primes := PySem.W.mg_of X G a9,
    F__law_primes := F9,
    B__law_primes := B9,
    m__law_raised := PySem.W.mg_of X G a10,
    F__law_raised := F10,
    B__law_raised := B10,
    m__law_is_within := PySem.W.mg_of X G a11,
    F__law_is_within := F11,
    B__law_is_within := B11,
    m__law_due := PySem.W.mg_of X G a12,
    F__law_due := F12,
    B__law_due := B12,
    m__law_told := PySem.W.mg_of X G a13,
    F__law_told := F13,
    B__law_told := B13,
    m__law_is_right := PySem.W.mg_of X G a14,
    F__law_is_right := F14,
    B__law_is_right := B14,
    m__law_is_behind := PySem.W.mg_of X G a15,
    F__law_is_behind := F15,
    B__law_is_behind := B15,
    m_law := PySem.W.mg_of X G a16,
    F_law := F16,
    B_law := B16,
    c_LEAST_PRIME := ⟨_, PySem.W.mg_of X G q0⟩,
    c_MOST_PRIME := ⟨_, PySem.W.mg_of X G q1⟩,
    c_MOST_SIZE := ⟨_, PySem.W.mg_of X G q2⟩,
    c_MOST_LINKS := ⟨_, PySem.W.mg_of X G q3⟩,
    c_MOST_ROWS := ⟨_, PySem.W.mg_of X G q4⟩,
    b_abs := PySem.W.mg_none_of X G z_abs,
    b_all := PySem.W.mg_none_of X G z_all,
    b_bool := PySem.W.mg_none_of X G z_bool,
    b_int := PySem.W.mg_none_of X G z_int,
    b_isinstance := PySem.W.mg_none_of X G z_isinstance,
    b_len := PySem.W.mg_none_of X G z_len,
    b_list := PySem.W.mg_none_of X G z_list,
    b_max := PySem.W.mg_none_of X G z_max,
    b_min := PySem.W.mg_none_of X G z_min,
    b_range := PySem.W.mg_none_of X G z_range,
    g_TreeError := PySem.W.mg_of X G g_TreeError,
    x_TreeError := x_TreeError,
    k_TreeError := k_TreeError,
    s_TreeError := s_TreeError,
    t_TreeError := t_TreeError,
    i_TreeError := ⟨i1_TreeError, i2_TreeError, s_TreeError, i3_TreeError, i4_TreeError, i6, i7, i5_TreeError⟩,
    g_NoNumber := PySem.W.mg_of X G g_NoNumber,
    x_NoNumber := x_NoNumber,
    k_NoNumber := k_NoNumber,
    s_NoNumber := s_NoNumber,
    t_NoNumber := t_NoNumber,
    i_NoNumber := ⟨i1_NoNumber, i2_NoNumber, s_NoNumber, i3_NoNumber, i4_NoNumber, i6, i7, i5_NoNumber⟩,
    g_NoPrime := PySem.W.mg_of X G g_NoPrime,
    x_NoPrime := x_NoPrime,
    k_NoPrime := k_NoPrime,
    s_NoPrime := s_NoPrime,
    t_NoPrime := t_NoPrime,
    i_NoPrime := ⟨i1_NoPrime, i2_NoPrime, s_NoPrime, i3_NoPrime, i4_NoPrime, i6, i7, i5_NoPrime⟩,
    r_TreeError_TreeError := r_TreeError_TreeError,
    r_TreeError_NoNumber := r_TreeError_NoNumber,
    r_TreeError_NoPrime := r_TreeError_NoPrime,
    r_NoNumber_TreeError := r_NoNumber_TreeError,
    r_NoNumber_NoNumber := r_NoNumber_NoNumber,
    r_NoNumber_NoPrime := r_NoNumber_NoPrime,
    r_NoPrime_TreeError := r_NoPrime_TreeError,
    r_NoPrime_NoNumber := r_NoPrime_NoNumber,
    r_NoPrime_NoPrime := r_NoPrime_NoPrime }
  exact ⟨_, fun s v => .of_eq rfl, fun base _ _ => ok_law T⟩
theorem walk {l : PySem.W.OpenLaw} {q : Program} {loose : List Str} {XP : (Str → Option Value) → Heap → Prop} {YP : World → Heap → Prop} {d : DefRec} {K : Params → PySem.W.Frag} (hn : l.most = some 63) (hdf : d.params.defaults = [])
    (hY : ∀ (w : World) (h : Heap), YP w h → (K w.params).In h)
    (F : ∀ (w : World) (mg : Str → Option Value) (fa : Addr) (h : Heap), (K w.params).In h → h.Ns mainGlobals mg → mg d.name = some (.ref fa) →
      ∃ fd : FuncData, (∀ (s : Shared) (u : Value), BindsTo s fd ⟨[u], []⟩ [("_law_script", u)]) ∧ ∀ base : Heap, (K w.params).In base → base.Ns mainGlobals mg → FnOk l.prog w (K w.params) mg base CX0 8 fa fd ["_law_script"] (spLaw (K w.params))) :
    PySem.W.WalkO q loose XP YP l.row.toRowW d [] (fun f vs => PySem.call f vs) :=
  L2.walk_of (n := 63) (k := 8) (x := "_law_script") (CX := fun _ => CX0) (sp := fun w => spLaw (K w.params)) hn (by decide) hdf ⟨rfl, by decide, by decide⟩ hY F (fun _ _ a ns hl _ hS => ⟨.ref a, rfl, a, ns, rfl, hS, hl, fun _ => rfl⟩) fun _ _ _ _ _ z => z
end My
open PySem PySem.W PyProof.Rows
set_option maxRecDepth 100000 in
set_option maxHeartbeats 0 in
theorem PySem.Challenge.cw_sparetrees_k67_whole_counts_of_what_come_holds : PySem.Challenge.rw_sparetrees_k67_whole_counts_of_what_come.Holds := by
  w_on; o_law; k_head; (case hw => w_witness2)
  k_fill
  refine My.walk (l := PySem.Challenge.rw_sparetrees_k67_whole_counts_of_what_come) rfl rfl (fun w h Y => PySem.W.kIn_of Y) ?F
  case F =>
    intro w mg fa h KX G hmg
    refine' My.all_mk KX G hmg ?a0 ?l0 ?c0 ?k0 ?a1 ?l1 ?c1 ?k1 ?a2 ?l2 ?c2 ?k2 ?a3 ?l3 ?c3 ?k3 ?a4 ?l4 ?c4 ?k4 ?a5 ?l5 ?c5 ?k5 ?a6 ?l6 ?c6 ?k6 ?a7 ?l7 ?c7 ?k7 ?a8 ?l8 ?c8 ?k8 ?a9 ?l9 ?c9 ?k9 ?a10 ?l10 ?c10 ?k10 ?a11 ?l11 ?c11 ?k11 ?a12 ?l12 ?c12 ?k12 ?a13 ?l13 ?c13 ?k13 ?a14 ?l14 ?c14 ?k14 ?a15 ?l15 ?c15 ?k15 ?a16 ?l16 ?c16 ?k16 ?q0 ?q1 ?q2 ?q3 ?q4 ?z_abs ?z_all ?z_bool ?z_int ?z_isinstance ?z_len ?z_list ?z_max ?z_min ?z_range ?g_TreeError ?x_TreeError ?k_TreeError ?s_TreeError ?t_TreeError ?i1_TreeError ?i2_TreeError ?i3_TreeError ?i4_TreeError ?i5_TreeError ?g_NoNumber ?x_NoNumber ?k_NoNumber ?s_NoNumber ?t_NoNumber ?i1_NoNumber ?i2_NoNumber ?i3_NoNumber ?i4_NoNumber ?i5_NoNumber ?g_NoPrime ?x_NoPrime ?k_NoPrime ?s_NoPrime ?t_NoPrime ?i1_NoPrime ?i2_NoPrime ?i3_NoPrime ?i4_NoPrime ?i5_NoPrime ?i6 ?i7 ?r_TreeError_TreeError ?r_TreeError_NoNumber ?r_TreeError_NoPrime ?r_NoNumber_TreeError ?r_NoNumber_NoNumber ?r_NoNumber_NoPrime ?r_NoPrime_TreeError ?r_NoPrime_NoNumber ?r_NoPrime_NoPrime
    (case a0 => k_is)
    (case l0 => k_is)
    (case c0 => k_is)
    (case k0 => k_is)
    (case a1 => k_is)
    (case l1 => k_is)
    (case c1 => k_is)
    (case k1 => k_is)
    (case a2 => k_is)
    (case l2 => k_is)
    (case c2 => k_is)
    (case k2 => k_is)
    (case a3 => k_is)
    (case l3 => k_is)
    (case c3 => k_is)
    (case k3 => k_is)
    (case a4 => k_is)
    (case l4 => k_is)
    (case c4 => k_is)
    (case k4 => k_is)
    (case a5 => k_is)
    (case l5 => k_is)
    (case c5 => k_is)
    (case k5 => k_is)
    (case a6 => k_is)
    (case l6 => k_is)
    (case c6 => k_is)
    (case k6 => k_is)
    (case a7 => k_is)
    (case l7 => k_is)
    (case c7 => k_is)
    (case k7 => k_is)
    (case a8 => k_is)
    (case l8 => k_is)
    (case c8 => k_is)
    (case k8 => k_is)
    (case a9 => k_is)
    (case l9 => k_is)
    (case c9 => k_is)
    (case k9 => k_is)
    (case a10 => k_is)
    (case l10 => k_is)
    (case c10 => k_is)
    (case k10 => k_is)
    (case a11 => k_is)
    (case l11 => k_is)
    (case c11 => k_is)
    (case k11 => k_is)
    (case a12 => k_is)
    (case l12 => k_is)
    (case c12 => k_is)
    (case k12 => k_is)
    (case a13 => k_is)
    (case l13 => k_is)
    (case c13 => k_is)
    (case k13 => k_is)
    (case a14 => k_is)
    (case l14 => k_is)
    (case c14 => k_is)
    (case k14 => k_is)
    (case a15 => k_is)
    (case l15 => k_is)
    (case c15 => k_is)
    (case k15 => k_is)
    (case a16 => k_is)
    (case l16 => k_is)
    (case c16 => k_is)
    (case k16 => k_is)
    (case q0 => k_is)
    (case q1 => k_is)
    (case q2 => k_is)
    (case q3 => k_is)
    (case q4 => k_is)
    (case z_abs => k_is)
    (case z_all => k_is)
    (case z_bool => k_is)
    (case z_int => k_is)
    (case z_isinstance => k_is)
    (case z_len => k_is)
    (case z_list => k_is)
    (case z_max => k_is)
    (case z_min => k_is)
    (case z_range => k_is)
    (case g_TreeError => k_is)
    (case x_TreeError => k_exc)
    (case k_TreeError => k_is)
    (case s_TreeError => k_is)
    (case t_TreeError => k_is)
    (case i1_TreeError => k_is)
    (case i2_TreeError => k_is)
    (case i3_TreeError => k_is)
    (case i4_TreeError => k_is)
    (case i5_TreeError => k_is)
    (case g_NoNumber => k_is)
    (case x_NoNumber => k_exc)
    (case k_NoNumber => k_is)
    (case s_NoNumber => k_is)
    (case t_NoNumber => k_is)
    (case i1_NoNumber => k_is)
    (case i2_NoNumber => k_is)
    (case i3_NoNumber => k_is)
    (case i4_NoNumber => k_is)
    (case i5_NoNumber => k_is)
    (case g_NoPrime => k_is)
    (case x_NoPrime => k_exc)
    (case k_NoPrime => k_is)
    (case s_NoPrime => k_is)
    (case t_NoPrime => k_is)
    (case i1_NoPrime => k_is)
    (case i2_NoPrime => k_is)
    (case i3_NoPrime => k_is)
    (case i4_NoPrime => k_is)
    (case i5_NoPrime => k_is)
    (case i6 => k_is)
    (case i7 => k_is)
    (case r_TreeError_TreeError => first | rfl | k_is)
    (case r_TreeError_NoNumber => first | rfl | k_is)
    (case r_TreeError_NoPrime => first | rfl | k_is)
    (case r_NoNumber_TreeError => first | rfl | k_is)
    (case r_NoNumber_NoNumber => first | rfl | k_is)
    (case r_NoNumber_NoPrime => first | rfl | k_is)
    (case r_NoPrime_TreeError => first | rfl | k_is)
    (case r_NoPrime_NoNumber => first | rfl | k_is)
    (case r_NoPrime_NoPrime => first | rfl | k_is)

