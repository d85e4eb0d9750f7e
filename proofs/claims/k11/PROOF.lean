import PyProof.Rows.All
import Wide.All
import OpenK.AllK
import Wide.FinOn
import HandS.ForMost
import HandS.Exc
import HandS.ExcOwn
import HandS.ExcIs
import HandS.IsInst
import HandS.Style
import HandS.Steps
import HandS.WordsExc
import HandS.Wide
import HandS.Codes
import PyProof.ReprRoads
import PyProof.ReprLen
import HandS.RaiseMore
import HandS.Ends
import HandS.SetFor
import HandS.Strs
import KE.GoesMore
import KE.GoesEnum
import HandS.SortInts
import KE.SortData
import HandS.TupAny
import HandS.RevRange
import PyProof.AutoSeq1
import HandS.TupMul
import HandS.Deep
import HandS.Conv
import HandS.More
import HandS.Flow
import HandS.Zip
import PySem.Challenge.RW_sparetrees_k11_whole_packings_judged
set_option Elab.async false
set_option linter.all false
set_option maxRecDepth 100000
set_option maxHeartbeats 4000000
namespace My
open PySem PySem.Spec PyProof.Rows L2
/-! promises by the number of arguments -/
abbrev Sp0 (F : Hp → VK → XK → Prop) : Sp := fun vs H Q E => vs = [] ∧ F H Q E
abbrev Sp1 (F : V → Hp → VK → XK → Prop) : Sp := fun vs H Q E => ∃ a, vs = [a] ∧ F a H Q E
abbrev Sp2 (F : V → V → Hp → VK → XK → Prop) : Sp := fun vs H Q E => ∃ a b, vs = [a, b] ∧ F a b H Q E
abbrev Sp3 (F : V → V → V → Hp → VK → XK → Prop) : Sp := fun vs H Q E => ∃ a b c, vs = [a, b, c] ∧ F a b c H Q E
abbrev Sp4 (F : V → V → V → V → Hp → VK → XK → Prop) : Sp := fun vs H Q E => ∃ a b c d, vs = [a, b, c, d] ∧ F a b c d H Q E
abbrev Sp5 (F : V → V → V → V → V → Hp → VK → XK → Prop) : Sp := fun vs H Q E => ∃ a b c d e, vs = [a, b, c, d, e] ∧ F a b c d e H Q E

/-! an own exception class without __init__, made with nothing -/
theorem pmk_own0 {X : Cx} {C : Addr} {bmB : List Value} {B newId initId : String} {x : Str} {p pos : Pos} (F : ExcBaseFacts B newId initId bmB) (q : PySem.W.excIn X.K C bmB newId = true) (gC : X.mg x = some (.ref C))
    (kC : PySem.W.keepIn X.K (.ref C) = true) (r : Raises X (.ref C)) (hg : Gl X x) (hdb : (x == ("__debug__" : Str)) = false := by decide) :
    PMk X (.Call (.Name x p) [] [] pos) (fun _ H Q => Q (.ref C) none H) := by
  intro pins s σ H Q I h
  refine wpAny_Call_Name_kw (ld_glob I hg gC ?_ hdb)
  refine PySem.W.callWith_K0 I.kIn kC ?_
  obtain ⟨bm, N, nm, qn, bs, hdct, sn, sub, ab, col, dd, k0, k1, k2, k3, k5, mN, hC, hN, hni, T⟩ := exc_obj I.kIn q
  exact wpAny_call_exc_subT F T hC hN hni (fun h' e hm => mk_of I hm r h (I.hok.gone hm.new)) (Nat.zero_le _)

/-- a def that may raise, called where it is known that it does not -/
theorem passF {X : Cx} : Passes (L2.CX X.prog X.w) X E0 := fun pins σ H s e s' I c => by
  obtain ⟨_, _, _, _, _, _, _, _, _, _, _, _, hE⟩ := c
  exact hE.elim
theorem at_some {xs : List V} {i : Int} (h0 : 0 ≤ i) (h1 : i < xs.length) : ∃ v, atI xs i = some v ∧ v ∈ xs := by
  obtain ⟨j, rfl⟩ : ∃ j : Nat, i = (j : Int) := ⟨i.toNat, by omega⟩
  have hj : j < xs.length := by omega
  exact ⟨xs[j], atI_nat (List.getElem?_eq_getElem hj), List.getElem_mem hj⟩
/-! what a thing is -/
inductive Kn where
  | non | bl | int | str | tup | lst | dic | own
  deriving DecidableEq
def Kn.is : Kn → String → Bool
  | .non, _ => false
  | .bl, n => n == "bool" || n == "int"
  | .int, n => n == "int"
  | .str, n => n == "str"
  | .tup, n => n == "tuple"
  | .lst, n => n == "list"
  | .dic, n => n == "dict"
  | .own, _ => false
inductive Th (K : PySem.W.Frag) (H : Hp) : V → Kn → Prop
  | non : Th K H .non .non
  | bl (b : Bool) : Th K H (.bl b) .bl
  | int (i : Int) : Th K H (.int i) .int
  | str (z : Str) : Th K H (.str z) .str
  | tup {a : Addr} {xs : List V} (h : H a = some (.tup xs)) : Th K H (.ref a) .tup
  | lst {a : Addr} {xs : List V} (h : H a = some (.lst xs)) : Th K H (.ref a) .lst
  | dK {a : Addr} {xs : List (Key × V)} (h : H a = some (.dK xs)) : Th K H (.ref a) .dic
  | dT {a : Addr} {xs : List (List Key × V)} (h : H a = some (.dT xs)) : Th K H (.ref a) .dic
  | own {a C dx : Addr} {fs : List (Str × V)} (h : H a = some (.ins C dx fs)) (t : TyX K H (.ref a) (.ref C)) (k : ∀ n ∈ ["int", "bool", "tuple", "list", "dict", "str"], PySem.W.kitOne K (.ref C) (.type n) = some false) : Th K H (.ref a) .own
theorem Th.mono {K : PySem.W.Frag} {H H' : Hp} {x : V} {k : Kn} (h : Th K H x k) (s : Same H H') (own : k ≠ .own) : Th K H' x k := by
  cases h with
  | non => exact .non
  | bl b => exact .bl b
  | int i => exact .int i
  | str z => exact .str z
  | tup h => exact .tup (s _ _ h)
  | lst h => exact .lst (s _ _ h)
  | dK h => exact .dK (s _ _ h)
  | dT h => exact .dT (s _ _ h)
  | own h t k => exact absurd rfl own
theorem Th.isi {K : PySem.W.Frag} {H : Hp} {x : V} {k : Kn} (h : Th K H x k) (n : String) (hn : n ∈ ["int", "bool", "tuple", "list", "dict", "str"]) : ∃ t, TyX K H x t ∧ PySem.W.kitOne K t (.type n) = some (k.is n) := by
  cases h with
  | non => exact ⟨_, .base .non, kit_ty (by revert hn; revert n; decide +kernel)⟩
  | bl b => exact ⟨_, .base (.bl b), kit_ty (by revert hn; revert n; decide +kernel)⟩
  | int i => exact ⟨_, .base (.int i), kit_ty (by revert hn; revert n; decide +kernel)⟩
  | str z => exact ⟨_, .base (.str z), kit_ty (by revert hn; revert n; decide +kernel)⟩
  | tup h => exact ⟨_, .base (.tup h), kit_ty (by revert hn; revert n; decide +kernel)⟩
  | lst h => exact ⟨_, .base (.lst h), kit_ty (by revert hn; revert n; decide +kernel)⟩
  | dK h => exact ⟨_, .base (.dK h), kit_ty (by revert hn; revert n; decide +kernel)⟩
  | dT h => exact ⟨_, .base (.dT h), kit_ty (by revert hn; revert n; decide +kernel)⟩
  | own h t k => exact ⟨_, t, k n hn⟩
/-- an int that is no flag -/
def isI : V → Bool
  | .int _ => true
  | _ => false
theorem Th.isI {K : PySem.W.Frag} {H : Hp} {x : V} {k : Kn} (h : Th K H x k) : (k.is "int" && !k.is "bool") = My.isI x := by
  cases h <;> rfl
def within (x : V) (lo hi : Int) : Bool := match x with
  | .int i => decide (lo ≤ i) && decide (i ≤ hi)
  | _ => false
theorem within_int {x : V} {lo hi : Int} (h : within x lo hi = true) : ∃ i, x = .int i ∧ lo ≤ i ∧ i ≤ hi := by
  cases x <;> simp only [within] at h <;> first | exact absurd h (by decide) | exact ⟨_, rfl, by simpa using h⟩

theorem iteN {b : Bool} {X Y : Prop} (h1 : b = false → X) (h2 : b = true → Y) : if (!b) = true then X else Y := by
  cases b with
  | false => exact h1 rfl
  | true => exact h2 rfl
theorem iteB {b : Bool} {X Y : Prop} (h1 : b = true → X) (h2 : b = false → Y) : if b = true then X else Y := by
  cases b with
  | false => exact h2 rfl
  | true => exact h1 rfl
theorem dec_intP {i j : Int} : decide (V.int i = V.int j) = decide (i = j) := by
  rw [dec_int]
  rfl
theorem ans_chainLt {σ : L2.St} {H : Hp} {ta tb tc : TE} {i j k : Int} (ha : Val ta σ H (.int i)) (hb : Val tb σ H (.int j)) (hc : Val tc σ H (.int k)) :
    Ans (tTest (tChain (rI0 fun i j => .bl (decide (i < j))) (rI0 fun i j => .bl (decide (i < j))) ta tb tc)) σ H (decide (i < j) && decide (j < k)) := by
  intro Q q
  refine ha _ (hb _ ⟨i, j, rfl, rfl, _, rfl, iteB (fun c => hc _ ⟨j, k, rfl, rfl, _, rfl, ?_⟩) (fun c => ⟨_, rfl, ?_⟩)⟩)
  · rw [c] at q
    exact q
  · rw [c] at q
    exact q
theorem at_int {ns : List Int} {i : Int} (h0 : 0 ≤ i) (h1 : i < ns.length) : ∃ c, atI (ns.map V.int) i = some (.int c) := by
  obtain ⟨j, rfl⟩ : ∃ j : Nat, i = (j : Int) := ⟨i.toNat, by omega⟩
  have hj : j < ns.length := by omega
  exact ⟨ns[j], atI_nat (by rw [List.getElem?_map, List.getElem?_eq_getElem hj]; rfl)⟩
theorem isI_int {x : V} (h : isI x = true) : ∃ i, x = .int i := by
  cases x <;> simp only [isI] at h <;> first | exact absurd h (by decide) | exact ⟨_, rfl⟩
theorem within_not {x : V} {lo hi : Int} (h : isI x = false) : within x lo hi = false := by
  cases x <;> simp only [isI] at h <;> first | rfl | exact absurd h (by decide)
theorem in_ints {n : Int} : ∀ {ns : List Int}, inV (.int n) (ns.map V.int) = ns.contains n
  | [] => rfl
  | a :: r => by
    have ih := in_ints (n := n) (ns := r)
    show (eqV (.int a) (.int n) || inV (.int n) (r.map V.int)) = _
    rw [ih, List.contains_cons]
    congr 1
    show decide (a = n) = (n == a)
    by_cases e : a = n
    · subst e
      simp
    · have e2 : ¬ n = a := fun z => e z.symm
      simp [e, e2]
theorem flat_ints : ∀ {ns : List Int}, (ns.map V.int).all flatV = true
  | [] => rfl
  | _ :: r => by
    rw [List.map_cons, List.all_cons, flat_ints (ns := r)]
    rfl
theorem within_mk {i lo hi : Int} (h1 : lo ≤ i) (h2 : i ≤ hi) : within (.int i) lo hi = true := by
  simp only [within, Bool.and_eq_true, decide_eq_true_eq]
  exact ⟨h1, h2⟩
/-- a flat thing or a tuple -/
def Tg (H : Hp) (x : V) : Prop := x = .non ∨ (∃ b, x = .bl b) ∨ (∃ i, x = .int i) ∨ (∃ z, x = .str z) ∨ ∃ a xs, x = .ref a ∧ H a = some (.tup xs)
theorem Tg.th {K : PySem.W.Frag} {H : Hp} {x : V} (h : Tg H x) : ∃ k, Th K H x k ∧ k ≠ .own := by
  rcases h with rfl | ⟨b, rfl⟩ | ⟨i, rfl⟩ | ⟨z, rfl⟩ | ⟨a, xs, rfl, e⟩
  · exact ⟨_, .non, by decide⟩
  · exact ⟨_, .bl b, by decide⟩
  · exact ⟨_, .int i, by decide⟩
  · exact ⟨_, .str z, by decide⟩
  · exact ⟨_, .tup e, by decide⟩
theorem Tg.int {H : Hp} (i : Int) : Tg H (.int i) := .inr (.inr (.inl ⟨i, rfl⟩))
theorem Tg.keep {H H' : Hp} {x : V} (h : Tg H x) (s : ∀ a xs, H a = some (.tup xs) → H' a = some (.tup xs)) : Tg H' x := by
  rcases h with h | h | h | h | ⟨a, xs, e, e2⟩
  · exact .inl h
  · exact .inr (.inl h)
  · exact .inr (.inr (.inl h))
  · exact .inr (.inr (.inr (.inl h)))
  · exact .inr (.inr (.inr (.inr ⟨a, xs, e, s _ _ e2⟩)))
/-! heaps -/
theorem Same.new {H : Hp} {p : Addr} {o : HO} (h : H p = none) : Same H (upd H p o) := fun b x e => by
  rw [upd_ne (ne_of_none e h)]
  exact e
/-- all stands as it was but what stands at d -/
def Chg (d : Addr) (H H' : Hp) : Prop := ∀ b o, b ≠ d → H b = some o → H' b = some o
theorem Chg.of {d : Addr} {H H' : Hp} (s : Same H H') : Chg d H H' := fun b o _ e => s b o e
theorem Chg.refl (d : Addr) (H : Hp) : Chg d H H := fun _ _ _ h => h
theorem Chg.trans {d : Addr} {H H1 H2 : Hp} (a : Chg d H H1) (b : Chg d H1 H2) : Chg d H H2 := fun c o n h => b c o n (a c o n h)
theorem Chg.upd {d : Addr} {H : Hp} {o : HO} : Chg d H (upd H d o) := fun b x n e => by
  rw [upd_ne n]
  exact e
theorem Chg.seq {K : PySem.W.Frag} {d : Addr} {H H' : Hp} {a : Addr} {xs : List V} (e : Chg d H H') (n : a ≠ d) (h : SqL K H a xs) : SqL K H' a xs := by
  rcases h with (h | ⟨o, h⟩) | h
  · exact .inl (.inl (e _ _ n h))
  · exact .inl (.inr ⟨o, e _ _ n h⟩)
  · exact .inr h

theorem map_at {α : Type} {f : α → V} {l : List α} {i : Nat} {y : V} (h : (l.map f)[i]? = some y) : ∃ z, y = f z ∧ l[i]? = some z := by
  rw [List.getElem?_map] at h
  cases e : l[i]? with
  | none =>
    rw [e] at h
    cases h
  | some z =>
    rw [e] at h
    exact ⟨z, (Option.some.inj h).symm, rfl⟩

theorem Chg.tup {H H' : Hp} {d : Addr} {ys : List V} (c : Chg d H H') (hd : H d = some (.lst ys)) : ∀ a xs, H a = some (.tup xs) → H' a = some (.tup xs) := fun a xs e =>
  c a _ (ne_of e hd (by intro z; cases z)) e
theorem put_any {F : Hp → Prop} {H : Hp} {d : Addr} {o o' : HO} (e : o = o') (h : ∀ H', Chg d H H' → H' d = some o' → F H') : F (upd H d o) := by
  subst e
  exact h _ Chg.upd upd_same
theorem new_any {F : Hp → Prop} {H : Hp} {p : Addr} {o o' : HO} (hp : H p = none) (e : o = o') (h : ∀ H', Same H H' → H' p = some o' → F H') : F (upd H p o) := by
  subst e
  exact h _ (Same.new hp) upd_same

/-! comprehensions over a range or a list, whose parts change nothing that stands -/
theorem filt_step (c : Nat → Bool) (f : Nat → V) (i : Nat) : ((List.range (i + 1)).filter c).map f = ((List.range i).filter c).map f ++ (if c i = true then [f i] else []) := by
  rw [List.range_succ, List.filter_append, List.map_append]
  congr 1
  cases h : c i with
  | true => simp [List.filter, h]
  | false => simp [List.filter, h]
theorem filt_len (c : Nat → Bool) (f : Nat → V) (i : Nat) : (((List.range i).filter c).map f).length ≤ i := by
  rw [List.length_map]
  exact Nat.le_trans (List.length_filter_le _ _) (Nat.le_of_eq List.length_range)
theorem wipe1 (σ : L2.St) (j : Nat) : wipe σ [j] = σ.set j none := rfl
theorem wipe1_set (σ : L2.St) (j : Nat) (x : V) : wipe ((wipe σ [j]).set j (some x)) [j] = wipe σ [j] := by
  show ((σ.set j none).set j (some x)).set j none = σ.set j none
  rw [List.set_set, List.set_set]
theorem lc_rangeP {lo : Int} {n j : Nat} {tt : TT} {te : TE} {σ : L2.St} {H1 : Hp} {D : Addr} {Qd : Hp → Prop} (c : Nat → Bool) (f : Nat → V) (hD : H1 D = none) (hn : n ≤ 100000)
    (ht : ∀ i, i < n → ∀ H', Same H1 H' → ∀ Q : Bool → Hp → Prop, (∀ H2, Same H' H2 → Q (c i) H2) → tt ((wipe σ [j]).set j (some (.int (lo + i)))) H' Q)
    (he : ∀ i, i < n → c i = true → ∀ H', Same H1 H' → ∀ Q : VK, (∀ H2, Same H' H2 → Q (f i) H2) → te ((wipe σ [j]).set j (some (.int (lo + i)))) H' Q)
    (hq : ∀ H', Same H1 H' → H' D = some (.lst (((List.range n).filter c).map f)) → Qd H') :
    ∃ W : Nat → Nat → Hp → Prop, (∃ m, W 0 m (upd H1 D (.lst []))) ∧ ∀ i m H, W i m H →
      ((Itr lo n).stop i H ∧ Qd H) ∨ ((Itr lo n).go i H ∧ ∃ Nx : Hp → Prop, (∀ H', Nx H' → ∃ m', m' < m ∧ W (i + 1) m' H') ∧ ∀ x H', (Itr lo n).yld i H x H' → gName j x (wipe σ [j]) H' fun σ2 H2 => wipe σ2 [j] = wipe σ [j] ∧ tt σ2 H2 fun b H3 =>
        if b = true then te σ2 H3 fun y H4 => ∃ acc, H4 D = some (.lst acc) ∧ acc.length < sizeLine ∧ Nx (upd H4 D (.lst (acc ++ [y]))) else Nx H3) := by
  have nD : ∀ b o, H1 b = some o → b ≠ D := fun b o e => ne_of_none e hD
  refine lc_range (lo := lo) (n := n) (g := gName j) (tt := tt) (te := te) (vs := [j]) (fun i H => Same H1 H ∧ H D = some (.lst (((List.range i).filter c).map f))) ⟨Same.new hD, upd_same⟩ (fun i H hi ⟨s, hd⟩ => ?_) (fun H ⟨s, hd⟩ => hq H s hd)
  show wipe ((wipe σ [j]).set j (some (V.int (lo + i)))) [j] = wipe σ [j] ∧ _
  refine ⟨wipe1_set σ j _, ht i hi H s _ fun H2 s2 => ?_⟩
  cases hc : c i with
  | true =>
    refine iteT (he i hi hc H2 (s.trans s2) _ fun H3 s3 => ⟨_, s3 _ _ (s2 _ _ hd), ?_, fun b o e => ?_, ?_⟩)
    · exact Nat.lt_of_le_of_lt (filt_len c f i) (Nat.lt_of_lt_of_le hi (Nat.le_trans hn (by decide)))
    · rw [upd_ne (nD b o e)]
      exact s3 _ _ (s2 _ _ (s _ _ e))
    · rw [filt_step, hc, if_pos rfl]
      exact upd_same
  | false =>
    refine iteF ⟨s.trans s2, ?_⟩
    rw [filt_step, hc, if_neg Bool.false_ne_true, List.append_nil]
    exact s2 _ _ hd
end My

set_option Elab.async false
set_option linter.all false
set_option maxRecDepth 100000
set_option maxHeartbeats 4000000
namespace My
open PySem PySem.Spec PyProof.Rows L2
/-! several clauses «except C as n», one slot each -/
def offD (D : Ends) (i : Nat) : Ends := { nx := fun ζ G => D.nx (ζ.set i none) G, rt := D.rt, bk := fun ζ G => D.bk (ζ.set i none) G, ct := fun ζ G => D.ct (ζ.set i none) G }
def wAsL (K : PySem.W.Frag) (Wo : WX) (D : Ends) : List (Value × Nat × (Addr → Value → Option Addr → TS)) → WX
  | [] => Wo
  | (c, i, ts) :: r => fun cl d ζ G => ∃ b, PySem.W.exmOne K cl c = some b ∧ (b = true → ∀ e, G e = none → ts e cl d (offD D i) (ζ.set i (some (.ref e))) G) ∧ (b = false → wAsL K Wo D r cl d ζ G)
inductive ClsOk (X : Cx) : List ExceptHandler → List (Value × Nat × (Addr → Value → Option Addr → TS)) → Prop
  | nil : ClsOk X [] []
  | cons {x n : Str} {i : Nat} {c : Value} {ts : Addr → Value → Option Addr → TS} {st₀ : Stmt} {sts : List Stmt} {np ps : Pos} {hl : List ExceptHandler} {l : List (Value × Nat × (Addr → Value → Option Addr → TS))} (hi : X.N[i]? = some n)
      (hn : X.env.kindOf n = some .local) (hc : Names X x c)
      (hsu : ∀ (e : Addr) (ob : Obj) (cl : Value) (d : Option Addr) (pn : List (Addr × Obj)), Zc cl d ob → (∃ vs, ob.data = .fields vs) → PSs (X.suite e ((e, ob) :: pn)) (st₀ :: sts) (ts e cl d)) (r : ClsOk X hl l) :
      ClsOk X (.ExceptHandler (some (.Name x np)) (some n) (st₀ :: sts) ps :: hl) ((c, i, ts) :: l)
section
variable {X : Cx} {body : List Stmt} {hd₀ : ExceptHandler} {hl : List ExceptHandler} {l : List (Value × Nat × (Addr → Value → Option Addr → TS))} {pos : Pos} {tb : WX → TS} {Wo : WX}
theorem ps_try_asL (hs : X.stack = X.env :: X.outer) (hf : X.env.frame = some X.env.locals) (nd : X.N.Nodup) (tk : Takes X Wo)
    (hb : ∀ (W : WX) (pn : List (Addr × Obj)) (ex : Value → Shared → Prop), Takes (X.tr pn ex) W → PassesOwn (model X.prog X.w) X.A X.env ex → PSs (X.tr pn ex) body (tb W))
    (hh : ClsOk X (hd₀ :: hl) l) : PS X (.Try body (hd₀ :: hl) [] [] pos) (fun D σ H => tb (wAsL X.K Wo D l) D σ H) := by
  refine ⟨fun pins s σ H D I h => ?_⟩
  have okX := I.ok
  have frX : X.A.frames = some (X.env :: X.outer) := by rw [okX.frames, hs]
  refine wpAny_Try_except ?_
  refine wpAny_mono ((hb (wAsL X.K Wo D l) (X.pn ++ pins) (fun u t => wpAny (model X.prog X.w) X.A (noteFrame u X.env) (fun _ t2 => wpAny (model X.prog X.w) X.A (setFlight u none) (fun _ t3 =>
    wpAny (model X.prog X.w) X.A (handleBy u X.env (hd₀ :: hl)) (SP X pins D) X.xe t3) X.xe t2) X.xe t) (fun u t zz => ?_) PassesOwn.looking).run [] s σ H D (I.toTry _) h) (fun f t hsp => ?_) (fun _ _ z => z)
  · obtain ⟨e, B, sI, pn', ζ, G, cl, d, rfl, J', nb, up, sky, na, os, ag, w⟩ := zz
    have J : Inv X pins ζ G sI := J'.ofTry okX
    have sky2 : Sky B (X.env :: X.outer) e (Zc cl d) X.env.locals t.heap := by rw [← hs]; exact sky
    show wpAny (model X.prog X.w) X.A (noteFrame (.ref e) X.env) _ _ _
    refine Sky.land Zc.steady frX hf sky2 fun g3 fl3 up3 => ?_
    have J3 : Inv X pins ζ G { t with heap := g3 } := J.landed nb fl3.1 (up.trans up3) os ag
    obtain ⟨ob3, vs3, hob3, hz3, hda3⟩ := fl3.there
    have offFr : ∀ {g : Heap} {o : Obj} {vs : Array Value}, g.FunFrames B (X.env :: X.outer) → g.get? e = some o → o.data = .fields vs → e ∉ frs (X.env :: X.outer) := fun {g o vs} ff q1 q2 hm => by
      obtain ⟨_, o2, q3, no⟩ := ff.mem hm
      rw [q1] at q3; cases q3
      exact no _ q2
    have noFr := offFr fl3.2.2.1 hob3 hda3
    have neL : e ≠ X.env.locals := fun z => noFr (List.mem_filterMap.mpr ⟨X.env, List.mem_cons_self, by rw [hf, z]⟩)
    have neF : e ∉ X.fs := fun hm => by
      obtain ⟨v, hv, q⟩ := List.mem_filterMap.mp hm
      exact noFr (List.mem_filterMap.mpr ⟨v, List.mem_cons_of_mem _ hv, q⟩)
    have S3 := J3.suite hob3 hda3 na neL neF
    have LT : PySem.W.Looks (model X.prog X.w) g3 (typeOf (.ref e)) cl := fun A Q E s k q => wpAny_typeOf_ref (k _ _ hob3) (by rw [hz3.1]; exact q)
    have go : ∀ {hl' : List ExceptHandler} {l' : List (Value × Nat × (Addr → Value → Option Addr → TS))}, ClsOk X hl' l' → wAsL X.K Wo D l' cl d ζ G →
        wpAny (model X.prog X.w) X.A (handleBy (.ref e) X.env hl') (SP X pins D) X.xe { t with heap := g3 } := by
      intro hl' l' hk
      induction hk with
      | nil =>
        intro w
        refine wpAny_handleBy_nil ?_
        obtain ⟨k1, k2, k3, ob, vs, Tb, oT, ts', q1, q2, q3, q4, q5⟩ := id fl3
        unfold PySem.passOn
        refine wpAny_bind (wpAny_field q1 q3 q4 ?_)
        rw [if_neg (show ¬ ((Value.ref Tb == Value.none) = true) from by simp)]
        have fin : wpAny (model X.prog X.w) X.A (setFlight (.ref e) X.env.frame) (fun _ t4 => wpAny (model X.prog X.w) X.A (throw (.ref e) : Sem Flow) (SP X pins D) X.xe t4) X.xe { t with heap := g3 } := by
          rw [hf]
          refine HandSPX.setFlight_upZ fl3 fun g4 hh4 up4 => wpAny_throw (tk _ _ ?_)
          exact ⟨e, B, sI, pins, ζ, G, cl, d, rfl, J, nb, (up.trans up3).trans up4, .inr (.inr (by rw [hs]; exact hh4)), na, os, ag, w⟩
        first
          | exact wpAny_bind (wpAny_pure (wpAny_bind fin))
          | exact wpAny_bind fin
      | @cons x n i c ts st₀ sts np ps hl2 l2 hi hn hc hsu r ih =>
        intro w
        obtain ⟨b, hb1, wyes, wno⟩ := w
        refine wpAny_handleBy_cons (codeAny_handlers_test ?_) (by intro q; cases q)
        have LM := PySem.W.exm_one (M := model X.prog X.w) (J3.kIn) LT hb1
        have look : ∀ {Q : Value → Shared → Prop} {E : Value → Shared → Prop}, Q c { t with heap := g3 } → wpAny (model X.prog X.w) (X.A.mark (some (.ref e))) (eval (.Name x np) X.env) Q E { t with heap := g3 } := fun {Q E} q => by
          obtain ⟨hg, hdbg, hm | ⟨hm, hv, hnn⟩⟩ := hc
          · exact ld_glob (X := X.suite e ((e, ob3) :: (X.pn ++ pins))) S3 hg hm q hdbg
          · exact ld_blt (X := X.suite e ((e, ob3) :: (X.pn ++ pins))) S3 hg hm hv q hnn hdbg
        refine look (LM.here ?_)
        cases b with
        | true =>
          refine codeAny_handlers_suite_as ?_
          refine HandSPX.lands_againZ fl3 fun g4 fl4 up4 => ?_
          have J4 : Inv X pins ζ G { t with heap := g4 } := J.landed nb fl4.1 ((up.trans up3).trans up4) os ag
          obtain ⟨ob4, vs4, hob4, hz4, hda4⟩ := fl4.there
          have S4 := J4.suite hob4 hda4 na neL neF
          refine store_ok (X := X.suite e ((e, ob4) :: (X.pn ++ pins))) (v := .ref e) S4 nd hi (.inl hn) rfl (fun s5 S5 => ?_) (.inr hn)
          refine wpAny_mono ((hsu e ob4 cl d (X.pn ++ pins) hz4 ⟨_, hda4⟩).run [] s5 _ G _ S5 (wyes rfl e na)) (fun f s6 hsp => ?_) (fun _ _ z => False.elim z)
          have done : ∀ {ζ6 : L2.St} {G6 : Hp} {Q : Shared → Prop}, Inv (X.suite e ((e, ob4) :: (X.pn ++ pins))) [] ζ6 G6 s6 → (∀ s7, Inv X pins (ζ6.set i none) G6 s7 → Q s7) →
              wpAny (model X.prog X.w) X.A (do bindName X.env n .none; unbindBehindTheSuite X.env n ps) (fun _ s7 => Q s7) X.xe s6 := fun {ζ6 G6 Q} S6 hq => gone_ok (S6.unsuite okX) nd hi hn hq
          cases f with
          | next =>
            obtain ⟨ζ6, G6, S6, q6⟩ := hsp
            exact done S6 fun s7 J7 => ⟨_, _, J7, q6⟩
          | brk =>
            obtain ⟨ζ6, G6, S6, q6⟩ := hsp
            exact done S6 fun s7 J7 => ⟨_, _, J7, q6⟩
          | cont =>
            obtain ⟨ζ6, G6, S6, q6⟩ := hsp
            exact done S6 fun s7 J7 => ⟨_, _, J7, q6⟩
          | ret u =>
            obtain ⟨v6, ζ6, G6, S6, r6, q6⟩ := hsp
            exact done S6 fun s7 J7 => ⟨_, _, _, J7, r6, q6⟩
        | false =>
          show wpAny _ X.A (handleBy (.ref e) X.env hl2) _ _ _
          exact ih (wno rfl)
    exact go hh w
  · cases f with
    | next =>
      obtain ⟨ζ, G, J, q⟩ := hsp
      exact wpAny_execs_nil ⟨ζ, G, J.ofTry okX, q⟩
    | brk =>
      obtain ⟨ζ, G, J, q⟩ := hsp
      exact ⟨ζ, G, J.ofTry okX, q⟩
    | cont =>
      obtain ⟨ζ, G, J, q⟩ := hsp
      exact ⟨ζ, G, J.ofTry okX, q⟩
    | ret u =>
      obtain ⟨v, ζ, G, J, r, q⟩ := hsp
      exact ⟨v, ζ, G, J.ofTry okX, r, q⟩
end
/-- isinstance of the error that a suite holds: its class is told by what was raised -/
def rIsX (K : PySem.W.Frag) (cl : Value) (d : Option Addr) (a : Addr) : List V → Hp → VK → Prop := fun xs H Q => ∃ (D : Addr) (c : V) (cv : Value) (b : Bool), cl = .ref D ∧ d = none ∧ ExcC K D ∧ xs = [.ref a, c] ∧ (∀ u, RelV c u → u = cv) ∧ PySem.W.kitOne K (.ref D) cv = some b ∧ Q (.bl b) H
theorem call_isX {X : Cx} {a : Addr} {cl : Value} {d : Option Addr} {oe : Obj} {pn : List (Addr × Obj)} (hz : Zc cl d oe) (hf : ∃ vs, oe.data = .fields vs) : CallR (X.suite a ((a, oe) :: pn)) (.builtin "isinstance") (rIsX X.K cl d a) := by
  intro pins s σ H xs us Q I r h
  obtain ⟨D, c, cv, b, e1, e2, C, rfl, hcv, e, q⟩ := h
  subst e1 e2
  exact call_isE C hz hf pins s σ H _ us Q I r ⟨c, cv, b, rfl, hcv, e, q⟩
/-- isinstance(e, C) of an own class C -/
theorem kit_ref {K : PySem.W.Frag} {C : Addr} {t : Value} {b : Bool} (hd : PySem.W.hasDictIn K C = true) (ht : PySem.W.typeIn K (.ref C) = some (.type "type")) (h4 : PySem.W.subIn K t (.ref C) = some b) (h5 : t = .ref C → b = true) : PySem.W.kitOne K t (.ref C) = some b := by
  obtain ⟨cd, hc, _⟩ := PySem.W.any_some hd
  have e2 : ((PySem.W.clsIn K C).isSome && PySem.W.typeIn K (.ref C) == some (.type "type")) = true := by rw [hc, ht] <;> rfl
  unfold PySem.W.kitOne PySem.W.kitCls
  by_cases e : (t == Value.ref C) = true
  · rw [if_pos e, h5 (beq_iff_eq.mp e)]
  · rw [if_neg e]
    simp only [e2, if_true]
    exact h4
end My

set_option Elab.async false
set_option linter.all false
set_option maxRecDepth 100000
set_option maxHeartbeats 4000000
/-! defs that may ask repr: run where nothing is being shown -/
namespace My
open PySem PySem.Spec PyProof.Rows L2
structure OkG (P : Program) (w : World) (K : PySem.W.Frag) (mg : Str → Option Value) (base : Heap) (CX : CXT) (k : Nat) (f : Addr) (fd : FuncData) (ps : List Str) (sp : Sp) : Prop where
  len : ∀ vs H Q E, sp vs H Q E → vs.length = ps.length
  run : ∀ (A : Around) (out : List Env) (s : Shared) (H : Hp) (ar : Args) (us : List Value) (vs : List V) (Q : VK) (E : XK), A.guards = some [] → Room k A → Env0 P w K mg base A out s H → BindsTo s fd ar (ps.zip us) → Vals vs us → sp vs H Q E →
    codeAny (model P w) A (.call (.ref f) ar) (CR CX out P w H s Q E) s
section
variable {P : Program} {w : World} {K : PySem.W.Frag} {mg : Str → Option Value} {base : Heap} {CX : CXT}
theorem OkG.of {k : Nat} {f : Addr} {fd : FuncData} {ps : List Str} {sp : Sp} (F : FnOk P w K mg base CX k f fd ps sp) : OkG P w K mg base CX k f fd ps sp := ⟨F.len, fun A out s H ar us vs Q E _ => F.run A out s H ar us vs Q E⟩
theorem fn_ofG {k : Nat} {f : Addr} {nam qual : Str} {prm : Arguments} {bod : List Stmt} {sco : Scope} {dV kV dc pm cdv ct oc : Value} {an od : Option Addr} {sl : Array (Option Value)} {N ps : List Str} {sp : Sp}
    (lk : K.lookup f = some ⟨oc, od, .func (PySem.W.fnOf nam qual prm bod sco dV kV dc pm an cdv ct), sl⟩) (hcd : PySem.W.codeIn K cdv qual = true) (S : FnScope N ps sco) (len : ∀ vs H Q E, sp vs H Q E → vs.length = ps.length)
    (bd : ∀ (A : Around) (out : List Env) (s : Shared) (H : Hp) (vs : List V) (Q : VK) (E : XK), A.guards = some [] → Room k (A.deeper (envOfC qual sco s.heap.objs.size f cdv)) → sp vs H Q E →
      ∃ t, PSs (cxOf CX P w K mg base N qual sco f cdv A out s H E) bod t ∧ t { nx := fun _ H' => Q .non H', rt := Q } (start N vs) H) :
    OkG P w K mg base CX (k + 1) f (PySem.W.fnOf nam qual prm bod sco dV kV dc pm an cdv ct) ps sp := by
  refine ⟨len, fun A out s H ar us vs Q E hg hr e0 hb r hs => ?_⟩
  have zl := len _ _ _ _ hs
  have KS : K.In s.heap := e0.mod.kin.keeps fun b o e => (e0.bs b o e).1
  have nl : s.heap.NoLimit := e0.mod.nolimit.keeps fun b o e => (e0.bs b o e).1
  have kinds : ∀ y ∈ ps.zip us, sco.names.lookup y.1 = some .local ∨ (sco.names.lookup y.1 = some .cell ∧ ((cellsFrom (s.heap.objs.size + 1) sco.names []).lookup y.1).isSome = true) := fun ⟨n, v⟩ hy => by
    rcases S.par n (List.of_mem_zip hy).1 with q | q
    · exact .inl q
    · exact .inr ⟨q, PySem.W.cellsFrom_some _ _ _ (.inl q)⟩
  refine codeAny_call_function hr.depth (KS _ _ lk) rfl S.co S.gen rfl (PySem.W.codeRec_of KS hcd) (hb _ _ _ _ ?_)
  refine wpAny_newFunctionEnv_cells S.kind kinds fun env he s1 x => ?_
  subst he
  refine ⟨nl.keeps x.toInCall.keep, codeAny_func ?_⟩
  obtain ⟨t, ht, hq⟩ := bd A out s H vs Q E hg (hr.deeper _) hs
  have I : Inv (cxOf CX P w K mg base N qual sco f cdv A out s H E) [] (start N vs) H s1 := inv_start S hr.hd e0 zl r x
  refine wpAny_mono (ht.run [] s1 (start N vs) H _ I hq) (fun fl s' h2 => ?_) fun e s' h2 => h2
  have over : ∀ {ζ : L2.St} {G : Hp} {v : V} {u : Value}, Inv (cxOf CX P w K mg base N qual sco f cdv A out s H E) [] ζ G s' → RelV v u → Q v G → CE out P w H s Q u s' :=
    fun {ζ G v u} J rv q => ⟨v, G, J.os, J.bare, J.base, J.hok, rv, q⟩
  cases fl with
  | ret u =>
    obtain ⟨v, ζ, G, J, rv, q⟩ := h2
    exact over J rv q
  | next =>
    obtain ⟨ζ, G, J, q⟩ := h2
    exact over (v := V.non) (u := Value.none) J rfl q
  | brk =>
    obtain ⟨_, _, _, q⟩ := h2
    exact False.elim q
  | cont =>
    obtain ⟨_, _, _, q⟩ := h2
    exact False.elim q
theorem _root_.L2.Fun.okG {x qual : Str} {st : Stmt} {f : Addr} {fd : FuncData} {N ps : List Str} {k : Nat} {sp : Sp} (F : Fun K x qual st f fd) (S : FnScope N ps (defScope st)) (len : ∀ vs H Q E, sp vs H Q E → vs.length = ps.length)
    (bd : ∀ (cdv : Value) (A : Around) (out : List Env) (s : Shared) (H : Hp) (vs : List V) (Q : VK) (E : XK), A.guards = some [] → Room k (A.deeper (envOfC qual (defScope st) s.heap.objs.size f cdv)) → sp vs H Q E →
      ∃ t, PSs (cxOf CX0 P w K mg base N qual (defScope st) f cdv A out s H E).nox (defBody st) t ∧ t { nx := fun _ H' => Q .non H', rt := Q } (start N vs) H) : OkG P w K mg base CX0 (k + 1) f fd ps sp := by
  obtain ⟨oc, od, kV, dc, pm, an, cdv, ct, sl, rfl, lk, hcd⟩ := F.ex
  refine fn_ofG lk hcd S len fun A out s H vs Q E hg hr hs => ?_
  obtain ⟨t, h, q⟩ := bd cdv A out s H vs Q E hg hr hs
  exact ⟨t, h.nox, q⟩
end
section
variable {X : Cx} {CX : CXT} {k : Nat} {f : Addr} {fd : FuncData} {ps : List Str} {sp : Sp} {E : XK} {x : Str} {p pos : Pos} {e : Expr} {es : List Expr} {t : TA}
theorem pe_callG (F : OkG X.prog X.w X.K X.mg X.base CX k f fd ps sp) (hG : X.A.guards = some []) (hr : Room k X.A) (hg : Gl X x) (hm : X.mg x = some (.ref f)) (hk : PySem.W.keepIn X.K (.ref f) = true) (hb : Binds X.K fd ps []) (hx : Passes CX X E)
    (ha : PA X (e :: es) t) (hdb : (x == ("__debug__" : Str)) = false := by decide) (he : starEach (e :: es) X.env = (false, eval e X.env) :: starEach es X.env := by rfl) (hpl : (backTo pos (starEach es X.env)).any (·.1) = false := by rfl) :
    PE X (.Call (.Name x p) (e :: es) [] pos) (tCall sp [] E t) := by
  refine ⟨fun pins s σ H Q I h => wpAny_Call_Name_kw (ld_glob I hg hm ?_ hdb)⟩
  refine PySem.W.callWith_K (h₀ := X.base) I.ok.mod.kin hk (thn (ha.run pos pins s σ H _ I h) fun us s1 ⟨vs, H1, I1, r, q⟩ => ⟨I1.kIn, ?_⟩) he hpl
  have q : sp vs H1 Q E := by rw [← List.append_nil vs]; exact q
  have zl : us.length = ps.length := by rw [← r.length]; exact F.len _ _ _ _ q
  have b := hb s1 us I1.kIn (by rw [List.append_nil]; exact zl)
  rw [List.append_nil] at b
  refine wpAny_call (codeAny_mono (F.run X.A X.stack s1 H1 ⟨us, []⟩ us vs Q E hG hr I1.env0 b r q) fun rr s' hq => ?_)
  cases rr with
  | error ee => exact hx pins σ H1 s1 ee s' I1 hq
  | ok fl =>
    cases fl with
    | ret u => exact I1.after hq
    | next => exact False.elim hq
    | brk => exact False.elim hq
    | cont => exact False.elim hq
end

/-! ### data, with lists (m) or with dicts of ints (not m), and what it shows -/
mutual
inductive Dq (K : PySem.W.Frag) (H : Hp) (m : Bool) : V → PyData → Prop
  | non : Dq K H m .non .none
  | bl (b : Bool) : Dq K H m (.bl b) (.bool b)
  | int (i : Int) : Dq K H m (.int i) (.int i)
  | str (x : Str) : Dq K H m (.str x) (.str x)
  | lst {a : Addr} {xs : List V} {ds : List PyData} : m = true → SqL K H a xs → DqAll K H m xs ds → Dq K H m (.ref a) (.list ds)
  | tup {a : Addr} {xs : List V} {ds : List PyData} : SqT K H a xs → DqAll K H m xs ds → Dq K H m (.ref a) (.tuple ds)
  | dic {a : Addr} {ps : List (Int × Int)} : m = false → Rd H a (.dK (ps.map fun p => ((Sum.inl p.1 : Key), V.int p.2))) → Dq K H m (.ref a) (.dict (ps.map fun p => (.int p.1, .int p.2)))
inductive DqAll (K : PySem.W.Frag) (H : Hp) (m : Bool) : List V → List PyData → Prop
  | nil : DqAll K H m [] []
  | cons {v : V} {vs : List V} {d : PyData} {ds : List PyData} : Dq K H m v d → DqAll K H m vs ds → DqAll K H m (v :: vs) (d :: ds)
end
theorem kv_keys {P : Program} {w : World} : ∀ {ps : List (Int × Int)} {vs : List (Key × Value)} {es : List DictEntry} {h : Heap}, KV (ps.map fun p => ((Sum.inl p.1 : Key), V.int p.2)) vs → Pairs (mixKind P w) es vs →
    ReadsAll h (es.map (·.key)) ((ps.map fun p => (PyData.int p.1, PyData.int p.2)).map (·.1)) [] ∧ ReadsAll h (es.map (·.val)) ((ps.map fun p => (PyData.int p.1, PyData.int p.2)).map (·.2)) []
  | [], _, _, _, k, p => by
    cases k
    cases p
    exact ⟨.nil, .nil⟩
  | q :: ps, _, _, h, k, p => by
    cases k with
    | cons r rr =>
      cases p with
      | cons h1 h2 ht =>
        obtain ⟨e1, e2⟩ := kv_keys (h := h) rr ht
        obtain ⟨r1, t2, r2⟩ := r
        rw [← r1] at h1
        obtain ⟨t1, hk⟩ := Value.isInt_shape (show Value.isInt q.1 _ = true from h1)
        refine ⟨?_, ?_⟩
        · rw [List.map_cons, hk]
          exact ReadsAll.cons (as := []) (.int _ _) e1
        · rw [List.map_cons, h2, r2]
          exact ReadsAll.cons (as := []) (.int _ _) e2
section
variable {X : Cx} {pins : List (Addr × Obj)} {σ : L2.St} {H : Hp} {s : Shared} {m : Bool}
mutual
theorem Dq.reads (I : Inv X pins σ H s) : ∀ (d : PyData) (v : V) (u : Value), Dq X.K H m v d → RelV v u → ∃ as, Reads s.heap u d as ∧ (m = false → sysModules ∉ as) ∧ (m = true → d.hasDict = false)
  | .none, _, _, h, r => by
    cases h
    cases r
    exact ⟨_, Reads.none, fun _ => by simp, fun _ => rfl⟩
  | .bool b, _, _, h, r => by
    cases h
    cases r
    exact ⟨_, Reads.bool b, fun _ => by simp, fun _ => rfl⟩
  | .int i, _, _, h, r => by
    cases h
    obtain ⟨t, rfl⟩ := r
    exact ⟨_, Reads.int i t, fun _ => by simp, fun _ => rfl⟩
  | .str x, _, _, h, r => by
    cases h
    obtain ⟨t, rfl⟩ := r
    exact ⟨_, Reads.str x t, fun _ => by simp, fun _ => rfl⟩
  | .list ds, _, _, h, r => by
    cases h with
    | lst hm hs ha =>
      cases r
      obtain ⟨its, rv, ⟨o, n, ho, hc, _, hd⟩, _⟩ := I.list hs
      obtain ⟨as, hr, _, h2⟩ := Dq.readsAll I ds _ its ha rv
      exact ⟨_, Reads.list ho hc hd hr, fun e => (by rw [hm] at e; cases e), h2⟩
  | .tuple ds, _, _, h, r => by
    cases h with
    | tup hs ha =>
      cases r
      obtain ⟨its, rv, ⟨o, ho, hc, n, hd⟩, _⟩ := I.tuple hs
      obtain ⟨as, hr, h1, h2⟩ := Dq.readsAll I ds _ its ha rv
      exact ⟨_, Reads.tuple ho hc hd hr, h1, h2⟩
  | .dict kvs, _, _, h, r => by
    cases h with
    | dic hm hs =>
      cases r
      obtain ⟨_, hsys, vs, hk, o, es, ep, ho, hex, hd, _, hp, _⟩ := dk_rd I.hok hs
      obtain ⟨e1, e2⟩ := kv_keys (h := s.heap) hk hp
      refine ⟨_, Reads.dict ho hex.1 hd e1 e2, fun _ => ?_, fun e => (by rw [hm] at e; cases e)⟩
      have n := beq_eq_false_iff_ne.mp hsys
      simp [Ne.symm n]
theorem Dq.readsAll (I : Inv X pins σ H s) : ∀ (ds : List PyData) (vs : List V) (us : List Value), DqAll X.K H m vs ds → Vals vs us → ∃ as, ReadsAll s.heap us ds as ∧ (m = false → sysModules ∉ as) ∧ (m = true → PyData.hasDictAll ds = false)
  | [], _, _, h, r => by
    cases h
    cases r
    exact ⟨_, ReadsAll.nil, fun _ => by simp, fun _ => rfl⟩
  | d :: ds, _, _, h, r => by
    cases h with
    | cons h1 h2 =>
      cases r with
      | cons r1 r2 =>
        obtain ⟨as, q1, q2, q3⟩ := Dq.reads I d _ _ h1 r1
        obtain ⟨bs, z1, z2, z3⟩ := Dq.readsAll I ds _ _ h2 r2
        refine ⟨_, ReadsAll.cons q1 z1, fun e hm => ?_, fun e => ?_⟩
        · rcases List.mem_append.mp hm with h | h
          · exact q2 e h
          · exact z2 e h
        · show (PyData.hasDict d || PyData.hasDictAll ds) = false
          rw [q3 e, z3 e]
          rfl
end
end
/-- what a thing's text costs at most -/
def dcost : PyData → Nat
  | .none => 4
  | .bool _ => 5
  | .int i => (PyData.shown (.int i)).length
  | .str x => (reprText x).length
  | .list xs => cAll xs + 3
  | .tuple xs => cAll xs + 3
  | .dict kvs => (dictText (PyData.shownKv kvs)).length
where cAll : List PyData → Nat
  | [] => 0
  | x :: xs => dcost x + 2 + cAll xs
mutual
theorem shown_cost : ∀ d : PyData, d.shown.length ≤ dcost d
  | .none => by simp only [PyData.shown, dcost]; decide
  | .bool b => by cases b <;> (simp only [PyData.shown, dcost]; decide)
  | .int i => Nat.le_of_eq (by simp only [dcost])
  | .str x => Nat.le_of_eq (by simp only [PyData.shown, dcost])
  | .list xs => by
    have h := shown_costAll xs
    have h2 := listText_len_le (PyData.shownAll xs)
    simp only [PyData.shown, dcost]
    omega
  | .tuple xs => by
    have h := shown_costAll xs
    have h2 := tupleText_len_le (PyData.shownAll xs)
    simp only [PyData.shown, dcost]
    omega
  | .dict kvs => Nat.le_of_eq (by simp only [PyData.shown, dcost])
theorem shown_costAll : ∀ xs : List PyData, ((PyData.shownAll xs).map (·.length)).sum + 2 * (PyData.shownAll xs).length ≤ dcost.cAll xs
  | [] => by simp only [PyData.shownAll, dcost.cAll]; decide
  | x :: xs => by
    have h1 := shown_cost x
    have h2 := shown_costAll xs
    simp only [PyData.shownAll, dcost.cAll, List.map_cons, List.sum_cons, List.length_cons]
    omega
end
/-- repr(x) -/
def rRepr (K : PySem.W.Frag) : List V → Hp → VK → Prop := fun xs H Q => ∃ (x : V) (m : Bool) (d : PyData), xs = [x] ∧ Dq K H m x d ∧ d.showable = true ∧ dcost d ≤ 10000000 ∧ d.depth ≤ 50 ∧ Q (.str d.shown) H
theorem call_repr {X : Cx} (hG : X.A.guards = some []) (hu : X.A.units + 64 < cLine) : CallR X (.builtin "repr") (rRepr X.K) := by
  intro pins s σ H xs us Q I r h
  obtain ⟨x, m, d, rfl, hd, hs, hc, hdp, q⟩ := h
  have hz : d.shown.length ≤ sizeLine := Nat.le_trans (shown_cost d) (Nat.le_trans hc (by decide))
  cases r with
  | cons r1 rr =>
    cases rr
    cases hd with
    | non =>
      cases r1
      exact PySem.P.repr_of_none ⟨.str _, H, I.tok _, ⟨_, rfl⟩, q⟩
    | bl b =>
      cases r1
      exact PySem.P.repr_of_bool ⟨.str _, H, I.tok _, ⟨_, rfl⟩, by cases b <;> exact q⟩
    | int i =>
      obtain ⟨t, rfl⟩ := r1
      exact PySem.P.repr_of_int (of_decide_eq_true hs) ⟨.str _, H, I.tok _, ⟨_, rfl⟩, q⟩
    | str z =>
      obtain ⟨t, rfl⟩ := r1
      exact PySem.P.repr_of_str ⟨.str _, H, I.tok _, ⟨_, rfl⟩, q⟩ hz
    | lst hm h1 h2 =>
      cases r1
      obtain ⟨as, rd, n1, n2⟩ := Dq.reads I _ _ _ (Dq.lst hm h1 h2) rfl
      refine repr_of_reads' rd hs (fun e => ?_) hG (by omega) (fun _ _ e => e) (fun g u tk k => ⟨.str _, H, I.kept (t' := tk) k, ⟨_, rfl⟩, q⟩) hz
      cases m with
      | true => rw [n2 rfl] at e; cases e
      | false => exact n1 rfl
    | tup h1 h2 =>
      cases r1
      obtain ⟨as, rd, n1, n2⟩ := Dq.reads I _ _ _ (Dq.tup (m := m) h1 h2) rfl
      refine repr_of_reads' rd hs (fun e => ?_) hG (by omega) (fun _ _ e => e) (fun g u tk k => ⟨.str _, H, I.kept (t' := tk) k, ⟨_, rfl⟩, q⟩) hz
      cases m with
      | true => rw [n2 rfl] at e; cases e
      | false => exact n1 rfl
    | dic hm h1 =>
      cases r1
      obtain ⟨as, rd, n1, n2⟩ := Dq.reads I _ _ _ (Dq.dic hm h1) rfl
      exact repr_of_reads' rd hs (fun e => n1 hm) hG (by omega) (fun _ _ e => e) (fun g u tk k => ⟨.str _, H, I.kept (t' := tk) k, ⟨_, rfl⟩, q⟩) hz
end My

set_option Elab.async false
set_option linter.all false
set_option maxRecDepth 100000
set_option maxHeartbeats 4000000
namespace My
open PySem PySem.Spec PyProof.Rows L2
theorem law_callG {P : Program} {w : World} {K : PySem.W.Frag} {mg mb : Str → Option Value} {CX : CXT} {k : Nat} {fa a : Addr} {fd : FuncData} {x : Str} {sp : Sp} {s₁ : Shared} {vs : List Value} {ns : List Int}
    (KI : K.In s₁.heap) (nsg : s₁.heap.Ns mainGlobals mg) (bns : s₁.heap.Ns builtinsNs mb) (bbn : ∀ x : Str, x ≠ "__name__" → mb x = bootBuiltins x) (nlm : s₁.heap.NoLimit) (gns : s₁.gens = #[])
    (had : s₁.heap.get? a = some { cls := .type "list", data := .seq vs.toArray }) (hin : IntsAre vs ns) (hle : ns.length ≤ sizeLine) (rm : Room k callerA)
    (F : ∀ base : Heap, K.In base → base.Ns mainGlobals mg → OkG P w K mg base CX k fa fd [x] sp) (bnd : ∀ (s : Shared) (u : Value), BindsTo s fd ⟨[u], []⟩ [(x, u)])
    (spk : ∀ H : Hp, Only H → SqL K H a (ns.map V.int) → sp [.ref a] H (fun v _ => v = .bl true) fun _ _ _ => False)
    (cxk : ∀ H e s2, CX [] H s₁ (fun _ _ _ => False) e s2 → False) :
    codeAny (model P w) callerA (.call (.ref fa) ⟨[.ref a], []⟩) (fun r s2 => r = .ok (.ret (.bool true)) ∧ OldK s₁.heap s2.heap ∧ s2.os = s₁.os ∧ AllBare s2.gens) s₁ := by
  have rvs := vals_ints hin
  have lnV := hin.length
  -- from an abstract heap in which nothing but the script may be tracked
  have core1 : ∀ H : Hp, Only H → SqL K H a (ns.map V.int) → HOk P w H s₁.heap → (∀ b, H b ≠ none → b = a) → (H a ≠ none → K.lookup a = none) →
      codeAny (model P w) callerA (.call (.ref fa) ⟨[.ref a], []⟩) (fun r s2 => r = .ok (.ret (.bool true)) ∧ OldK s₁.heap s2.heap ∧ s2.os = s₁.os ∧ AllBare s2.gens) s₁ := by
    intro H oH sH okh onA offK
    have bsf : ∀ {b : Addr} {o : Obj}, s₁.heap.get? b = some o → H b = none → (hidT s₁.heap H).get? b = some o := fun e n => hidT_get e n
    have nA : ∀ {b : Addr} {o : Obj} {es : Array DictEntry} {ep : Nat}, s₁.heap.get? b = some o → o.data = .dict es ep → H b = none := fun {b o es ep} e d => by
      cases q : H b with
      | none => rfl
      | some u =>
        have e' : b = a := onA b (by rw [q]; simp)
        subst e'
        rw [had] at e; cases e
        have d' : Data.seq vs.toArray _ = Data.dict es ep := d
        cases d'
    have nsk : ∀ {b : Addr} {m : Str → Option Value}, s₁.heap.Ns b m → (hidT s₁.heap H).Ns b m := fun {b m} ⟨o, es, ep, e, d, r⟩ => ⟨o, es, ep, bsf e (nA e d), d, r⟩
    have kb : K.In (hidT s₁.heap H) := fun b o e => bsf (KI b o e) (by
      cases q : H b with
      | none => rfl
      | some u =>
        have e' : b = a := onA b (by rw [q]; simp)
        subst e'
        rw [offK (by rw [q]; simp)] at e; cases e)
    have md : Mod K mg (hidT s₁.heap H) := ⟨kb, nsk nsg, ⟨mb, nsk bns, bbn⟩, let ⟨mc, h1, h2⟩ := nlm; ⟨mc, nsk h1, h2⟩⟩
    have en0 : Env0 P w K mg (hidT s₁.heap H) callerA [] s₁ H := ⟨rfl, md, fun b o e => of_hidT e, Nat.le_of_eq (hidT_size _ _), trivial, fun b bns => absurd (show b ∈ ([] : List Addr) from bns) (by simp), okh, .of_eq gns⟩
    refine codeAny_mono ((F _ kb (nsk nsg)).run callerA [] s₁ H ⟨[.ref a], []⟩ [.ref a] [.ref a] _ _ rfl rm en0 (bnd s₁ (.ref a)) (.cons rfl .nil) (spk H oH sH)) fun r s2 h => ?_
    cases r with
    | error e => exact (cxk H e s2 h).elim
    | ok fl =>
      cases fl with
      | next => exact False.elim h
      | brk => exact False.elim h
      | cont => exact False.elim h
      | ret u =>
        obtain ⟨v, G2, osx, brx, unx, ok2, r', q⟩ := h
        have q2 : v = .bl true := q
        subst q2
        obtain rfl : u = Value.bool true := r'
        refine ⟨rfl, OldK.of_keep fun b o e => ?_, osx, brx⟩
        cases q : H b with
        | none => exact unx.keep b o e q (by intro z; exact absurd (show b ∈ ([] : List Addr) from z) (by simp)) (by simp)
        | some u =>
          rcases oH b with z | ⟨obx, xs, z⟩
          · rw [q] at z; cases z
          · have zz2 := unx.frzs b obx _ z
            obtain ⟨ee1, _⟩ := okh b _ z
            obtain ⟨ee2, _⟩ := ok2 b _ zz2
            rw [e] at ee1; cases ee1
            exact ee2
  cases hk : K.lookup a with
  | some o =>
    -- the script is one of the module's own objects
    have e := KI a o hk
    rw [had] at e
    cases e
    refine core1 (fun _ => none) (fun _ => .inl rfl) (.inr ⟨_, vs.toArray, _, hk, rfl, rfl, rfl, by rw [List.size_toArray, lnV]; exact hle, by simpa using rvs⟩) (fun b u z => by have z' : (none : Option HO) = some u := z; cases z') (fun b z => absurd rfl z) fun z => absurd rfl z
  | none =>
    refine core1 (fun b => if b = a then some (.frz { cls := .type "list", data := .seq vs.toArray } (.lst (ns.map V.int))) else none) (fun b => ?_) (.inl (.inr ⟨{ cls := .type "list", data := .seq vs.toArray }, if_pos rfl⟩)) (fun b u z => ?_) (fun b z => ?_) fun _ => hk
    · by_cases bns : b = a
      · exact .inr ⟨_, _, if_pos bns⟩
      · exact .inl (if_neg bns)
    · by_cases bns : b = a
      · have z' := (if_pos bns).symm.trans z
        cases z'
        subst bns
        exact ⟨had, by rw [List.length_map]; exact hle, vs, _, rvs, had⟩
      · have z' := (if_neg bns).symm.trans z
        cases z'
    · by_cases bns : b = a
      · exact bns
      · exact absurd (if_neg bns) z
theorem walk_ofG {l : PySem.W.OpenLaw} {n k : Nat} {q : Program} {loose : List Str} {XP : (Str → Option Value) → Heap → Prop} {YP : World → Heap → Prop} {d : DefRec} {K : Params → PySem.W.Frag} {CX : World → CXT} {sp : World → Sp} {x : Str}
    (hmo : l.most = some n) (hn3 : n ≤ sizeLine) (dfn : d.params.defaults = []) (rm : Room k callerA)
    (yk : ∀ (w : World) (h : Heap), YP w h → (K w.params).In h)
    (F : ∀ (w : World) (mg : Str → Option Value) (fa : Addr) (h : Heap), (K w.params).In h → h.Ns mainGlobals mg → mg d.name = some (.ref fa) →
      ∃ fd : FuncData, (∀ (s : Shared) (u : Value), BindsTo s fd ⟨[u], []⟩ [(x, u)]) ∧
        ∀ base : Heap, (K w.params).In base → base.Ns mainGlobals mg → OkG l.prog w (K w.params) mg base (CX w) k fa fd [x] (sp w))
    (spk : ∀ (w : World) (H : Hp) (a : Addr) (ns : List Int), ns.length ≤ n → Only H → SqL (K w.params) H a (ns.map V.int) → sp w [.ref a] H (fun v _ => v = .bl true) fun _ _ _ => False)
    (cxk : ∀ (w : World) (H : Hp) (s : Shared) (e : Value) (s2 : Shared), CX w [] H s (fun _ _ _ => False) e s2 → False) :
    PySem.W.WalkO q loose XP YP l.row.toRowW d [] (fun f vs => PySem.call f vs) := by
  refine Att.attach_call hmo dfn fun w s₀ s₁ mg mb fa o pmx cd dcx a vs ns G Y ho hdx hcx hmx obj1 int1 len1 gns => ?_
  have KI := yk w _ Y
  obtain ⟨fd, bns, hF⟩ := F w mg fa _ KI G.T.g hmx
  exact law_callG KI G.T.g G.T.b G.T.builtins G.T.nolimit gns obj1 int1 (Nat.le_trans len1 hn3) rm hF bns (fun H oH sH => spk w H a ns len1 oH sH) fun H e s2 => cxk w H s₁ e s2
end My

set_option Elab.async false
set_option linter.all false
set_option maxRecDepth 100000
set_option maxHeartbeats 4000000
/-! set(l) of a list of ints -/
namespace My
open PySem PySem.Spec PyProof.Rows L2
section
variable {P : Program} {w : World} {A : Around} {E : Value → Shared → Prop} {s : Shared}
set_option maxHeartbeats 3200000 in
theorem call_set_lstI {l : Addr} {its : Array Value} (ns : List Int) {Q : Value → Shared → Prop} (hh : A.handled = none) (il : s.heap.IsList l its) (iv : IntsAre its.toList ns) (hb : ns.length + 1 < scanBound)
    (h : ∀ (h' : Heap) (tk1 c : Nat), SetR w h' s.heap.objs.size (fun j => decide (j ∈ ns)) c → c ≤ ns.length → (∀ b o, s.heap.get? b = some o → h'.get? b = some o) → Q (.ref s.heap.objs.size) { s with heap := h', toks := tk1 }) :
    wpAny (model P w) A (call (.type "set") [.ref l]) Q E s := by
  have zs : its.size = ns.length := by
    have q := IntsAre.length iv
    rw [Array.length_toList] at q
    exact q
  obtain ⟨c, tl, mr⟩ := F.called_set.mro
  have md := F.called_set.made
  have sb := F.called_set.sub
  refine wpAny_call (codeAny_of_tree ?_)
  show wpAny _ _ (callAny (.type "set") _) _ _ _
  refine wpAny_pure ⟨Code.quiet_builtin _ (by decide +kernel), codeAny_builtin F.entry_type_call ?_⟩
  rw [Around.under_plain (weight_type_call_type "set" [.ref l] []) rfl]
  have t1 := F.called_set.notType
  have t2 := F.called_set.canCreate
  have ct1 := F.typeCall_set_1 (.ref l)
  repeat (any_goals (first | assumption | wp_step))

  refine codeAny_mono (code_set_led1 (.ref l) (E := E) (Q₁ := fun ob1 s₁ => ob1 = .ref s.heap.objs.size ∧ s₁ = { s with heap := s.heap.push { cls := .type "set", dict := none, data := .set #[] 0 (.fresh 0 0 (!w.params.followText "set-order")) } }) ⟨rfl, rfl⟩) fun r s₁ rr1 => ?_
  cases r with
  | error e => exact rr1
  | ok fl =>
    cases fl with
    | ret ob1 =>
      obtain ⟨rfl, rfl⟩ := rr1
      have oS : (s.heap.push { cls := .type "set", dict := none, data := .set #[] 0 (.fresh 0 0 (!w.params.followText "set-order")) }).get? s.heap.objs.size = some { cls := .type "set", dict := none, data := .set #[] 0 (.fresh 0 0 (!w.params.followText "set-order")) } := Heap.get?_push_size _ rfl
      have tS : Shared.TypeIs { s with heap := s.heap.push { cls := .type "set", dict := none, data := .set #[] 0 (.fresh 0 0 (!w.params.followText "set-order")) } } (.ref s.heap.objs.size) "set" := ⟨_, oS, rfl⟩
      have lk := F.called_set.init.lookup
      have bd := F.called_set.init.bind (.ref s.heap.objs.size)
      repeat (any_goals (first | assumption | wp_step))

      refine codeAny_mono (codeAny_call_builtin (R := wants (fun r s₂ => r = .none ∧ ∃ h' tk1 c, s₂ = { s with heap := h', toks := tk1 } ∧ SetR w h' s.heap.objs.size (fun j => decide (j ∈ ns)) c ∧ c ≤ ns.length ∧
          (∀ b o, s.heap.get? b = some o → h'.get? b = some o)) E) F.called_set.init.plain F.entry_set_init (check_set_init_1 tS ?_)) fun r₂ s₂ rr1₂ => ?_
      · obtain ⟨ob, ho, cl1, nn, dl1⟩ := il
        obtain ⟨oc1, od1, oda, osl⟩ := ob
        simp only at cl1 dl1
        subst cl1; subst dl1
        have ho2 : (s.heap.push { cls := .type "set", dict := none, data := .set #[] 0 (.fresh 0 0 (!w.params.followText "set-order")) }).get? l = some { cls := .type "list", dict := od1, data := .seq its nn, slots := osl } := Heap.get?_push_of_some _ ho
        have s1s := F.sub_list_set
        have s2s := F.sub_list_frozenset
        have nd1 : (Value.type "list" == Value.type "dict") = false := by decide
        have il1 : (s.heap.push { cls := .type "set", dict := none, data := .set #[] 0 (.fresh 0 0 (!w.params.followText "set-order")) }).IsList l its := ⟨_, ho2, rfl, nn, rfl⟩
        unfold Builtin.«set.__init__» noKeywords Builtin.Frozenset.updateFrom
        generalize hPI : pyIter = PI
        wp_walk
        subst hPI

        refine wpAny_pyIter_list il1 ?_
        refine wpAny_bind (wpAny_runValue ?_)
        have lS : l < s.heap.objs.size := Heap.lt_size ho
        have hh4 : A.in1.in1.in1.handled = none := by simp [hh]
        have zz1 : (s.heap.push { cls := .type "set", dict := none, data := .set #[] 0 (.fresh 0 0 (!w.params.followText "set-order")) }).objs.size = s.heap.objs.size + 1 := Heap.size_push ..
        have nI : l ≠ (s.heap.push { cls := .type "set", dict := none, data := .set #[] 0 (.fresh 0 0 (!w.params.followText "set-order")) }).objs.size := by
          rw [Heap.size_push]; exact Nat.ne_of_lt (Nat.lt_succ_of_lt lS)
        have fS : s.heap.objs.size ∉ [(s.heap.push { cls := .type "set", dict := none, data := .set #[] 0 (.fresh 0 0 (!w.params.followText "set-order")) }).objs.size, l] := by
          rw [Heap.size_push]; simp only [List.mem_cons, List.mem_singleton, List.not_mem_nil, or_false, not_or]
          exact ⟨Nat.ne_of_lt (Nat.lt_succ_self _), Nat.ne_of_gt lS⟩
        have vl : ∀ (i : Nat) (v : Value), its[i]? = some v → ∃ k t, ns[i]? = some k ∧ v = .int k t := fun i v hv => by
          have hi : i < ns.length := by rw [← zs]; exact (Array.getElem?_eq_some_iff.mp hv).1
          obtain ⟨t, e⟩ := PyProof.Rows.IntsAre.int_at iv i v (by rw [Array.getElem?_toList]; exact hv)
          refine ⟨ns[i], t, List.getElem?_eq_getElem hi, ?_⟩
          rw [e, List.getD_eq_getElem?_getD, List.getElem?_eq_getElem hi] <;> rfl
        refine set_update_ints ((Walks.list hh4 _ l nI its).toS) s.heap.objs.size
          fS ns zs hb vl (its.size - 0) 0 _ (by omega) (Nat.zero_le _)
          ⟨⟨_, Heap.get?_push_size _ rfl, rfl, rfl⟩, (il1.push _)⟩ ?st0 ?fin
        case st0 =>
          have gt1 : ((s.heap.push { cls := .type "set", dict := none, data := .set #[] 0 (.fresh 0 0 (!w.params.followText "set-order")) }).push { cls := .type "list_iterator", data := .fields #[.ref l, .int 0 0] }).get? s.heap.objs.size
              = some { cls := .type "set", dict := none, data := .set #[] 0 (.fresh 0 0 (!w.params.followText "set-order")) } := Heap.get?_push_of_some _ oS
          exact ⟨0, Nat.le_refl 0, setR_new_at gt1⟩
        case fin =>
          intro s' c' mv hc' hS'
          obtain ⟨h', g2, d', tk', os'⟩ := s'
          have eg : g2 = s.gens := mv.gens
          have ed : d' = s.drawn := mv.drawn
          have eo : os' = s.os := mv.os
          subst eg; subst ed; subst eo
          show wpAny _ _ _ _ _ _
          refine wpAny_pure ?_
          show wpAny _ _ (ret Value.none) _ _ _
          rw [zs] at hc'
          refine wpAny_pure ⟨rfl, h', tk', c', rfl, hS', hc', fun b o e => ?_⟩
          have b00 : b < s.heap.objs.size := Heap.lt_size e
          have b01 : b ≠ s.heap.objs.size := Nat.ne_of_lt b00
          have b02 : b ≠ (s.heap.push { cls := .type "set", dict := none, data := .set #[] 0 (.fresh 0 0 (!w.params.followText "set-order")) }).objs.size := by
            rw [Heap.size_push]; exact Nat.ne_of_lt (Nat.lt_succ_of_lt b00)
          exact mv.heap b o (by simp only [List.mem_cons, List.mem_singleton, List.not_mem_nil, or_false, not_or]; exact ⟨b01, b02⟩) (Heap.get?_push_of_some _ (Heap.get?_push_of_some _ e))

      · cases r₂ with
        | error e => exact rr1₂
        | ok fl₂ =>
          cases fl₂ with
          | ret r =>
            obtain ⟨rfl, h', tk1, c', rfl, hS', hc', kk1⟩ := rr1₂
            repeat (any_goals (first | assumption | wp_step))
            exact h _ _ _ hS' hc' kk1
          | _ => exact rr1₂.elim
    | _ => exact rr1.elim

end
end My

set_option Elab.async false
set_option linter.all false
set_option maxRecDepth 100000
set_option maxHeartbeats 4000000
namespace My
open PySem PySem.Spec PyProof.Rows L2
/-- set(l), l a list of ints: the members by a list l2 without repeats -/
def rSetL (K : PySem.W.Frag) (w : World) : List V → Hp → VK → Prop := fun xs H Q => ∃ (a : Addr) (ns : List Int), xs = [.ref a] ∧ SqL K H a (ns.map V.int) ∧ ns.length ≤ 1000 ∧
  ∀ (p : Addr) (ks : List Int), H p = none → ks.Nodup → (∀ k, k ∈ ks ↔ k ∈ ns) → Q (.ref p) (upd H p (SetO w p (fun j => decide (j ∈ ns)) ks.length))
theorem cr_setL {X : Cx} (hc : X.calm = true) : CallR X (.type "set") (rSetL X.K X.w) := by
  intro pins s σ H xs us Q I r h
  obtain ⟨a, ns, rfl, hq, hl, q⟩ := h
  obtain rfl := Vals.ref1 r
  obtain ⟨its, rv, pl, hz⟩ := I.list hq
  refine call_set_lstI ns (I.ok.hd hc) pl.isList (by simpa using intsAre_of rv) (by unfold scanBound; omega) fun g tk c R hcl hk => ?_
  obtain ⟨o, es, ep, t, z1, z2, z3, z4, z5, z6, z7, z8, z9, z10⟩ := id R
  have ec : (es.toList.map keyOf).length = c := by rw [List.length_map, Array.length_toList]; exact z9
  have np : H s.heap.objs.size = none := I.hok.fresh (Nat.le_refl _)
  refine ⟨.ref _, upd H s.heap.objs.size (SetO X.w s.heap.objs.size (fun j => decide (j ∈ ns)) c), I.laid (t' := tk) hk (Nat.le_refl _) (setO_new R), rfl, ?_⟩
  rw [← ec]
  exact q _ (es.toList.map keyOf) np z5 fun k => by rw [← z6 k]; simp
/-- len(s), s a set -/
def rLenSet (w : World) : List V → Hp → VK → Prop := fun xs H Q => ∃ (a : Addr) (S : Int → Bool) (n : Nat), xs = [.ref a] ∧ H a = some (SetO w a S n) ∧ n < 4000 ∧ Q (.int n) H
theorem cr_lenSet {X : Cx} : CallR X (.builtin "len") (rLenSet X.w) := by
  intro pins s σ H xs us Q I r h
  obtain ⟨a, S, n, rfl, ha, hn, q⟩ := h
  obtain rfl := Vals.ref1 r
  obtain ⟨o, es, ep, t, ho, hex, hd, _, _, _, _, hf, hnn, _⟩ := setO_get I ha
  exact call_len_set ho hex hd hf (by rw [hnn] <;> omega) ⟨.int n, H, I.tok _, ⟨_, by rw [hnn]⟩, q⟩
end My

set_option Elab.async false
set_option linter.all false
set_option maxRecDepth 100000
set_option maxHeartbeats 4000000
/-! enumerate(t) of a tuple -/
namespace My
open PySem PySem.Spec PyProof.Rows L2
theorem meets_enum_one {v : Value} {o : Obj} {B : Heap → Prop} (hB : Begins v o B) :
    Meets (Builtin.«enumerate.__new__» ⟨[.type "enumerate", v], []⟩) (fun _ R s => B s.heap ∧
      R (.ok (.ret (.ref (s.heap.push o).objs.size))) { s with heap := (s.heap.push o).push { cls := .type "enumerate", data := .fields #[.none, .bool false, .ref s.heap.objs.size, rawInt 0, .none, .none] } }) :=
  .of_wp fun prog w A R s h => by
    obtain ⟨g0, g1, g2, tk, g3⟩ := s
    obtain ⟨b, h⟩ := h
    have hsub := sub_enumerate
    have its : ∀ {A1 : Around} {E : Value → Shared → Prop} {Q : Value → Shared → Prop}, Q (.ref g0.objs.size) ⟨g0.push o, g1, g2, tk, g3⟩ → wpAny (model prog w) A1 (pyIter v) Q E ⟨g0, g1, g2, tk, g3⟩ :=
      fun q => hB.iter prog w _ _ ⟨g0, g1, g2, tk, g3⟩ _ b q
    wp_walk using its
    refine wpAny_stack_any fun st => wpAny_pure ?_
    split
    · rename_i c _ _ _ _ _
      cases (c == Value.type "enumerate") <;> (wp_walk using its; exact ⟨_, rfl, h⟩)
    · wp_walk using its
      exact ⟨_, rfl, h⟩
theorem enum_one {prog : Program} {w : World} {A : Around} {E : Value → Shared → Prop} {s : Shared} {v : Value} {o : Obj} {B : Heap → Prop} {Q : Value → Shared → Prop} (hB : Begins v o B) (b : B s.heap)
    (h : ∀ g, IsEnum g (s.heap.objs.size + 1) s.heap.objs.size 0 .none → g.get? s.heap.objs.size = some o → (∀ c u, s.heap.get? c = some u → g.get? c = some u) → Q (.ref (s.heap.objs.size + 1)) { s with heap := g }) :
    wpAny (model prog w) A (call (.type "enumerate") [v]) Q E s := by
  refine callType_new F.called_enumerate (by decide) (F.typeCall_enumerate_1 _) (F.newCall_enumerate_1 _) (fun obj => F.args_object_init_2 obj _) F.entry_enumerate_new (meets_enum_one hB) ⟨b, ?_⟩
  have z : (s.heap.push o).objs.size = s.heap.objs.size + 1 := Heap.size_push ..
  show _ ∧ _
  rw [z]
  have e : IsEnum ((s.heap.push o).push { cls := .type "enumerate", data := .fields #[.none, .bool false, .ref s.heap.objs.size, rawInt 0, .none, .none] }) (s.heap.objs.size + 1) s.heap.objs.size 0 .none := by
    have q := Heap.get?_push_size (s.heap.push o) (o := { cls := .type "enumerate", data := .fields #[.none, .bool false, .ref s.heap.objs.size, rawInt 0, .none, .none] }) rfl
    rw [z] at q
    exact q
  exact ⟨⟨_, e, rfl⟩, h _ e (Heap.get?_push_of_some _ (Heap.get?_push_size _ hB.free)) fun c u x => Heap.get?_push_of_some _ (Heap.get?_push_of_some _ x)⟩
theorem enum_end_tup {prog : Program} {w : World} {A : Around} {E : Value → Shared → Prop} {s : Shared} {e it a : Addr} {i : Nat} {k : Int} {items : Array Value} {old : Value} {Q : Option Value → Shared → Prop} (hh : A.handled = none)
    (he : IsEnum s.heap e it k old) (hit : s.heap.IsTupleIter it a i) (ht : s.heap.IsTuple a items) (hx : items[i]? = none) (q : ∀ g, Heap.ExtBut it s.heap g → Q none { s with heap := g }) : wpAny (model prog w) A (pyNext (.ref e)) Q E s := by
  have ty : s.TypeIs (.ref e) "enumerate" := ⟨_, he, rfl⟩
  unfold pyNext
  refine wpAny_bind (wpAny_attempt (wpAny_callSpecial?_slot (name := Str.ofString "__next__") ty F.slot_enumerate_next (wpAny_call_entry F.slot_enumerate_next ty F.entry_enumerate_next ?_ (F.args_enumerate_next_1 _))))
  show wpAny _ _ (field (.ref e) 2 >>= _) _ _ _
  refine wpAny_bind (wpAny_field he rfl (x := .ref it) rfl ?_)
  refine wpAny_bind (wpAny_nextOf_tuple_end (by simpa using hh) hit ht hx fun g x eb hs => ?_)
  obtain ⟨o, ho, hc⟩ := hs
  refine wpAny_bind (wpAny_isInstance (T := "StopIteration") (b := true) ⟨o, ho, hc⟩ isSubtype_stop ?_)
  exact wpAny_pure (q _ eb)
/-- the tuple at a as it stands at each turn, each item in a new pair -/
def IteT (K : PySem.W.Frag) (a : Addr) : It :=
  ⟨fun i H => ∃ (xs : List V) (x : V), SqT K H a xs ∧ xs[i]? = some x, fun i H v H' => ∃ T x, v = .ref T ∧ H T = none ∧ H' = upd H T (.tup [.int (i : Nat), x]) ∧ ∀ xs, SqT K H a xs → xs[i]? = some x, fun i H => ∃ xs : List V, SqT K H a xs ∧ xs.length ≤ i⟩
theorem turn_enumT {P : Program} {w : World} {K : PySem.W.Frag} {elts : List Expr} {kk : Nat} {tpos : Pos} (a e it : Addr) :
    Turn P w K (.Tuple elts kk tpos) (IteT K a) [e, it] e (fun i h => (∃ old, IsEnum h e it ((i : Nat) : Int) old) ∧ h.IsTupleIter it a i ∧ e ≠ it ∧ a ≠ it ∧ a ≠ e) where
  mem := by simp
  obj := fun i h st b hb => by
    obtain ⟨⟨old, he⟩, ⟨o, ho, hc, hd⟩, _⟩ := st
    rcases (show b = e ∨ b = it by simpa using hb) with z | z
    · subst z
      exact ⟨_, he, fun v q => nomatch q⟩
    · subst z
      exact ⟨o, ho, fun v q => by rw [hd] at q; cases q⟩
  keep := fun i h h' st k => by
    obtain ⟨⟨old, he⟩, hi, n1, n2⟩ := st
    exact ⟨⟨old, k e (by simp) _ he⟩, hi.at fun o q => k it (by simp) o q, n1, n2⟩
  item := by
    intro X hP hw hK hc i pins s σ H E I hf st hg
    subst hP hw hK
    obtain ⟨⟨old, he⟩, hit, n1, n2, n3⟩ := st
    obtain ⟨xs, x, hq, hx⟩ := hg
    obtain ⟨its, rv, p, hz⟩ := I.tuple hq
    obtain ⟨u, hu, ru⟩ := rv.get hx
    have hel : e < s.heap.objs.size := Heap.lt_size he
    have hil : it < s.heap.objs.size := by
      obtain ⟨_, q, _⟩ := hit
      exact Heap.lt_size q
    have hh : X.A.in1.handled = none := by
      have := I.ok.hd hc
      simpa using this
    refine wpAny_pyNext_enum_itemD (Draws.tuple hh it a n2 its.toArray) he ⟨hit, p⟩ (by have := (List.getElem?_eq_some_iff.mp hu).1; simpa using this) n1 (by simp [n1, n3.symm]) fun y g tk hy ho st' hT hsz hk => ?_
    have ey : y = u := by
      have hy' : its.toArray[i]? = some y := hy
      rw [List.getElem?_toArray, hu] at hy'
      exact (Option.some.inj hy').symm
    subst ey
    refine ⟨_, rfl, wpAny_letOwnedTupleGo_enum (s := { s with heap := g, toks := tk + 1 }) ho fun g2 he' sb => ?_⟩
    have hT2 : g2.get? s.heap.objs.size = some { cls := .type "tuple", data := .seq #[.int i tk, y] } := (sb.2 _ (Nat.ne_of_gt hel)).trans hT
    have new : ObjOk X.prog X.w (upd H s.heap.objs.size (.tup [.int (i : Nat), x])) g2 s.heap.objs.size (.tup [.int (i : Nat), x]) :=
      ⟨by show 2 ≤ sizeLine; decide, [.int i tk, y], .cons ⟨_, rfl⟩ (.cons ru .nil), ⟨_, hT2, rfl, _, rfl⟩⟩
    have I1 : Inv X pins σ (upd H s.heap.objs.size (.tup [.int (i : Nat), x])) { s with heap := g2, toks := tk + 1 } :=
      I.turnedNew (ch := [e, it]) (fun b ob hb q => (sb.2 b (fun z => hb (by simp [z]))).trans (hk b ob (fun z => hb (by simp [z])) (fun z => hb (by simp [z])) q)) hf (Nat.le_refl _) new
    refine ⟨.ref s.heap.objs.size, _, I1, rfl, ⟨_, x, rfl, I.hok.fresh (Nat.le_refl _), rfl, fun ys hy => ?_⟩, ⟨⟨y, ?_⟩, st'.1.at fun o q => (sb.2 it (Ne.symm n1)).trans q, n1, n2, n3⟩, fun b hb => ?_⟩
    · rw [I.tuple_inj hy hq]
      exact hx
    · have e1 : ((i + 1 : Nat) : Int) = (i : Int) + 1 := by omega
      rw [e1]
      exact he'
    · have hb' : b < s.heap.objs.size := by
        rcases (show b = e ∨ b = it by simpa using hb) with z | z
        · rw [z]
          exact hel
        · rw [z]
          exact hil
      rw [upd_ne (Nat.ne_of_lt hb')]
      exact (hf b hb).1
  done := by
    intro X hP hw hK hc i pins s σ H E I hf st hg
    subst hP hw hK
    obtain ⟨⟨old, he⟩, hit, n1, n2, n3⟩ := st
    obtain ⟨xs, hq, hx⟩ := hg
    obtain ⟨its, rv, p, hz⟩ := I.tuple hq
    obtain ⟨f0, f1, f2, f3, f4, f5⟩ := hf it (by simp)
    have hl := rv.length
    exact enum_end_tup (I.ok.hd hc) he hit p (by simp; omega) fun g eb => ⟨rfl, I.turned (t' := s.toks) (fun b o hb q => eb b o hb q) f0 f1 f3 f4 f5⟩
  self := fun A i s Q E st h => by
    obtain ⟨⟨_, he⟩, _⟩ := st
    exact wpAny_pyIter_enum he h
def iEnumT (K : PySem.W.Frag) (ta : TA) : TI := fun σ H R => ta σ H fun vs H1 => ∃ a xs, vs = [.ref a] ∧ SqT K H1 a xs ∧ R (IteT K a) H1
theorem pi_enumT {X : Cx} {e : Expr} {ta : TA} {p pos tpos : Pos} {elts : List Expr} {kk : Nat} (hg : Gl X "enumerate") (hm : X.mg "enumerate" = none) (ha : PA X [e] ta) (hs : starEach [e] X.env = [(false, eval e X.env)] := by rfl) :
    PI X (.Tuple elts kk tpos) (.Call (.Name "enumerate" p) [e] [] pos) (iEnumT X.K ta) := by
  refine ⟨fun pins s σ H R I h => Call_ (ld_blt I hg hm boot_enumerate (PyProof.Rows.callWith_type1 (thn (ha.run pos pins s σ H _ I h) fun us s1 ⟨vs, H1, I1, r1, q1⟩ => ?_) hs rfl))⟩
  obtain ⟨a, xs, ex, hq, q⟩ := q1
  subst ex
  cases r1 with
  | cons r rr =>
    cases rr
    cases r
    obtain ⟨its, rv, pt, hz⟩ := I1.tuple hq
    refine enum_one (begins_tuple a its.toArray) pt fun g he hit hk => wpAny_pyIter_enum he ?_
    have hal : a < s1.heap.objs.size := pt.lt
    have I2 : Inv X pins σ H1 { s1 with heap := g } := I1.kept (t' := s1.toks) hk
    refine ⟨s1.heap.objs.size + 1, [s1.heap.objs.size + 1, s1.heap.objs.size], _, _, H1, rfl, I2, turn_enumT a (s1.heap.objs.size + 1) s1.heap.objs.size, ⟨⟨.none, he⟩, ⟨_, hit, rfl, rfl⟩, Nat.succ_ne_self _, Nat.ne_of_lt hal, Nat.ne_of_lt (Nat.lt_succ_of_lt hal)⟩, fun b hb => ?_, q⟩
    have hle : s1.heap.objs.size ≤ b := by
      rcases (show b = s1.heap.objs.size + 1 ∨ b = s1.heap.objs.size by simpa using hb) with z | z
      · rw [z]
        exact Nat.le_succ _
      · exact Nat.le_of_eq z.symm
    exact I1.fpOk hle (I1.hok.fresh hle)
/-- for i, x in enumerate(t): by an invariant -/
theorem for_enumT {K : PySem.W.Frag} {a : Addr} {xs : List V} {g : TG} {tb : TS} {D : Ends} {σ : L2.St} {H : Hp} (Pv : Nat → L2.St → Hp → Prop) (h0 : Pv 0 σ H) (hl : ∀ i σ H, i ≤ xs.length → Pv i σ H → SqT K H a xs)
    (hs : ∀ i x T σ H, xs[i]? = some x → Pv i σ H → H T = none → g (.ref T) σ (upd H T (.tup [.int (i : Nat), x])) fun σ2 H2 => tb { D with nx := Pv (i + 1), ct := Pv (i + 1), bk := D.nx } σ2 H2) (hd : ∀ σ H, Pv xs.length σ H → D.nx σ H) :
    ∃ W : Nat → Nat → L2.St → Hp → Prop, (∃ m, W 0 m σ H) ∧ ∀ i m σ H, W i m σ H →
      ((IteT K a).stop i H ∧ D.nx σ H) ∨ ((IteT K a).go i H ∧ ∃ N : L2.St → Hp → Prop, (∀ σ' H', N σ' H' → ∃ m', m' < m ∧ W (i + 1) m' σ' H') ∧ ∀ x H', (IteT K a).yld i H x H' → g x σ H' fun σ2 H2 => tb { D with nx := N, ct := N, bk := D.nx } σ2 H2) := by
  refine ⟨fun i m σ H => m = xs.length - i ∧ i ≤ xs.length ∧ Pv i σ H, ⟨xs.length, by simp, Nat.zero_le _, h0⟩, ?_⟩
  rintro i m σ H ⟨rfl, hi, p⟩
  have q := hl i σ H hi p
  by_cases c : i < xs.length
  · refine .inr ⟨⟨xs, xs[i], q, by simp [c]⟩, Pv (i + 1), fun σ' H' p' => ⟨xs.length - (i + 1), by omega, rfl, c, p'⟩, fun v H' y => ?_⟩
    obtain ⟨T, x, rfl, hT, rfl, hx⟩ := y
    exact hs i x T σ H (hx xs q) p hT
  · have e : i = xs.length := by omega
    subst e
    exact .inl ⟨⟨xs, q, Nat.le_refl _⟩, hd σ H p⟩
end My

set_option Elab.async false
set_option linter.all false
set_option maxRecDepth 100000
set_option maxHeartbeats 4000000
/-! SortT: sorted(t) of a tuple of ints; sorted(l) of a list of data -/
namespace SrtO
open PySem PyProof.Rows Srt
section
variable {prog : Program} {w : World} {A : Around} {E : Value → Shared → Prop} {s : Shared}
theorem col_tup {b : Addr} {us : List Value} {Q : List Value → Shared → Prop} (ht : s.heap.IsTuple b us.toArray) (hz : us.length ≤ sizeLine)
    (hq : Q us { s with heap := (s.heap.push (seqObj "list" #[] 0)).update s.heap.objs.size (Obj.mapSeq (· ++ us.toArray)) }) : wpAny (model prog w) A (collect (.ref b)) Q E s := by
  obtain ⟨ob, h1, h2, k, h3⟩ := id ht
  have g1 : (s.heap.push (seqObj "list" #[] 0)).get? b = some ob := Heap.get?_push_of_some _ h1
  unfold collect
  refine wpAny_bind (wpAny_runValue (codeAny_builtin entry_proto_collect' ?_))
  show wpAny _ _ (do again (.builtin "list.__iadd__" ⟨[← newList [], .ref b], []⟩)) _ _ s
  refine wpAny_bind (wpAny_newList (wpAny_pure ⟨Code.quiet_builtin _ (by decide +kernel), codeAny_builtin entry_list_iadd' ?_⟩))
  show wpAny _ _ (Builtin.List.listExtendWith (.ref s.heap.objs.size) (.ref b) (.ref s.heap.objs.size)) _ _ { s with heap := s.heap.push (seqObj "list" #[] 0) }
  unfold Builtin.List.listExtendWith
  refine wpAny_bind (wpAny_typeOf (T := "tuple") ⟨ob, g1, h2⟩ ?_)
  have tt : (Value.type "tuple" == Value.type "tuple") = true := by rfl
  rw [if_pos (by rw [tt]; simp)]
  refine wpAny_bind (listItems_at g1 h3 ?_)
  refine wpAny_bind (listItems_at (xs := #[]) (n := 0) (Heap.get?_push_size _ (by rfl)) (by rfl) ?_)
  rw [if_neg (by simp)]
  refine wpAny_bind (listUpdate_at (xs := #[]) (n := 0) (Heap.get?_push_size _ (by rfl)) (by rfl) ?_ (Nat.zero_le _) (by show (#[] ++ us.toArray).size ≤ sizeLine + 1; simp only [Array.size_append, List.size_toArray, List.length_nil]; omega))
  refine wpAny_pure ?_
  show wpAny (model prog w) A (do
      let ox ← load s.heap.objs.size
      match ox.data with
      | .seq xs _ => pure xs.toList
      | _ => unsupported "internal:collect") Q E { s with heap := (s.heap.push (seqObj "list" #[] 0)).update s.heap.objs.size (Obj.mapSeq (· ++ us.toArray)) }
  refine wpAny_bind (wpAny_load (get?_update_seq (Heap.get?_push_size _ (by rfl)) _) ?_)
  show wpAny _ _ (pure ((#[] : Array Value) ++ us.toArray).toList) Q E _
  rw [show ((#[] : Array Value) ++ us.toArray).toList = us by simp]
  exact wpAny_pure hq
theorem sorted_tup {b : Addr} {us : List Value} {ltv : Value → Value → Bool} {Q : Value → Shared → Prop} (O : Swo ltv) (ht : s.heap.IsTuple b us.toArray) (hz : us.length ≤ sizeLine)
    (hS : 2 ≤ us.length → ∀ (g : Heap) (a : Addr), g.get? a = some (seqObj "list" us.toArray 0) → (∀ c o, s.heap.get? c = some o → c ≠ a ∧ g.get? c = some o) → SortableO prog w A.in1.in1 { s with heap := g } a us ltv)
    (h : ∀ out : List Value, Srtd ltv out → Stb ltv out us → Q (.ref (s.heap.objs.size + 1)) { s with heap := sortedAll s.heap us out.toArray }) :
    wpAny (model prog w) A (call (.builtin "sorted") [.ref b]) Q E s := by
  refine Calls.call_function_entry kind_sorted plain_sorted entry_sorted (args_sorted1 _) ?_
  unfold Builtin.«sorted»
  refine wpAny_bind (m := checkCount "sorted" 1 1 _) (wpAny_pure ?_)
  refine wpAny_bind (col_tup ht hz ?_)
  refine wpAny_bind (wpAny_newList ?_ hz)
  generalize eg : (s.heap.push (seqObj "list" #[] 0)).update s.heap.objs.size (Obj.mapSeq (· ++ us.toArray)) = g1
  have sz : g1.objs.size = s.heap.objs.size + 1 := by rw [← eg, Heap.size_update, size_push']
  have at1 : (g1.push (seqObj "list" us.toArray 0)).get? (s.heap.objs.size + 1) = some (seqObj "list" us.toArray 0) := by rw [← sz]; exact Heap.get?_push_size _ rfl
  have kp : ∀ c o, s.heap.get? c = some o → c ≠ s.heap.objs.size + 1 ∧ (g1.push (seqObj "list" us.toArray 0)).get? c = some o := fun c o q => by
    have lt : c < s.heap.objs.size := Heap.lt_size q
    refine ⟨Nat.ne_of_lt (Nat.lt_succ_of_lt lt), Heap.get?_push_of_some _ ?_⟩
    rw [← eg, Heap.get?_update_ne _ _ _ _ (Nat.ne_of_lt lt)]
    exact Heap.get?_push_of_some _ q
  show wpAny _ _ _ _ _ { s with heap := g1.push (seqObj "list" us.toArray 0) }
  rw [sz]
  refine wpAny_bind (wpAny_holding (wpAny_call_entry slot_list_sort ⟨_, at1, rfl⟩ entry_list_sort (list_sort_ord O at1 hz (fun h2 => hS h2 _ _ at1 kp) fun out hs hb => ⟨_, rfl, ?_⟩) (args_list_sort _)))
  refine wpAny_pure ⟨_, rfl, ?_⟩
  have z := h out hs hb
  unfold sortedAll at z
  rw [eg] at z
  exact z
end
end SrtO
namespace My
open PySem PySem.Spec PyProof.Rows L2
def rSortedT (K : PySem.W.Frag) : List V → Hp → VK → Prop := fun vs H Q => ∃ (a : Addr) (ns : List Int), vs = [V.ref a] ∧ SqT K H a (ns.map V.int) ∧
  ∀ (ms : List Int) (p : Addr), ms.Perm ns → ms.Pairwise (· ≤ ·) → H p = none → Q (.ref p) (upd H p (.lst (ms.map V.int)))
section
variable {X : Cx}
theorem cr_sortedT : CallR X (.builtin "sorted") (rSortedT X.K) := by
  intro pins s σ H vs us Q I r h
  obtain ⟨a, ns, rfl, hs, q⟩ := h
  obtain ⟨its, rv, ht, hz⟩ := I.tuple hs
  rw [Vals.ref1 r]
  have hi := rv.ints
  refine SrtO.sorted_tup SrtO.swo_int (show s.heap.IsTuple a its.toArray from ht) (by rw [← rv.length]; exact hz) (fun h2 g a' _ _ => SrtO.ints_sortable hi h2) fun out h1 h2 => ?_
  obtain ⟨k1, k2, k3⟩ := SrtO.ints_out hi h1 h2
  obtain ⟨ep, at2⟩ := PyProof.Rows.sortedAll_at s.heap its out.toArray
  have len : ((out.map SrtO.iv).map V.int).length ≤ sizeLine := by
    rw [List.length_map] at hz ⊢
    rw [k2.length_eq]
    exact hz
  refine ⟨.ref _, upd H (s.heap.objs.size + 1) (.lst ((out.map SrtO.iv).map V.int)), ?_, rfl, q _ _ k2 k3 (I.hok.fresh (Nat.le_succ _))⟩
  exact I.laid (t' := s.toks) (fun _ _ => PyProof.Rows.sortedAll_old) (Nat.le_succ _) ⟨len, out, ep, vals_of_ints k1, at2⟩
/-! ### data -/
open PySem.W in
/-- sorted(l), l a list of values that lie as data: xs by their data ds -/
def rSortedD (K : PySem.W.Frag) : List V → Hp → VK → Prop := fun vs H Q => ∃ (a : Addr) (ps : List (V × PyData)), vs = [V.ref a] ∧ SqL K H a (ps.map (·.1)) ∧ (∀ p ∈ ps, Dp K H p.1 p.2 ∧ p.2.depth ≤ 30) ∧ AllAlike (ps.map (·.2)) ∧ Sortable (ps.map (·.2)) ∧
  ∀ p : Addr, H p = none → Q (.ref p) (upd H p (.lst ((ps.mergeSort (dataLe false (·.2))).map (·.1))))
open PySem.W in
theorem each_of {h : Heap} {X : Cx} {pins : List (Addr × Obj)} {σ : L2.St} {H : Hp} {s : Shared} (I : Inv X pins σ H s) : ∀ {ps : List (V × PyData)} {its : List Value}, Vals (ps.map (·.1)) its → (∀ p ∈ ps, Dp X.K H p.1 p.2 ∧ p.2.depth ≤ 30) →
    EachIs (fun v (p : V × PyData) => RelV p.1 v) its ps ∧ EachIs (fun v (p : V × PyData) => ∃ as, Reads s.heap v p.2 as) its ps
  | [], _, r, _ => by cases r; exact ⟨.nil, .nil⟩
  | p :: ps, _, r, hp => by
    cases r with
    | cons r1 r2 =>
      obtain ⟨e1, e2⟩ := each_of (h := h) I r2 fun q hq => hp q (List.mem_cons_of_mem _ hq)
      exact ⟨.cons r1 e1, .cons (Dp.reads I _ _ _ (hp p (by simp)).1 r1) e2⟩
open PySem.W in
theorem vals_of_each : ∀ {ps : List (V × PyData)} {out : List Value}, EachIs (fun v (p : V × PyData) => RelV p.1 v) out ps → Vals (ps.map (·.1)) out
  | _, _, .nil => .nil
  | _, _, .cons r t => .cons r (vals_of_each t)
open PySem.W in
theorem cr_sortedD (hu : X.A.units + 64 < cLine) : CallR X (.builtin "sorted") (rSortedD X.K) := by
  intro pins s σ H vs us Q I r h
  obtain ⟨a, ps, rfl, hs, hp, al, so, q⟩ := h
  obtain ⟨its, rv, hl, hz⟩ := I.list hs
  rw [Vals.ref1 r]
  obtain ⟨e1, e2⟩ := each_of (h := s.heap) I rv hp
  rw [List.length_map] at hz
  refine sorted_data (enc := fun p : V × PyData => p.2) hl.isList e1 e2 al so hz (fun b hb => ?_) fun out ol eo => ?_
  · have := (hp b hb).2
    omega
  · obtain ⟨ep, at2⟩ := PyProof.Rows.sortedAll_at s.heap its out.toArray
    have vo := vals_of_each eo
    have len : ((ps.mergeSort (dataLe false (·.2))).map (·.1)).length ≤ sizeLine := by
      rw [List.length_map, List.length_mergeSort]
      exact hz
    refine ⟨.ref _, upd H (s.heap.objs.size + 1) (.lst ((ps.mergeSort (dataLe false (·.2))).map (·.1))), ?_, rfl, q _ (I.hok.fresh (Nat.le_succ _))⟩
    exact I.laid (t' := s.toks) (fun _ _ => PyProof.Rows.sortedAll_old) (Nat.le_succ _) ⟨len, out, ep, vo, at2⟩
end
end My

set_option Elab.async false
set_option linter.all false
set_option maxRecDepth 100000
set_option maxHeartbeats 4000000
/-! FlA: data without a heap (D), how a value lies in a heap that never changes (F), objects that a slot owns, the state of a def's names -/
namespace Fl
open PySem PySem.Spec PyProof.Rows L2
inductive D where
  | non | bl (b : Bool) | int (i : Int) | str (z : Str) | ty (n : String) | adr (a : Addr)
  | tup (xs : List D) | lst (xs : List D)
  | dic (kvs : List (Key × D)) | dit (kvs : List (List Key × D)) | set (ns : List Int)
  | ins (C : Addr) (fs : List (Str × D))
/-- each once -/
def dups : List Int → List Int
  | [] => []
  | x :: r => if x ∈ r then dups r else x :: dups r
theorem mem_dups {y : Int} : ∀ {ns : List Int}, y ∈ dups ns ↔ y ∈ ns
  | [] => Iff.rfl
  | x :: r => by
    have ih := mem_dups (y := y) (ns := r)
    unfold dups
    split
    · rename_i h
      rw [ih, List.mem_cons]
      exact ⟨.inr, fun z => z.elim (fun e => e ▸ h) id⟩
    · rw [List.mem_cons, List.mem_cons, ih]
theorem nodup_dups : ∀ ns : List Int, (dups ns).Nodup
  | [] => List.nodup_nil
  | x :: r => by
    unfold dups
    split
    · exact nodup_dups r
    · rename_i h
      exact List.nodup_cons.mpr ⟨fun z => h (mem_dups.mp z), nodup_dups r⟩
theorem dups_len : ∀ ns : List Int, (dups ns).length ≤ ns.length
  | [] => Nat.le_refl _
  | x :: r => by
    have ih := dups_len r
    unfold dups
    split
    · exact Nat.le_succ_of_le ih
    · exact Nat.succ_le_succ ih
/-- the set of ints ns at a -/
def SetN (w : World) (a : Addr) (ns : List Int) : HO := SetO w a (fun j => decide (j ∈ ns)) (dups ns).length
section
variable (w : World) (F : Hp)
mutual
def Rp : D → V → Prop
  | .non, v => v = .non
  | .bl b, v => v = .bl b
  | .int i, v => v = .int i
  | .str z, v => v = .str z
  | .ty n, v => v = .ty n
  | .adr a, v => v = .ref a
  | .tup ds, v => ∃ a vs, v = .ref a ∧ F a = some (.tup vs) ∧ Rps ds vs
  | .lst ds, v => ∃ a vs, v = .ref a ∧ F a = some (.lst vs) ∧ Rps ds vs
  | .dic ks, v => ∃ a vs, v = .ref a ∧ F a = some (.dK vs) ∧ RpK ks vs
  | .dit ks, v => ∃ a vs, v = .ref a ∧ F a = some (.dT vs) ∧ RpT ks vs
  | .set ns, v => ∃ a, v = .ref a ∧ F a = some (SetN w a ns)
  | .ins C fs, v => ∃ a dx vs, v = .ref a ∧ F a = some (.ins C dx vs) ∧ F dx = some (.own a) ∧ RpF fs vs
def Rps : List D → List V → Prop
  | [], vs => vs = []
  | d :: ds, vs => ∃ v r, vs = v :: r ∧ Rp d v ∧ Rps ds r
def RpK : List (Key × D) → List (Key × V) → Prop
  | [], vs => vs = []
  | (k, d) :: ds, vs => ∃ v r, vs = (k, v) :: r ∧ Rp d v ∧ RpK ds r
def RpT : List (List Key × D) → List (List Key × V) → Prop
  | [], vs => vs = []
  | (k, d) :: ds, vs => ∃ v r, vs = (k, v) :: r ∧ Rp d v ∧ RpT ds r
def RpF : List (Str × D) → List (Str × V) → Prop
  | [], vs => vs = []
  | (k, d) :: ds, vs => ∃ v r, vs = (k, v) :: r ∧ Rp d v ∧ RpF ds r
end
end
section
variable {w : World} {F F' : Hp}
mutual
theorem Rp.mono (s : ∀ a o, F a = some o → F' a = some o) : ∀ {d : D} {v : V}, Rp w F d v → Rp w F' d v
  | .non, _, h => by unfold Rp at h ⊢; exact h
  | .bl b, _, h => by unfold Rp at h ⊢; exact h
  | .int b, _, h => by unfold Rp at h ⊢; exact h
  | .str b, _, h => by unfold Rp at h ⊢; exact h
  | .ty b, _, h => by unfold Rp at h ⊢; exact h
  | .adr b, _, h => by unfold Rp at h ⊢; exact h
  | .tup ds, _, h => by unfold Rp at h ⊢; obtain ⟨a, vs, e, h1, h2⟩ := h; exact ⟨a, vs, e, s _ _ h1, Rps.mono s h2⟩
  | .lst ds, _, h => by unfold Rp at h ⊢; obtain ⟨a, vs, e, h1, h2⟩ := h; exact ⟨a, vs, e, s _ _ h1, Rps.mono s h2⟩
  | .dic ds, _, h => by unfold Rp at h ⊢; obtain ⟨a, vs, e, h1, h2⟩ := h; exact ⟨a, vs, e, s _ _ h1, RpK.mono s h2⟩
  | .dit ds, _, h => by unfold Rp at h ⊢; obtain ⟨a, vs, e, h1, h2⟩ := h; exact ⟨a, vs, e, s _ _ h1, RpT.mono s h2⟩
  | .set ns, _, h => by unfold Rp at h ⊢; obtain ⟨a, e, h1⟩ := h; exact ⟨a, e, s _ _ h1⟩
  | .ins C fs, _, h => by unfold Rp at h ⊢; obtain ⟨a, dx, vs, e, h1, h2, h3⟩ := h; exact ⟨a, dx, vs, e, s _ _ h1, s _ _ h2, RpF.mono s h3⟩
theorem Rps.mono (s : ∀ a o, F a = some o → F' a = some o) : ∀ {ds : List D} {vs : List V}, Rps w F ds vs → Rps w F' ds vs
  | [], _, h => by unfold Rps at h ⊢; exact h
  | d :: ds, _, h => by unfold Rps at h ⊢; obtain ⟨v, r, e, h1, h2⟩ := h; exact ⟨v, r, e, Rp.mono s h1, Rps.mono s h2⟩
theorem RpK.mono (s : ∀ a o, F a = some o → F' a = some o) : ∀ {ds : List (Key × D)} {vs : List (Key × V)}, RpK w F ds vs → RpK w F' ds vs
  | [], _, h => by unfold RpK at h ⊢; exact h
  | (k, d) :: ds, _, h => by unfold RpK at h ⊢; obtain ⟨v, r, e, h1, h2⟩ := h; exact ⟨v, r, e, Rp.mono s h1, RpK.mono s h2⟩
theorem RpT.mono (s : ∀ a o, F a = some o → F' a = some o) : ∀ {ds : List (List Key × D)} {vs : List (List Key × V)}, RpT w F ds vs → RpT w F' ds vs
  | [], _, h => by unfold RpT at h ⊢; exact h
  | (k, d) :: ds, _, h => by unfold RpT at h ⊢; obtain ⟨v, r, e, h1, h2⟩ := h; exact ⟨v, r, e, Rp.mono s h1, RpT.mono s h2⟩
theorem RpF.mono (s : ∀ a o, F a = some o → F' a = some o) : ∀ {ds : List (Str × D)} {vs : List (Str × V)}, RpF w F ds vs → RpF w F' ds vs
  | [], _, h => by unfold RpF at h ⊢; exact h
  | (k, d) :: ds, _, h => by unfold RpF at h ⊢; obtain ⟨v, r, e, h1, h2⟩ := h; exact ⟨v, r, e, Rp.mono s h1, RpF.mono s h2⟩
end
end
end Fl

set_option Elab.async false
set_option linter.all false
set_option maxRecDepth 100000
set_option maxHeartbeats 4000000
/-! FlB: the state of a def's names without the heap, and its steps -/
namespace Fl
open PySem PySem.Spec PyProof.Rows L2
/-- what a name holds: nothing known, data, an object of its own, the k-th argument's object -/
inductive A where
  | un | fz (d : D) | ow (d : D) | pr (k : Nat) (d : D)
/-- what an expression gives: data, a new object, the object that the i-th name holds -/
inductive R where
  | val (d : D) | new (d : D) | loc (i : Nat) | any
inductive Lb where
  | sl (i : Nat) | tm (k : Nat)
  deriving DecidableEq
abbrev Env := List A
@[reducible] def getA : Env → Nat → A
  | [], _ => .un
  | a :: _, 0 => a
  | _ :: r, n + 1 => getA r n
theorem getA_some : ∀ {ρ : Env} {i : Nat}, getA ρ i ≠ .un → ρ[i]? = some (getA ρ i)
  | [], _, h => absurd rfl h
  | _ :: _, 0, _ => rfl
  | _ :: r, n + 1, h => by
    rw [List.getElem?_cons_succ]
    exact getA_some (ρ := r) h
@[reducible] def setA : Env → Nat → A → Env
  | [], _, _ => []
  | _ :: r, 0, x => x :: r
  | a :: r, n + 1, x => a :: setA r n x
theorem setA_eq : ∀ (ρ : Env) (i : Nat) (x : A), setA ρ i x = ρ.set i x
  | [], _, _ => rfl
  | _ :: _, 0, _ => rfl
  | a :: r, n + 1, x => by
    rw [List.set_cons_succ, ← setA_eq r n x]
/-- the names, one by one: what follows is said of a written list -/
@[reducible] def nfE : Env → (Env → Prop) → Prop
  | [], k => k []
  | a :: r, k => nfE r fun r' => k (a :: r')
theorem nfE_eq : ∀ (ρ : Env) (k : Env → Prop), nfE ρ k = k ρ
  | [], _ => rfl
  | a :: r, k => nfE_eq r fun r' => k (a :: r')
theorem nfE_of {ρ : Env} {k : Env → Prop} (h : k ρ) : nfE ρ k := by rw [nfE_eq]; exact h
theorem of_nfE {ρ : Env} {k : Env → Prop} (h : nfE ρ k) : k ρ := by rw [nfE_eq] at h; exact h
section
variable (w : World)
def Ro (F H : Hp) (own : Addr → Prop) (d : D) (v : V) : Prop := match d with
  | .lst ds => ∃ a vs, v = .ref a ∧ own a ∧ H a = some (.lst vs) ∧ Rps w F ds vs
  | .dic ks => ∃ a vs, v = .ref a ∧ own a ∧ H a = some (.dK vs) ∧ RpK w F ks vs
  | .dit ks => ∃ a vs, v = .ref a ∧ own a ∧ H a = some (.dT vs) ∧ RpT w F ks vs
  | .set ns => ∃ a, v = .ref a ∧ own a ∧ H a = some (SetN w a ns)
  | .ins C fs => ∃ a dx vs, v = .ref a ∧ own a ∧ own dx ∧ H a = some (.ins C dx vs) ∧ H dx = some (.own a) ∧ RpF w F fs vs
  | _ => False
variable {w}
theorem Ro.keep {F F' H H' : Hp} {own own' : Addr → Prop} {d : D} {v : V} (h : Ro w F H own d v) (s : ∀ a o, F a = some o → F' a = some o) (k : ∀ b, own b → own' b ∧ H' b = H b) : Ro w F' H' own' d v := by
  unfold Ro at h ⊢
  split at h
  · obtain ⟨a, vs, e, h1, h2, h3⟩ := h
    exact ⟨a, vs, e, (k a h1).1, by rw [(k a h1).2]; exact h2, h3.mono s⟩
  · obtain ⟨a, vs, e, h1, h2, h3⟩ := h
    exact ⟨a, vs, e, (k a h1).1, by rw [(k a h1).2]; exact h2, h3.mono s⟩
  · obtain ⟨a, vs, e, h1, h2, h3⟩ := h
    exact ⟨a, vs, e, (k a h1).1, by rw [(k a h1).2]; exact h2, h3.mono s⟩
  · obtain ⟨a, e, h1, h2⟩ := h
    exact ⟨a, e, (k a h1).1, by rw [(k a h1).2]; exact h2⟩
  · obtain ⟨a, dx, vs, e, h1, h2, h3, h4, h5⟩ := h
    exact ⟨a, dx, vs, e, (k a h1).1, (k dx h2).1, by rw [(k a h1).2]; exact h3, by rw [(k dx h2).2]; exact h4, h5.mono s⟩
  · exact h.elim
theorem Ro.frozen {F F' H : Hp} {own : Addr → Prop} {d : D} {v : V} (h : Ro w F H own d v) (s : ∀ a o, F a = some o → F' a = some o) (k : ∀ b, own b → F' b = H b) : Rp w F' d v := by
  unfold Ro at h
  split at h
  · obtain ⟨a, vs, e, h1, h2, h3⟩ := h
    unfold Rp
    exact ⟨a, vs, e, by rw [k a h1]; exact h2, h3.mono s⟩
  · obtain ⟨a, vs, e, h1, h2, h3⟩ := h
    unfold Rp
    exact ⟨a, vs, e, by rw [k a h1]; exact h2, h3.mono s⟩
  · obtain ⟨a, vs, e, h1, h2, h3⟩ := h
    unfold Rp
    exact ⟨a, vs, e, by rw [k a h1]; exact h2, h3.mono s⟩
  · obtain ⟨a, e, h1, h2⟩ := h
    unfold Rp
    exact ⟨a, e, by rw [k a h1]; exact h2⟩
  · obtain ⟨a, dx, vs, e, h1, h2, h3, h4, h5⟩ := h
    unfold Rp
    exact ⟨a, dx, vs, e, by rw [k a h1]; exact h3, by rw [k dx h2]; exact h4, h5.mono s⟩
  · exact h.elim
end
/-- what may be locked by a walk -/
def Lockable : HO → Prop
  | .lst _ => True
  | .dK _ => True
  | .dT _ => True
  | _ => False
def Sb (H : Hp) (a : Addr) (o : HO) : Prop := H a = some o ∨ (Lockable o ∧ ∃ ob, H a = some (.frz ob o))
theorem Sb.rd {H : Hp} {a : Addr} {o : HO} (h : Sb H a o) : Rd H a o := by
  rcases h with h | ⟨_, ob, h⟩
  · exact .inl h
  · exact .inr ⟨ob, h⟩
theorem Sb.got {H : Hp} {a : Addr} {o : HO} (h : Sb H a o) : ∃ u, H a = some u := by
  rcases h with h | ⟨_, ob, h⟩
  · exact ⟨_, h⟩
  · exact ⟨_, h⟩
abbrev Lbs := Addr → Option Lb
section
variable (w : World) (P : List V) (F : Hp) (L : Lbs) (H : Hp)
def RA (i : Nat) (a : A) (s : Option (Option V)) : Prop := match a with
  | .un => True
  | .fz d => ∃ v, s = some (some v) ∧ Rp w F d v
  | .ow d => ∃ v, s = some (some v) ∧ Ro w F H (fun b => L b = some (.sl i)) d v
  | .pr k d => ∃ v, s = some (some v) ∧ P[k]? = some v ∧ Ro w F H (fun b => L b = some (.sl i)) d v
def RT (σ : L2.St) (k : Nat) (r : R) (v : V) : Prop := match r with
  | .val d => Rp w F d v
  | .new d => Ro w F H (fun b => L b = some (.tm k)) d v
  | .loc i => σ[i]? = some (some v)
  | .any => True
def RTm (σ : L2.St) : List (R × V) → Prop
  | [] => True
  | p :: τ => RT w F L H σ τ.length p.1 p.2 ∧ RTm σ τ
end
structure St (w : World) (P : List V) (F : Hp) (L : Lbs) (H : Hp) (τ : List (R × V)) (ρ : Env) (σ : L2.St) : Prop where
  sub : ∀ a o, F a = some o → Sb H a o
  apart : ∀ a l, L a = some l → F a = none
  has : ∀ a l, L a = some l → ∃ o, H a = some o
  len : ρ.length = σ.length
  sl : ∀ i a, ρ[i]? = some a → RA w P F L H i a σ[i]?
  tm : RTm w F L H σ τ
/-- from one state to a later one: data stays, what is not owned stays, what is new was free or owned -/
structure Step (F : Hp) (L : Lbs) (H : Hp) (F' : Hp) (L' : Lbs) (H' : Hp) : Prop where
  mono : ∀ a o, F a = some o → F' a = some o
  keep : ∀ b o, L b = none → H b = some o → H' b = some o
  grow : ∀ b, H' b = none → H b = none
  fr : ∀ b, F' b ≠ none → F b ≠ none ∨ L b ≠ none ∨ H b = none
  own : ∀ b, L' b ≠ none → L b ≠ none ∨ H b = none
theorem Step.refl {F : Hp} {L : Lbs} {H : Hp} : Step F L H F L H := ⟨fun _ _ h => h, fun _ _ _ h => h, fun _ h => h, fun _ h => .inl h, fun _ h => .inl h⟩
theorem Step.trans {F F1 F2 : Hp} {L L1 L2 : Lbs} {H H1 H2 : Hp} (a : Step F L H F1 L1 H1) (b : Step F1 L1 H1 F2 L2 H2) : Step F L H F2 L2 H2 where
  mono := fun x o h => b.mono x o (a.mono x o h)
  keep := fun x o hl h => by
    have h1 := a.keep x o hl h
    refine b.keep x o ?_ h1
    cases e : L1 x with
    | none => rfl
    | some l =>
      rcases a.own x (by rw [e]; simp) with q | q
      · exact absurd hl q
      · rw [h] at q; cases q
  grow := fun x h => a.grow x (b.grow x h)
  fr := fun x h => by
    rcases b.fr x h with q | q | q
    · exact a.fr x q
    · rcases a.own x q with q | q
      · exact .inr (.inl q)
      · exact .inr (.inr q)
    · exact .inr (.inr (a.grow x q))
  own := fun x h => by
    rcases b.own x h with q | q
    · exact a.own x q
    · exact .inr (a.grow x q)
section
variable {w : World} {P : List V} {F F' : Hp} {L L' : Lbs} {H H' : Hp} {τ : List (R × V)} {ρ : Env} {σ : L2.St}
theorem RA.keep {i : Nat} {a : A} {s : Option (Option V)} (h : RA w P F L H i a s) (m : ∀ a o, F a = some o → F' a = some o) (k : ∀ b, L b = some (.sl i) → L' b = some (.sl i) ∧ H' b = H b) : RA w P F' L' H' i a s := by
  cases a with
  | un => exact True.intro
  | fz d => obtain ⟨v, e, h⟩ := h; exact ⟨v, e, h.mono m⟩
  | ow d => obtain ⟨v, e, h⟩ := h; exact ⟨v, e, h.keep m k⟩
  | pr j d => obtain ⟨v, e, e2, h⟩ := h; exact ⟨v, e, e2, h.keep m k⟩
theorem RT.keep {n : Nat} {r : R} {v : V} (h : RT w F L H σ n r v) (m : ∀ a o, F a = some o → F' a = some o) (k : ∀ b, L b = some (.tm n) → L' b = some (.tm n) ∧ H' b = H b) : RT w F' L' H' σ n r v := by
  cases r with
  | val d => exact Rp.mono m h
  | new d => exact Ro.keep h m k
  | loc i => exact h
  | any => exact True.intro
theorem RTm.keep (m : ∀ a o, F a = some o → F' a = some o) : ∀ {τ : List (R × V)}, RTm w F L H σ τ → (∀ b n, n < τ.length → L b = some (.tm n) → L' b = some (.tm n) ∧ H' b = H b) → RTm w F' L' H' σ τ
  | [], _, _ => True.intro
  | p :: τ, h, k => ⟨h.1.keep m fun b e => k b _ (Nat.lt_succ_self _) e, RTm.keep m h.2 fun b n hn e => k b n (Nat.lt_succ_of_lt hn) e⟩
theorem St.keep (S : St w P F L H τ ρ σ) (m : ∀ a o, F a = some o → F' a = some o) (k : ∀ b l, L b = some l → L' b = some l ∧ H' b = H b) (h1 : ∀ a o, F' a = some o → Sb H' a o) (h2 : ∀ a l, L' a = some l → F' a = none)
    (h3 : ∀ a l, L' a = some l → ∃ o, H' a = some o) : St w P F' L' H' τ ρ σ :=
  ⟨h1, h2, h3, S.len, fun i a e => (S.sl i a e).keep m fun b q => k b _ q, S.tm.keep m fun b n _ q => k b _ q⟩
theorem St.pop {p : R × V} (S : St w P F L H (p :: τ) ρ σ) : St w P F L H τ ρ σ := ⟨S.sub, S.apart, S.has, S.len, S.sl, S.tm.2⟩
theorem St.push {d : D} {v : V} (S : St w P F L H τ ρ σ) (h : Rp w F d v) : St w P F L H ((.val d, v) :: τ) ρ σ := ⟨S.sub, S.apart, S.has, S.len, S.sl, h, S.tm⟩
theorem St.pushL {i : Nat} {v : V} (S : St w P F L H τ ρ σ) (h : σ[i]? = some (some v)) : St w P F L H ((.loc i, v) :: τ) ρ σ := ⟨S.sub, S.apart, S.has, S.len, S.sl, h, S.tm⟩
theorem St.free {p : Addr} (S : St w P F L H τ ρ σ) (hp : H p = none) : F p = none ∧ L p = none := by
  refine ⟨?_, ?_⟩
  · cases e : F p with
    | none => rfl
    | some o =>
      obtain ⟨u, hu⟩ := (S.sub p o e).got
      rw [hp] at hu; cases hu
  · cases e : L p with
    | none => rfl
    | some l =>
      obtain ⟨u, hu⟩ := S.has p l e
      rw [hp] at hu; cases hu
theorem Sb.upd {a p : Addr} {o u : HO} (h : Sb H a o) (hp : H p = none) : Sb (upd H p u) a o := by
  have n : a ≠ p := by
    obtain ⟨x, hx⟩ := h.got
    exact ne_of_none hx hp
  rcases h with h | ⟨l, ob, h⟩
  · exact .inl (by rw [upd_ne n]; exact h)
  · exact .inr ⟨l, ob, by rw [upd_ne n]; exact h⟩
/-- a new object that is data at once -/
theorem St.allocF {p : Addr} {o : HO} (S : St w P F L H τ ρ σ) (hp : H p = none) : St w P (upd F p o) L (upd H p o) τ ρ σ := by
  obtain ⟨fp, lp⟩ := S.free hp
  refine S.keep (fun a u e => by rw [upd_ne (ne_of_none e fp)]; exact e) (fun b l e => ⟨e, ?_⟩) (fun a u e => ?_) (fun a l e => ?_) (fun a l e => ?_)
  · exact upd_ne fun z => by rw [z, lp] at e; cases e
  · by_cases z : a = p
    · rw [z, upd_same] at e
      rw [z, ← Option.some.inj e]
      exact .inl upd_same
    · rw [upd_ne z] at e
      exact (S.sub a u e).upd hp
  · rw [upd_ne fun z => by rw [z, lp] at e; cases e]
    exact S.apart a l e
  · obtain ⟨u, hu⟩ := S.has a l e
    exact ⟨u, by rw [upd_ne (ne_of_none hu hp)]; exact hu⟩
theorem Step.allocF {p : Addr} {o : HO} (S : St w P F L H τ ρ σ) (hp : H p = none) : Step F L H (upd F p o) L (upd H p o) := by
  obtain ⟨fp, lp⟩ := S.free hp
  refine ⟨fun a u e => by rw [upd_ne (ne_of_none e fp)]; exact e, fun b u _ e => by rw [upd_ne (ne_of_none e hp)]; exact e, fun b e => ?_, fun b e => ?_, fun b e => .inl e⟩
  · by_cases z : b = p
    · rw [z]; exact hp
    · rwa [upd_ne z] at e
  · by_cases z : b = p
    · rw [z]; exact .inr (.inr hp)
    · rw [upd_ne z] at e; exact .inl e
def updL (L : Lbs) (p : Addr) (l : Lb) : Lbs := fun b => if b = p then some l else L b
theorem updL_same {p : Addr} {l : Lb} : updL L p l p = some l := by unfold updL; rw [if_pos rfl]
theorem updL_ne {p b : Addr} {l : Lb} (h : b ≠ p) : updL L p l b = L b := by unfold updL; rw [if_neg h]
/-- a new object that is owned by what comes on top -/
theorem St.allocT {p : Addr} {o : HO} {d : D} (S : St w P F L H τ ρ σ) (hp : H p = none) (ro : Ro w F (upd H p o) (fun b => b = p) d (.ref p)) :
    St w P F (updL L p (.tm τ.length)) (upd H p o) ((.new d, .ref p) :: τ) ρ σ := by
  obtain ⟨fp, lp⟩ := S.free hp
  have S' : St w P F (updL L p (.tm τ.length)) (upd H p o) τ ρ σ := by
    refine S.keep (fun a u e => e) (fun b l e => ?_) (fun a u e => (S.sub a u e).upd hp) (fun a l e => ?_) (fun a l e => ?_)
    · have n : b ≠ p := fun z => by rw [z, lp] at e; cases e
      exact ⟨by rw [updL_ne n]; exact e, upd_ne n⟩
    · by_cases z : a = p
      · rw [z]; exact fp
      · rw [updL_ne z] at e; exact S.apart a l e
    · by_cases z : a = p
      · rw [z]; exact ⟨o, upd_same⟩
      · rw [updL_ne z] at e
        rw [upd_ne z]
        exact S.has a l e
  exact ⟨S'.sub, S'.apart, S'.has, S'.len, S'.sl, ro.keep (fun _ _ e => e) (fun b e => ⟨by rw [e]; exact updL_same, rfl⟩), S'.tm⟩
theorem Step.allocT {p : Addr} {o : HO} {l : Lb} (S : St w P F L H τ ρ σ) (hp : H p = none) : Step F L H F (updL L p l) (upd H p o) := by
  obtain ⟨fp, lp⟩ := S.free hp
  refine ⟨fun a u e => e, fun b u _ e => by rw [upd_ne (ne_of_none e hp)]; exact e, fun b e => ?_, fun b e => .inl e, fun b e => ?_⟩
  · by_cases z : b = p
    · rw [z]; exact hp
    · rwa [upd_ne z] at e
  · by_cases z : b = p
    · rw [z]; exact .inr hp
    · rw [updL_ne z] at e; exact .inl e
/-! ### an owned object becomes data -/
def frzF (F : Hp) (L : Lbs) (H : Hp) (l : Lb) : Hp := fun b => if L b = some l then H b else F b
def frzL (L : Lbs) (l : Lb) : Lbs := fun b => if L b = some l then none else L b
theorem frzF_mono (S : St w P F L H τ ρ σ) (l : Lb) : ∀ a o, F a = some o → frzF F L H l a = some o := fun a o e => by
  unfold frzF
  rw [if_neg fun z => by rw [S.apart a l z] at e; cases e]
  exact e
theorem Step.frz (S : St w P F L H τ ρ σ) (l : Lb) : Step F L H (frzF F L H l) (frzL L l) H := by
  refine ⟨frzF_mono S l, fun _ _ _ e => e, fun _ e => e, fun b e => ?_, fun b e => ?_⟩
  · unfold frzF at e
    by_cases z : L b = some l
    · exact .inr (.inl (by rw [z]; simp))
    · rw [if_neg z] at e; exact .inl e
  · unfold frzL at e
    by_cases z : L b = some l
    · rw [if_pos z] at e; exact absurd rfl e
    · rw [if_neg z] at e; exact .inl e
theorem frz_parts (S : St w P F L H τ ρ σ) (l : Lb) : (∀ a o, frzF F L H l a = some o → Sb H a o) ∧ (∀ a l', frzL L l a = some l' → frzF F L H l a = none) ∧ (∀ a l', frzL L l a = some l' → ∃ o, H a = some o) ∧
    ∀ b l', l' ≠ l → L b = some l' → frzL L l b = some l' ∧ H b = H b := by
  refine ⟨fun a o e => ?_, fun a l' e => ?_, fun a l' e => ?_, fun b l' n e => ?_⟩
  · unfold frzF at e
    by_cases z : L a = some l
    · rw [if_pos z] at e; exact .inl e
    · rw [if_neg z] at e; exact S.sub a o e
  · unfold frzL at e
    unfold frzF
    by_cases z : L a = some l
    · rw [if_pos z] at e; cases e
    · rw [if_neg z] at e
      rw [if_neg z]
      exact S.apart a l' e
  · unfold frzL at e
    by_cases z : L a = some l
    · rw [if_pos z] at e; cases e
    · rw [if_neg z] at e
      exact S.has a l' e
  · refine ⟨?_, rfl⟩
    unfold frzL
    rw [if_neg fun z => by rw [e] at z; exact n (Option.some.inj z)]
    exact e
theorem frzF_at {l : Lb} (b : Addr) (e : L b = some l) : frzF F L H l b = H b := by unfold frzF; rw [if_pos e]
/-- the i-th name's object becomes data -/
theorem St.frzS {i : Nat} {d : D} {v : V} (S : St w P F L H τ ρ σ) (hi : getA ρ i = .ow d) (hv : σ[i]? = some (some v)) :
    St w P (frzF F L H (.sl i)) (frzL L (.sl i)) H τ (setA ρ i (.fz d)) σ ∧ Rp w (frzF F L H (.sl i)) d v := by
  obtain ⟨h1, h2, h3, h4⟩ := frz_parts S (.sl i)
  have m := frzF_mono S (.sl i)
  have hi' : ρ[i]? = some (.ow d) := by
    rw [← hi]
    exact getA_some (by rw [hi]; exact fun z => by cases z)
  obtain ⟨v', e1, ro⟩ := S.sl i _ hi'
  rw [hv] at e1
  cases e1
  have rp : Rp w (frzF F L H (.sl i)) d v := ro.frozen m fun b e => frzF_at b e
  refine ⟨⟨h1, h2, h3, ?_, fun j a e => ?_, S.tm.keep m fun b n _ e => h4 b _ (fun z => by cases z) e⟩, rp⟩
  · rw [setA_eq, List.length_set]; exact S.len
  · rw [setA_eq] at e
    by_cases z : j = i
    · subst z
      rw [List.getElem?_set_self (by exact (List.getElem?_eq_some_iff.mp hi').1)] at e
      cases e
      exact ⟨v, hv, rp⟩
    · rw [List.getElem?_set_ne (Ne.symm z)] at e
      exact (S.sl j a e).keep m fun b q => h4 b _ (fun y => z (by cases y; rfl)) q
/-- what is on top becomes data -/
theorem St.frzT {d : D} {v : V} (S : St w P F L H ((.new d, v) :: τ) ρ σ) :
    St w P (frzF F L H (.tm τ.length)) (frzL L (.tm τ.length)) H ((.val d, v) :: τ) ρ σ := by
  obtain ⟨h1, h2, h3, h4⟩ := frz_parts S (.tm τ.length)
  have m := frzF_mono S (.tm τ.length)
  obtain ⟨ro, tms⟩ := S.tm
  have rp : Rp w (frzF F L H (.tm τ.length)) d v := Ro.frozen ro m fun b e => frzF_at b e
  exact ⟨h1, h2, h3, S.len, fun j a e => (S.sl j a e).keep m fun b q => h4 b _ (fun z => by cases z) q, rp, tms.keep m fun b n hn e => h4 b _ (fun z => by cases z; exact absurd hn (Nat.lt_irrefl _)) e⟩
/-- the i-th name's object is written -/
theorem St.write {i : Nat} {a' : A} {p : Addr} {o : HO} (S : St w P F L H τ ρ σ) (hp : L p = some (.sl i)) (ra : RA w P F L (upd H p o) i a' σ[i]?) : St w P F L (upd H p o) τ (setA ρ i a') σ := by
  have fp := S.apart p _ hp
  have k : ∀ b l, l ≠ .sl i → L b = some l → L b = some l ∧ upd H p o b = H b := fun b l n e => ⟨e, upd_ne fun z => by rw [z, hp] at e; exact n (Option.some.inj e).symm⟩
  refine ⟨fun a u e => ?_, S.apart, fun a l e => ?_, by rw [setA_eq, List.length_set]; exact S.len, fun j a e => ?_, S.tm.keep (fun _ _ e => e) fun b n _ e => k b _ (fun z => by cases z) e⟩
  · have n : a ≠ p := fun z => by rw [z, fp] at e; cases e
    rcases S.sub a u e with q | ⟨l, ob, q⟩
    · exact .inl (by rw [upd_ne n]; exact q)
    · exact .inr ⟨l, ob, by rw [upd_ne n]; exact q⟩
  · by_cases z : a = p
    · rw [z]; exact ⟨o, upd_same⟩
    · rw [upd_ne z]; exact S.has a l e
  · rw [setA_eq] at e
    by_cases z : j = i
    · subst z
      have hj : j < ρ.length := by
        have := (List.getElem?_eq_some_iff.mp e).1
        rwa [List.length_set] at this
      rw [List.getElem?_set_self hj] at e
      cases e
      exact ra
    · rw [List.getElem?_set_ne (Ne.symm z)] at e
      exact (S.sl j a e).keep (fun _ _ e => e) fun b q => k b _ (fun y => z (by cases y; rfl)) q
theorem Step.write {p : Addr} {o : HO} {l : Lb} (hp : L p = some l) : Step F L H F L (upd H p o) := by
  refine ⟨fun _ _ e => e, fun b u n e => ?_, fun b e => ?_, fun b e => .inl e, fun b e => .inl e⟩
  · rw [upd_ne fun z => by rw [z, hp] at n; cases n]
    exact e
  · by_cases z : b = p
    · rw [z, upd_same] at e; cases e
    · rwa [upd_ne z] at e
/-! ### a name is stored -/
def relL (L : Lbs) (n i : Nat) : Lbs := fun b => if L b = some (.tm n) then some (.sl i) else L b
/-- no temporary speaks of a name -/
def NoLoc : List (R × V) → Prop
  | [] => True
  | p :: τ => (∀ i, p.1 ≠ .loc i) ∧ NoLoc τ
theorem RTm.other {σ' : L2.St} : ∀ {τ : List (R × V)}, RTm w F L H σ τ → NoLoc τ → RTm w F L H σ' τ
  | [], _, _ => True.intro
  | (r, v) :: τ, h, n => ⟨by
      cases r with
      | val d => exact h.1
      | new d => exact h.1
      | loc i => exact absurd rfl (n.1 i)
      | any => exact True.intro, RTm.other h.2 n.2⟩
theorem St.setV {i : Nat} {d : D} {v : V} (S : St w P F L H ((.val d, v) :: τ) ρ σ) (n : NoLoc τ) : St w P F L H τ (setA ρ i (.fz d)) (σ.set i (some v)) := by
  refine ⟨S.sub, S.apart, S.has, by rw [setA_eq, List.length_set, List.length_set]; exact S.len, fun j a e => ?_, S.tm.2.other n⟩
  rw [setA_eq] at e
  by_cases z : j = i
  · subst z
    have hj : j < ρ.length := by
      have := (List.getElem?_eq_some_iff.mp e).1
      rwa [List.length_set] at this
    rw [List.getElem?_set_self hj] at e
    cases e
    exact ⟨v, by rw [List.getElem?_set_self (by rw [← S.len]; exact hj)], S.tm.1⟩
  · rw [List.getElem?_set_ne (Ne.symm z)] at e
    rw [List.getElem?_set_ne (Ne.symm z)]
    exact S.sl j a e
theorem St.setN {i : Nat} {d : D} {v : V} (S : St w P F L H ((.new d, v) :: τ) ρ σ) (n : NoLoc τ) : St w P F (relL L τ.length i) H τ (setA ρ i (.ow d)) (σ.set i (some v)) := by
  have k : ∀ b l, l ≠ .tm τ.length → L b = some l → relL L τ.length i b = some l := fun b l n e => by
    unfold relL
    rw [if_neg fun z => by rw [e] at z; exact n (Option.some.inj z)]
    exact e
  have back : ∀ b l, relL L τ.length i b = some l → ∃ l', L b = some l' := fun b l e => by
    unfold relL at e
    by_cases z : L b = some (.tm τ.length)
    · exact ⟨_, z⟩
    · rw [if_neg z] at e; exact ⟨_, e⟩
  refine ⟨S.sub, fun a l e => ?_, fun a l e => ?_, by rw [setA_eq, List.length_set, List.length_set]; exact S.len, fun j a e => ?_, ?_⟩
  · obtain ⟨l', q⟩ := back a l e
    exact S.apart a l' q
  · obtain ⟨l', q⟩ := back a l e
    exact S.has a l' q
  · rw [setA_eq] at e
    by_cases z : j = i
    · subst z
      have hj : j < ρ.length := by
        have := (List.getElem?_eq_some_iff.mp e).1
        rwa [List.length_set] at this
      rw [List.getElem?_set_self hj] at e
      cases e
      refine ⟨v, by rw [List.getElem?_set_self (by rw [← S.len]; exact hj)], Ro.keep S.tm.1 (fun _ _ e => e) fun b e => ⟨?_, rfl⟩⟩
      have e' : L b = some (.tm τ.length) := e
      unfold relL
      rw [if_pos e']
    · rw [List.getElem?_set_ne (Ne.symm z)] at e
      rw [List.getElem?_set_ne (Ne.symm z)]
      exact (S.sl j a e).keep (fun _ _ e => e) fun b q => ⟨k b _ (fun y => by cases y) q, rfl⟩
  · exact (S.tm.2.keep (fun _ _ e => e) fun b m hm e => ⟨k b _ (fun y => by cases y; exact absurd hm (Nat.lt_irrefl _)) e, rfl⟩).other n
theorem Step.rel {n i : Nat} : Step F L H F (relL L n i) H := by
  refine ⟨fun _ _ e => e, fun _ _ _ e => e, fun _ e => e, fun b e => .inl e, fun b e => .inl ?_⟩
  intro z
  unfold relL at e
  rw [z] at e
  exact e (by simp)
end
end Fl

set_option Elab.async false
set_option linter.all false
set_option maxRecDepth 100000
set_option maxHeartbeats 4000000
/-! FlC: the judgements over data; names, constants, operators, displays, tests -/
namespace Fl
open PySem PySem.Spec PyProof.Rows L2
/-- an error: its class, its fields -/
structure Ex where
  cls : Addr
  fs : List (Str × D)
def RX (w : World) (F : Hp) (ex : Ex) (cls : Value) (d : Option Addr) : Prop := cls = .ref ex.cls ∧ match ex.fs with
  | [] => d = none
  | f :: fs => ∃ a vs, d = some a ∧ F a = some (.xd vs) ∧ RpF w F (f :: fs) vs
abbrev QE := Ex → Env → Prop
abbrev Wd := Env → (R → Env → Prop) → QE → Prop
abbrev Wt := Env → (Bool → Env → Prop) → QE → Prop
abbrev Wa := Env → (List R → Env → Prop) → QE → Prop
/-- what is wished of errors is served -/
def XI (w : World) (W : WX) (P : List V) (F : Hp) (L : Lbs) (H : Hp) (E' : QE) : Prop := ∀ (ex : Ex) (ρ' : Env) (cls : Value) (d : Option Addr) (σ' : L2.St) (F' : Hp) (L' : Lbs) (H' : Hp), E' ex ρ' → Step F L H F' L' H' → St w P F' L' H' [] ρ' σ' → RX w F' ex cls d → W cls d σ' H'
theorem XI.step {w : World} {W : WX} {P : List V} {F F1 : Hp} {L L1 : Lbs} {H H1 : Hp} {E' : QE} (h : XI w W P F L H E') (s : Step F L H F1 L1 H1) : XI w W P F1 L1 H1 E' := fun ex ρ' cls d σ' F' L' H' e s' S r => h ex ρ' cls d σ' F' L' H' e (s.trans s') S r
def SE (w : World) (W : WX) (P : List V) (t : TE) (wd : Wd) : Prop := ∀ (F : Hp) (L : Lbs) (H : Hp) (τ : List (R × V)) (ρ : Env) (σ : L2.St) (Q : VK) (Q' : R → Env → Prop) (E' : QE), St w P F L H τ ρ σ →
  (∀ r ρ' v F' L' H', Q' r ρ' → Step F L H F' L' H' → St w P F' L' H' ((r, v) :: τ) ρ' σ → Q v H') → XI w W P F L H E' → wd ρ Q' E' → t σ H Q
def STt (w : World) (W : WX) (P : List V) (t : TT) (wd : Wt) : Prop := ∀ (F : Hp) (L : Lbs) (H : Hp) (τ : List (R × V)) (ρ : Env) (σ : L2.St) (Q : Bool → Hp → Prop) (Q' : Bool → Env → Prop) (E' : QE), St w P F L H τ ρ σ →
  (∀ b ρ' F' L' H', Q' b ρ' → Step F L H F' L' H' → St w P F' L' H' τ ρ' σ → Q b H') → XI w W P F L H E' → wd ρ Q' E' → t σ H Q
def SA (w : World) (W : WX) (P : List V) (t : TA) (wd : Wa) : Prop := ∀ (F : Hp) (L : Lbs) (H : Hp) (τ : List (R × V)) (ρ : Env) (σ : L2.St) (Q : List V → Hp → Prop) (Q' : List R → Env → Prop) (E' : QE), St w P F L H τ ρ σ →
  (∀ (ps : List (R × V)) ρ' F' L' H', Q' (ps.map (·.1)) ρ' → Step F L H F' L' H' → St w P F' L' H' (ps.reverse ++ τ) ρ' σ → Q (ps.map (·.2)) H') → XI w W P F L H E' → wd ρ Q' E' → t σ H Q
structure FE (X : Cx) (W : WX) (P : List V) (e : Expr) (t : TE) (wd : Wd) : Prop where
  pe : PE X e t
  se : SE X.w W P t wd
structure FT (X : Cx) (W : WX) (P : List V) (e : Expr) (t : TT) (wd : Wt) : Prop where
  pe : PT X e t
  se : STt X.w W P t wd
structure FW (X : Cx) (W : WX) (P : List V) (e : Expr) (t : TT) (wd : Wt) : Prop where
  pe : PW X e t
  se : STt X.w W P t wd
/-! ### what an operand tells -/
@[reducible] def cD (ρ : Env) : R → Option D
  | .val d => some d
  | .new d => some d
  | .loc i => match getA ρ i with
    | .ow d => some d
    | .pr _ d => some d
    | .fz d => some d
    | .un => none
  | .any => none
@[reducible] def wD (ρ : Env) (r : R) (k : D → Prop) : Prop := match cD ρ r with
  | some d => k d
  | none => False
theorem wD_ex {ρ : Env} {r : R} {k : D → Prop} (h : wD ρ r k) : ∃ d, cD ρ r = some d ∧ k d := by
  unfold wD at h
  cases e : cD ρ r with
  | none => rw [e] at h; exact h.elim
  | some d => rw [e] at h; exact ⟨d, rfl, h⟩
/-- data at a value, the outermost object read off the heap -/
def Pk (w : World) (F H : Hp) (d : D) (v : V) : Prop := match d with
  | .lst ds => ∃ a vs, v = .ref a ∧ Rd H a (.lst vs) ∧ Rps w F ds vs
  | .dic ks => ∃ a vs, v = .ref a ∧ Rd H a (.dK vs) ∧ RpK w F ks vs
  | .dit ks => ∃ a vs, v = .ref a ∧ Rd H a (.dT vs) ∧ RpT w F ks vs
  | .set ns => ∃ a, v = .ref a ∧ H a = some (SetN w a ns)
  | .ins C fs => ∃ a dx vs, v = .ref a ∧ H a = some (.ins C dx vs) ∧ H dx = some (.own a) ∧ RpF w F fs vs
  | d => Rp w F d v
section
variable {w : World} {F F' H H' : Hp} {L : Lbs} {P : List V} {τ : List (R × V)} {ρ : Env} {σ : L2.St}
theorem Sb.ex {a : Addr} {o : HO} (h : Sb H a o) (n : ¬ Lockable o) : H a = some o := by
  rcases h with h | ⟨l, _⟩
  · exact h
  · exact absurd l n
theorem Rp.pk (sub : ∀ a o, F a = some o → Sb H a o) {d : D} {v : V} (h : Rp w F d v) : Pk w F H d v := by
  cases d with
  | tup ds => exact h
  | lst ds => unfold Rp at h; obtain ⟨a, vs, e, h1, h2⟩ := h; exact ⟨a, vs, e, (sub _ _ h1).rd, h2⟩
  | dic ds => unfold Rp at h; obtain ⟨a, vs, e, h1, h2⟩ := h; exact ⟨a, vs, e, (sub _ _ h1).rd, h2⟩
  | dit ds => unfold Rp at h; obtain ⟨a, vs, e, h1, h2⟩ := h; exact ⟨a, vs, e, (sub _ _ h1).rd, h2⟩
  | set ns => unfold Rp at h; obtain ⟨a, e, h1⟩ := h; exact ⟨a, e, (sub _ _ h1).ex fun z => z⟩
  | ins C fs => unfold Rp at h; obtain ⟨a, dx, vs, e, h1, h2, h3⟩ := h; exact ⟨a, dx, vs, e, (sub _ _ h1).ex fun z => z, (sub _ _ h2).ex fun z => z, h3⟩
  | non => exact h
  | bl b => exact h
  | int i => exact h
  | str z => exact h
  | ty n => exact h
  | adr a => exact h
theorem Ro.pk {own : Addr → Prop} {d : D} {v : V} (h : Ro w F H own d v) : Pk w F H d v := by
  cases d with
  | lst ds => obtain ⟨a, vs, e, _, h1, h2⟩ := h; exact ⟨a, vs, e, .of h1, h2⟩
  | dic ds => obtain ⟨a, vs, e, _, h1, h2⟩ := h; exact ⟨a, vs, e, .of h1, h2⟩
  | dit ds => obtain ⟨a, vs, e, _, h1, h2⟩ := h; exact ⟨a, vs, e, .of h1, h2⟩
  | set ns => obtain ⟨a, e, _, h1⟩ := h; exact ⟨a, e, h1⟩
  | ins C fs => obtain ⟨a, dx, vs, e, _, _, h1, h2, h3⟩ := h; exact ⟨a, dx, vs, e, h1, h2, h3⟩
  | tup ds => exact h.elim
  | non => exact h.elim
  | bl b => exact h.elim
  | int i => exact h.elim
  | str z => exact h.elim
  | ty n => exact h.elim
  | adr a => exact h.elim
theorem St.slot (S : St w P F L H τ ρ σ) {i : Nat} (h : getA ρ i ≠ .un) : RA w P F L H i (getA ρ i) σ[i]? := S.sl i _ (getA_some h)
theorem RT.pk (S : St w P F L H τ ρ σ) {k : Nat} {r : R} {v : V} {d : D} (t : RT w F L H σ k r v) (h : cD ρ r = some d) : Pk w F H d v := by
  cases r with
  | val e => cases h; exact Rp.pk S.sub t
  | new e => cases h; exact Ro.pk t
  | any => cases h
  | loc i =>
    have q := S.slot (i := i)
    unfold cD at h
    cases e : getA ρ i with
    | un => simp only [e] at h; cases h
    | fz d' =>
      simp only [e] at h; cases h
      rw [e] at q
      obtain ⟨v', e1, q⟩ := q (fun z => by cases z)
      have t' : σ[i]? = some (some v) := t
      rw [t'] at e1; cases e1
      exact Rp.pk S.sub q
    | ow d' =>
      simp only [e] at h; cases h
      rw [e] at q
      obtain ⟨v', e1, q⟩ := q (fun z => by cases z)
      have t' : σ[i]? = some (some v) := t
      rw [t'] at e1; cases e1
      exact Ro.pk q
    | pr k d' =>
      simp only [e] at h; cases h
      rw [e] at q
      obtain ⟨v', e1, _, q⟩ := q (fun z => by cases z)
      have t' : σ[i]? = some (some v) := t
      rw [t'] at e1; cases e1
      exact Ro.pk q
theorem RTm.mem : ∀ {τ : List (R × V)} {p : R × V}, RTm w F L H σ τ → p ∈ τ → ∃ k, RT w F L H σ k p.1 p.2
  | q :: τ, p, h, m => by
    rcases List.mem_cons.mp m with rfl | m
    · exact ⟨_, h.1⟩
    · exact RTm.mem h.2 m
theorem St.pk (S : St w P F L H τ ρ σ) {p : R × V} (m : p ∈ τ) {d : D} (h : cD ρ p.1 = some d) : Pk w F H d p.2 := by
  obtain ⟨k, t⟩ := S.tm.mem m
  exact t.pk S h
end
/-! ### what a pure operation may give -/
structure Kon (w : World) (F H : Hp) (Q : VK) (Q' : R → Prop) : Prop where
  hv : ∀ d v, Q' (.val d) → Rp w F d v → Q v H
  ht : ∀ ds vs p, Q' (.val (.tup ds)) → Rps w F ds vs → H p = none → Q (.ref p) (upd H p (.tup vs))
  hl : ∀ ds vs p, Q' (.new (.lst ds)) → Rps w F ds vs → H p = none → Q (.ref p) (upd H p (.lst vs))
  hd : ∀ ds vs p, Q' (.new (.dic ds)) → RpK w F ds vs → H p = none → Q (.ref p) (upd H p (.dK vs))
  he : ∀ ds vs p, Q' (.new (.dit ds)) → RpT w F ds vs → H p = none → Q (.ref p) (upd H p (.dT vs))
  hs : ∀ ns p, Q' (.new (.set ns)) → H p = none → Q (.ref p) (upd H p (SetN w p ns))
theorem Rp.new {w : World} {F : Hp} {p : Addr} {o : HO} (fp : F p = none) : ∀ a u, F a = some u → upd F p o a = some u := fun a u e => by
  rw [upd_ne (ne_of_none e fp)]; exact e
theorem Kon.of {w : World} {P : List V} {F : Hp} {L : Lbs} {H : Hp} {τ : List (R × V)} {ρ : Env} {σ : L2.St} {Q : VK} {Q' : R → Prop} (S : St w P F L H τ ρ σ)
    (hQ : ∀ r v F' L' H', Q' r → Step F L H F' L' H' → St w P F' L' H' ((r, v) :: τ) ρ σ → Q v H') : Kon w F H Q Q' where
  hv := fun d v q h => hQ _ v _ _ _ q .refl (S.push h)
  ht := fun ds vs p q h hp => by
    obtain ⟨fp, lp⟩ := S.free hp
    refine hQ _ _ _ _ _ q (Step.allocF S hp) ((S.allocF (o := .tup vs) hp).push ?_)
    unfold Rp
    exact ⟨p, vs, rfl, upd_same, h.mono (Rp.new (w := w) fp)⟩
  hl := fun ds vs p q h hp => hQ _ _ _ _ _ q (Step.allocT S hp) (S.allocT hp ⟨p, vs, rfl, rfl, upd_same, h⟩)
  hd := fun ds vs p q h hp => hQ _ _ _ _ _ q (Step.allocT S hp) (S.allocT hp ⟨p, vs, rfl, rfl, upd_same, h⟩)
  he := fun ds vs p q h hp => hQ _ _ _ _ _ q (Step.allocT S hp) (S.allocT hp ⟨p, vs, rfl, rfl, upd_same, h⟩)
  hs := fun ns p q hp => hQ _ _ _ _ _ q (Step.allocT S hp) (S.allocT hp ⟨p, rfl, rfl, upd_same⟩)
/-! ### names and constants -/
@[reducible] def wVar (i : Nat) : Wd := fun ρ Q _ => match getA ρ i with
  | .un => False
  | .fz d => Q (.val d) ρ
  | .ow _ => Q (.loc i) ρ
  | .pr _ _ => Q (.loc i) ρ
@[reducible] def wC (d : D) : Wd := fun ρ Q _ => Q (.val d) ρ
section
variable {w : World} {W : WX} {P : List V}
theorem se_var (i : Nat) : SE w W P (tVar i) (wVar i) := by
  intro F L H τ ρ σ Q Q' E' S hQ hE h
  unfold wVar at h
  have q := S.slot (i := i)
  cases e : getA ρ i with
  | un => simp only [e] at h
  | fz d =>
    simp only [e] at h
    rw [e] at q
    obtain ⟨v, e1, q⟩ := q (fun z => by cases z)
    exact ⟨v, e1, hQ _ _ _ _ _ _ h .refl (S.push q)⟩
  | ow d =>
    simp only [e] at h
    rw [e] at q
    obtain ⟨v, e1, q⟩ := q (fun z => by cases z)
    exact ⟨v, e1, hQ _ _ _ _ _ _ h .refl (S.pushL e1)⟩
  | pr k d =>
    simp only [e] at h
    rw [e] at q
    obtain ⟨v, e1, _, q⟩ := q (fun z => by cases z)
    exact ⟨v, e1, hQ _ _ _ _ _ _ h .refl (S.pushL e1)⟩
theorem se_c {d : D} {v : V} (r : ∀ F, Rp w F d v) : SE w W P (tC v) (wC d) := by
  intro F L H τ ρ σ Q Q' E' S hQ hE h
  exact hQ _ _ _ _ _ _ h .refl (S.push (r F))
/-! ### operators -/
@[reducible] def wOp2 (op : D → D → (R → Prop) → Prop) (wa wb : Wd) : Wd := fun ρ Q E => wa ρ (fun ra ρ1 => wb ρ1 (fun rb ρ2 => wD ρ2 ra fun d => wD ρ2 rb fun e => op d e fun r => Q r ρ2) E) E
def PO2 (w : World) (r : R2) (op : D → D → (R → Prop) → Prop) : Prop := ∀ (F H : Hp) (x y : V) (d e : D) (Q : VK) (Q' : R → Prop), (∀ a o, F a = some o → Sb H a o) → Pk w F H d x → Pk w F H e y → Kon w F H Q Q' → op d e Q' → r x y H Q
theorem se_op2 {r : R2} {op : D → D → (R → Prop) → Prop} {ta tb : TE} {wa wb : Wd} (ho : PO2 w r op) (ha : SE w W P ta wa) (hb : SE w W P tb wb) : SE w W P (tOp r ta tb) (wOp2 op wa wb) := by
  intro F L H τ ρ σ Q Q' E' S hQ hE h
  refine ha F L H τ ρ σ _ _ E' S (fun ra ρ1 va F1 L1 H1 h1 s1 S1 => ?_) hE h
  refine hb F1 L1 H1 _ ρ1 σ _ _ E' S1 (fun rb ρ2 vb F2 L2 H2 h2 s2 S2 => ?_) (hE.step s1) h1
  obtain ⟨d, e1, h2⟩ := wD_ex h2
  obtain ⟨e, e2, h2⟩ := wD_ex h2
  refine ho F2 H2 va vb d e Q _ S2.sub (S2.pk (p := (ra, va)) (by simp) e1) (S2.pk (p := (rb, vb)) (by simp) e2) (Kon.of S2.pop.pop fun r v F' L' H' q s S' => ?_) h2
  exact hQ _ _ _ _ _ _ q ((s1.trans s2).trans s) S'
@[reducible] def wUn (op : D → (R → Prop) → Prop) (wa : Wd) : Wd := fun ρ Q E => wa ρ (fun ra ρ1 => wD ρ1 ra fun d => op d fun r => Q r ρ1) E
def PO1 (w : World) (r : V → Hp → VK → Prop) (op : D → (R → Prop) → Prop) : Prop := ∀ (F H : Hp) (x : V) (d : D) (Q : VK) (Q' : R → Prop), (∀ a o, F a = some o → Sb H a o) → Pk w F H d x → Kon w F H Q Q' → op d Q' → r x H Q
theorem se_un {r : V → Hp → VK → Prop} {op : D → (R → Prop) → Prop} {ta : TE} {wa : Wd} (ho : PO1 w r op) (ha : SE w W P ta wa) : SE w W P (tUn r ta) (wUn op wa) := by
  intro F L H τ ρ σ Q Q' E' S hQ hE h
  refine ha F L H τ ρ σ _ _ E' S (fun ra ρ1 va F1 L1 H1 h1 s1 S1 => ?_) hE h
  obtain ⟨d, e1, h1⟩ := wD_ex h1
  refine ho F1 H1 va d Q _ S1.sub (S1.pk (p := (ra, va)) (by simp) e1) (Kon.of S1.pop fun r v F' L' H' q s S' => ?_) h1
  exact hQ _ _ _ _ _ _ q (s1.trans s) S'
/-! ### argument lists, displays -/
@[reducible] def wNil : Wa := fun ρ Q _ => Q [] ρ
@[reducible] def wCons (wa : Wd) (wr : Wa) : Wa := fun ρ Q E => wa ρ (fun r ρ1 => wr ρ1 (fun rs ρ2 => Q (r :: rs) ρ2) E) E
theorem sa_nil : SA w W P tNil wNil := by
  intro F L H τ ρ σ Q Q' E' S hQ hE h
  exact hQ [] ρ F L H h .refl S
theorem sa_cons {ta : TE} {tr : TA} {wa : Wd} {wr : Wa} (ha : SE w W P ta wa) (hr : SA w W P tr wr) : SA w W P (tCons ta tr) (wCons wa wr) := by
  intro F L H τ ρ σ Q Q' E' S hQ hE h
  refine ha F L H τ ρ σ _ _ E' S (fun ra ρ1 va F1 L1 H1 h1 s1 S1 => ?_) hE h
  refine hr F1 L1 H1 _ ρ1 σ _ _ E' S1 (fun ps ρ2 F2 L2 H2 h2 s2 S2 => ?_) (hE.step s1) h1
  refine hQ ((ra, va) :: ps) ρ2 F2 L2 H2 h2 (s1.trans s2) ?_
  rw [List.reverse_cons, List.append_assoc]
  exact S2
/-- one operand becomes data: an owned object that a name holds is frozen -/
@[reducible] def wF (ρ : Env) (r : R) (k : D → Env → Prop) : Prop := match r with
  | .val d => k d ρ
  | .new d => k d ρ
  | .loc i => match getA ρ i with
    | .ow d => k d (setA ρ i (.fz d))
    | .fz d => k d ρ
    | _ => False
  | .any => False
/-- the operand at the top becomes data -/
theorem St.wF {F : Hp} {L : Lbs} {H : Hp} {τ : List (R × V)} {ρ : Env} {σ : L2.St} {r : R} {v : V} {k : D → Env → Prop} (S : St w P F L H ((r, v) :: τ) ρ σ) (h : wF ρ r k) :
    ∃ d ρ' F' L', k d ρ' ∧ Step F L H F' L' H ∧ St w P F' L' H ((.val d, v) :: τ) ρ' σ := by
  unfold Fl.wF at h
  cases r with
  | any => exact h.elim
  | val d => exact ⟨d, ρ, F, L, h, .refl, S⟩
  | new d => exact ⟨d, ρ, _, _, h, Step.frz S _, S.frzT⟩
  | loc i =>
    have t : σ[i]? = some (some v) := S.tm.1
    cases e : getA ρ i with
    | un => simp only [e] at h
    | pr k' d => simp only [e] at h
    | fz d =>
      simp only [e] at h
      have q := S.slot (i := i) (by rw [e]; exact fun z => by cases z)
      rw [e] at q
      obtain ⟨v', e1, q⟩ := q
      rw [t] at e1; cases e1
      exact ⟨d, ρ, F, L, h, .refl, S.pop.push q⟩
    | ow d =>
      simp only [e] at h
      obtain ⟨S', rp⟩ := S.pop.frzS e t
      exact ⟨d, _, _, _, h, Step.frz S.pop _, S'.push rp⟩
/-- all become data, from the left -/
@[reducible] def wFs : Env → List R → (List D → Env → Prop) → Prop
  | ρ, [], k => k [] ρ
  | ρ, r :: rs, k => wF ρ r fun d ρ1 => wFs ρ1 rs fun ds ρ2 => k (d :: ds) ρ2
end
end Fl

set_option Elab.async false
set_option linter.all false
set_option maxRecDepth 100000
set_option maxHeartbeats 4000000
/-! FlD: operators by data -/
namespace Fl
open PySem PySem.Spec PyProof.Rows L2
/-! ### rules by values that HandS does not hold -/
theorem list_extend_tup (l : Addr) (items : Array Value) (n : Nat) (b : Addr) (items2 : Array Value) (n2 : Nat) (dd : Option Addr) (sl : Array (Option Value)) (hs0 : ¬(!items.isEmpty && Builtin.List.listTooLong (items.size + items2.size)) = true) (hs1 : items.size ≤ sizeLine) (hs2 : items.size + items2.size ≤ sizeLine + 1) :
    Meets (Builtin.«list.extend» ⟨[.ref l, .ref b], []⟩) (fun _ R s => s.heap.get? l = some { cls := .type "list", dict := none, data := .seq items n, slots := #[] } ∧ s.heap.get? b = some { cls := .type "tuple", dict := dd, data := .seq items2 n2, slots := sl } ∧ R (.ok (.ret Value.none)) { s with heap := s.heap.update l (Obj.mapSeq fun x => x ++ items2), toks := s.toks }) :=
  .of_wp fun prog w A R s h => by
    obtain ⟨hp, g, d, tk, os⟩ := s; obtain ⟨hl, hb, h⟩ := h; have f1 := AutoSeq1.idx_int; have f2 := AutoSeq1.sub_tuple_tuple; have f3 := AutoSeq1.sub_list_list; have f4 := AutoSeq1.sub_tuple_list; have f5 := AutoSeq1.sub_list_tuple;
    have hz' : (items ++ items2).size ≤ sizeLine + 1 := by rw [Array.size_append]; exact hs2
    wp_walk using (wpAny_updateSeq hl rfl (hz := hs1) (_hz' := hz')), AutoSeq1.wpAny_loadPart' hl, AutoSeq1.wpAny_loadPart' hb; exact ⟨_, rfl, h⟩
section
variable {X : Cx} {pins : List (Addr × Obj)} {σ : L2.St} {H : Hp} {s : Shared} {l b : Addr} {xs ys zs : List V}
theorem Inv.lstR (I : Inv X pins σ H s) (hH : Rd H l (.lst xs)) : xs.length ≤ sizeLine ∧ ∃ (its : List Value) (n : Nat), Vals xs its ∧ xs.length = its.length ∧ s.heap.get? l = some { cls := .type "list", data := .seq its.toArray n } := by
  obtain ⟨z, its, n, r, e⟩ := hH.ok I.hok
  exact ⟨z, its, n, r, r.length, e⟩
def rCatR : R2 := fun x y H Q => ∃ l b xs zs, x = .ref l ∧ y = .ref b ∧ Rd H l (.lst xs) ∧ Rd H b (.lst zs) ∧ xs.length + zs.length ≤ sizeLine ∧ ∀ p, H p = none → Q (.ref p) (upd H p (.lst (xs ++ zs)))
theorem op_catR : OpR X (binaryOp .Add) rCatR := by
  intro pins s σ H x y v u Q I rx ry h
  obtain ⟨l, b, xs, zs, rfl, rfl, hH, hB, hz, q⟩ := h
  cases rx
  cases ry
  obtain ⟨z, its, n, r, hl, e⟩ := Inv.lstR I hH
  obtain ⟨z2, its2, n2, r2, hl2, e2⟩ := Inv.lstR I hB
  refine PySem.P.add_list e e2 ?_ (by rw [List.size_toArray, List.size_toArray]; omega)
  have ea : its.toArray ++ its2.toArray = (its ++ its2).toArray := by simp
  rw [ea]
  exact ⟨.ref _, _, I.lnew (t' := s.toks) (r.append r2) (by rw [List.length_append]; omega), rfl, q _ I.fresh⟩
def rExtS (K : PySem.W.Frag) : V → List V → Hp → VK → Prop := fun x vs H Q => ∃ l b xs zs, x = .ref l ∧ vs = [.ref b] ∧ H l = some (.lst xs) ∧ (Rd H b (.lst zs) ∨ SqT K H b zs) ∧ xs.length + zs.length ≤ sizeLine ∧ Q .non (upd H l (.lst (xs ++ zs)))
theorem mt_extS : MtM X "list.extend" (rExtS X.K) := by
  intro pins s σ H x vs v us Q I rx rv h
  obtain ⟨l, b, xs, zs, rfl, rfl, hH, hB, hz, q⟩ := h
  cases rx
  obtain ⟨u, rfl, ru⟩ := rv.one
  cases ru
  obtain ⟨z, its, n, r, hl, e⟩ := I.lstM hH
  rcases hB with hB | hB
  · obtain ⟨z2, its2, n2, r2, hl2, e2⟩ := Inv.lstR I hB
    have hsz : its.toArray.size + its2.toArray.size ≤ sizeLine := by rw [List.size_toArray, List.size_toArray]; omega
    have hlong : ¬ (!its.toArray.isEmpty && Builtin.List.listTooLong (its.toArray.size + its2.toArray.size)) = true := by
      rw [notLongL hsz, Bool.and_false]
      exact Bool.false_ne_true
    refine call_meets F.slot_list_extend ⟨_, e, rfl⟩ F.entry_list_extend (F.args_list_extend_2 _ _)
      (AutoSeq1.list_extend_list_list_0 l its.toArray n b its2.toArray n2 hlong (by rw [List.size_toArray]; omega) (by omega)) ⟨e, e2, ?_⟩
    refine ⟨.non, _, I.lset (its' := its ++ its2) hH e (by simp) (r.append r2) ?_, rfl, q⟩
    rw [List.length_append]
    omega
  · obtain ⟨its2, r2, ⟨o2, ho2, hc2, n2, hd2⟩, z2⟩ := I.tuple hB
    have hl2 := r2.length
    have hsz : its.toArray.size + its2.toArray.size ≤ sizeLine := by rw [List.size_toArray, List.size_toArray]; omega
    have hlong : ¬ (!its.toArray.isEmpty && Builtin.List.listTooLong (its.toArray.size + its2.toArray.size)) = true := by
      rw [notLongL hsz, Bool.and_false]
      exact Bool.false_ne_true
    obtain ⟨oc2, od2, oda2, osl2⟩ := o2
    simp only at hc2 hd2
    subst hc2
    subst hd2
    refine call_meets F.slot_list_extend ⟨_, e, rfl⟩ F.entry_list_extend (F.args_list_extend_2 _ _)
      (list_extend_tup l its.toArray n b its2.toArray n2 od2 osl2 hlong (by rw [List.size_toArray]; omega) (by omega)) ⟨e, ho2, ?_⟩
    refine ⟨.non, _, I.lset (its' := its ++ its2) hH e (by simp) (r.append r2) ?_, rfl, q⟩
    rw [List.length_append]
    omega
end
/-! ### data as the model's data -/
mutual
def D.py : D → PyData
  | .non => .none
  | .bl b => .bool b
  | .int i => .int i
  | .str z => .str z
  | .tup xs => .tuple (pys xs)
  | .lst xs => .list (pys xs)
  | .ty _ => .dict []
  | .adr _ => .dict []
  | .dic _ => .dict []
  | .dit _ => .dict []
  | .set _ => .dict []
  | .ins _ _ => .dict []
def pys : List D → List PyData
  | [] => []
  | x :: xs => x.py :: pys xs
end
section
variable {K : PySem.W.Frag} {w : World} {F H : Hp}
theorem Sb.sqL {a : Addr} {vs : List V} (h : Sb H a (.lst vs)) : SqL K H a vs := .inl h.rd
theorem Sb.sqT {a : Addr} {vs : List V} (h : Sb H a (.tup vs)) : SqT K H a vs := .inl h.rd
mutual
theorem Rp.dp (sub : ∀ a o, F a = some o → Sb H a o) : ∀ {d : D} {v : V}, Rp w F d v → d.py.canLay0 = true → Dp K H v d.py
  | .non, _, h, _ => by unfold Rp at h; subst h; exact .non
  | .bl b, _, h, _ => by unfold Rp at h; subst h; exact .bl b
  | .int b, _, h, _ => by unfold Rp at h; subst h; exact .int b
  | .str b, _, h, _ => by unfold Rp at h; subst h; exact .str b
  | .tup ds, _, h, c => by
    unfold Rp at h
    obtain ⟨a, vs, rfl, h1, h2⟩ := h
    exact .tup (sub _ _ h1).sqT (Rps.dp sub h2 (by unfold D.py at c; unfold PyData.canLay0 at c; exact c))
  | .lst ds, _, h, c => by
    unfold Rp at h
    obtain ⟨a, vs, rfl, h1, h2⟩ := h
    exact .lst (sub _ _ h1).sqL (Rps.dp sub h2 (by unfold D.py at c; unfold PyData.canLay0 at c; exact c))
  | .ty _, _, _, c => by unfold D.py at c; unfold PyData.canLay0 at c; cases c
  | .adr _, _, _, c => by unfold D.py at c; unfold PyData.canLay0 at c; cases c
  | .dic _, _, _, c => by unfold D.py at c; unfold PyData.canLay0 at c; cases c
  | .dit _, _, _, c => by unfold D.py at c; unfold PyData.canLay0 at c; cases c
  | .set _, _, _, c => by unfold D.py at c; unfold PyData.canLay0 at c; cases c
  | .ins _ _, _, _, c => by unfold D.py at c; unfold PyData.canLay0 at c; cases c
theorem Rps.dp (sub : ∀ a o, F a = some o → Sb H a o) : ∀ {ds : List D} {vs : List V}, Rps w F ds vs → PyData.canLayAll0 (pys ds) = true → DpAll K H vs (pys ds)
  | [], _, h, _ => by unfold Rps at h; subst h; exact .nil
  | d :: ds, _, h, c => by
    unfold Rps at h
    obtain ⟨v, r, rfl, h1, h2⟩ := h
    unfold pys at c
    unfold PyData.canLayAll0 at c
    rw [Bool.and_eq_true] at c
    exact .cons (Rp.dp sub h1 c.1) (Rps.dp sub h2 c.2)
end
theorem Pk.dp (sub : ∀ a o, F a = some o → Sb H a o) {d : D} {v : V} (h : Pk w F H d v) (c : d.py.canLay0 = true) : Dp K H v d.py := by
  cases d with
  | tup ds => exact Rp.dp (w := w) sub (d := .tup ds) h c
  | lst ds => obtain ⟨a, vs, rfl, h1, h2⟩ := h; exact .lst (.inl h1) (Rps.dp sub h2 (by unfold D.py at c; unfold PyData.canLay0 at c; exact c))
  | non => exact Rp.dp (w := w) sub (d := .non) h c
  | bl b => exact Rp.dp (w := w) sub (d := .bl b) h c
  | int b => exact Rp.dp (w := w) sub (d := .int b) h c
  | str b => exact Rp.dp (w := w) sub (d := .str b) h c
  | ty _ => unfold D.py at c; unfold PyData.canLay0 at c; cases c
  | adr _ => unfold D.py at c; unfold PyData.canLay0 at c; cases c
  | dic _ => unfold D.py at c; unfold PyData.canLay0 at c; cases c
  | dit _ => unfold D.py at c; unfold PyData.canLay0 at c; cases c
  | set _ => unfold D.py at c; unfold PyData.canLay0 at c; cases c
  | ins _ _ => unfold D.py at c; unfold PyData.canLay0 at c; cases c
theorem Rps.len : ∀ {ds : List D} {vs : List V}, Rps w F ds vs → vs.length = ds.length
  | [], _, h => by unfold Rps at h; subst h; rfl
  | d :: ds, _, h => by
    unfold Rps at h
    obtain ⟨v, r, rfl, h1, h2⟩ := h
    rw [List.length_cons, List.length_cons, Rps.len h2]
theorem Rps.app : ∀ {ds es : List D} {vs us : List V}, Rps w F ds vs → Rps w F es us → Rps w F (ds ++ es) (vs ++ us)
  | [], _, _, _, h, h' => by unfold Rps at h; subst h; exact h'
  | d :: ds, es, _, us, h, h' => by
    unfold Rps at h
    obtain ⟨v, r, rfl, h1, h2⟩ := h
    rw [List.cons_append, List.cons_append]
    unfold Rps
    exact ⟨v, r ++ us, rfl, h1, Rps.app h2 h'⟩
theorem Rps.one {d : D} {v : V} (h : Rp w F d v) : Rps w F [d] [v] := by
  unfold Rps
  exact ⟨v, [], rfl, h, by unfold Rps; rfl⟩
theorem Rps.nil : Rps w F [] [] := by unfold Rps; rfl
theorem Rps.cons {d : D} {v : V} {ds : List D} {vs : List V} (h : Rp w F d v) (h' : Rps w F ds vs) : Rps w F (d :: ds) (v :: vs) := by
  unfold Rps
  exact ⟨v, vs, rfl, h, h'⟩
theorem Rps.get : ∀ {ds : List D} {vs : List V} {j : Nat} {d : D}, Rps w F ds vs → ds[j]? = some d → ∃ v, vs[j]? = some v ∧ Rp w F d v
  | [], _, _, _, _, e => by cases e
  | x :: ds, _, 0, d, h, e => by
    unfold Rps at h
    obtain ⟨v, r, rfl, h1, h2⟩ := h
    cases e
    exact ⟨v, rfl, h1⟩
  | x :: ds, _, j + 1, d, h, e => by
    unfold Rps at h
    obtain ⟨v, r, rfl, h1, h2⟩ := h
    rw [List.getElem?_cons_succ] at e ⊢
    exact Rps.get h2 e
theorem Rps.take : ∀ {ds : List D} {vs : List V} (n : Nat), Rps w F ds vs → Rps w F (ds.take n) (vs.take n)
  | _, _, 0, _ => by rw [List.take_zero, List.take_zero]; exact Rps.nil
  | [], _, n + 1, h => by unfold Rps at h; subst h; exact Rps.nil
  | x :: ds, _, n + 1, h => by
    unfold Rps at h
    obtain ⟨v, r, rfl, h1, h2⟩ := h
    exact Rps.cons h1 (Rps.take n h2)
theorem Rps.drop : ∀ {ds : List D} {vs : List V} (n : Nat), Rps w F ds vs → Rps w F (ds.drop n) (vs.drop n)
  | _, _, 0, h => h
  | [], _, n + 1, h => by unfold Rps at h; subst h; exact Rps.nil
  | x :: ds, _, n + 1, h => by
    unfold Rps at h
    obtain ⟨v, r, rfl, h1, h2⟩ := h
    exact Rps.drop n h2
theorem Rps.rev : ∀ {ds : List D} {vs : List V}, Rps w F ds vs → Rps w F ds.reverse vs.reverse
  | [], _, h => by unfold Rps at h; subst h; exact Rps.nil
  | x :: ds, _, h => by
    unfold Rps at h
    obtain ⟨v, r, rfl, h1, h2⟩ := h
    rw [List.reverse_cons, List.reverse_cons]
    exact (Rps.rev h2).app (Rps.one h1)
theorem Rps.set : ∀ {ds : List D} {vs : List V} (j : Nat) {d : D} {v : V}, Rps w F ds vs → Rp w F d v → Rps w F (ds.set j d) (vs.set j v)
  | [], _, _, _, _, h, _ => by unfold Rps at h; subst h; exact Rps.nil
  | x :: ds, _, 0, d, v, h, hd => by
    unfold Rps at h
    obtain ⟨v, r, rfl, h1, h2⟩ := h
    exact Rps.cons hd h2
  | x :: ds, _, j + 1, d, v, h, hd => by
    unfold Rps at h
    obtain ⟨v, r, rfl, h1, h2⟩ := h
    exact Rps.cons h1 (Rps.set j h2 hd)
theorem Rps.erase : ∀ {ds : List D} {vs : List V} (j : Nat), Rps w F ds vs → Rps w F (ds.eraseIdx j) (vs.eraseIdx j)
  | [], _, _, h => by unfold Rps at h; subst h; exact Rps.nil
  | x :: ds, _, 0, h => by
    unfold Rps at h
    obtain ⟨v, r, rfl, h1, h2⟩ := h
    exact h2
  | x :: ds, _, j + 1, h => by
    unfold Rps at h
    obtain ⟨v, r, rfl, h1, h2⟩ := h
    exact Rps.cons h1 (Rps.erase j h2)
theorem Rps.rep {ds : List D} {vs : List V} (h : Rps w F ds vs) : ∀ k, Rps w F (List.replicate k ds).flatten (List.replicate k vs).flatten
  | 0 => Rps.nil
  | k + 1 => by
    rw [List.replicate_succ, List.replicate_succ, List.flatten_cons, List.flatten_cons]
    exact h.app (Rps.rep h k)
/-- lists of ints, of flags -/
theorem Rps.ints : ∀ {ns : List Int} {vs : List V}, Rps w F (ns.map D.int) vs → vs = ns.map V.int
  | [], _, h => by rw [List.map_nil] at h; unfold Rps at h; subst h; rfl
  | n :: ns, _, h => by
    rw [List.map_cons] at h
    unfold Rps at h
    obtain ⟨v, r, rfl, h1, h2⟩ := h
    unfold Rp at h1
    rw [h1, Rps.ints h2]
    rfl
theorem Rps.ofInts : ∀ {ns : List Int}, Rps w F (ns.map D.int) (ns.map V.int)
  | [] => Rps.nil
  | n :: ns => Rps.cons (by unfold Rp; rfl) (Rps.ofInts (ns := ns))
theorem Rps.bls : ∀ {ns : List Bool} {vs : List V}, Rps w F (ns.map D.bl) vs → vs = ns.map V.bl
  | [], _, h => by rw [List.map_nil] at h; unfold Rps at h; subst h; rfl
  | n :: ns, _, h => by
    rw [List.map_cons] at h
    unfold Rps at h
    obtain ⟨v, r, rfl, h1, h2⟩ := h
    unfold Rp at h1
    rw [h1, Rps.bls h2]
    rfl
end
/-- all ints, all flags -/
def ints? : List D → Option (List Int)
  | [] => some []
  | .int i :: r => (ints? r).map (i :: ·)
  | _ :: _ => none
theorem ints?_map : ∀ ns : List Int, ints? (ns.map D.int) = some ns
  | [] => rfl
  | n :: ns => by
    show (ints? (ns.map D.int)).map (n :: ·) = _
    rw [ints?_map ns]
    rfl
theorem ints?_of : ∀ {ds : List D} {ns : List Int}, ints? ds = some ns → ds = ns.map D.int
  | [], _, h => by cases h; rfl
  | .int i :: r, ns, h => by
    unfold ints? at h
    cases e : ints? r with
    | none => rw [e] at h; cases h
    | some ms =>
      rw [e] at h
      cases h
      rw [ints?_of e]
      rfl
  | .non :: _, _, h => by cases h
  | .bl _ :: _, _, h => by cases h
  | .str _ :: _, _, h => by cases h
  | .ty _ :: _, _, h => by cases h
  | .adr _ :: _, _, h => by cases h
  | .tup _ :: _, _, h => by cases h
  | .lst _ :: _, _, h => by cases h
  | .dic _ :: _, _, h => by cases h
  | .dit _ :: _, _, h => by cases h
  | .set _ :: _, _, h => by cases h
  | .ins _ _ :: _, _, h => by cases h
def bls? : List D → Option (List Bool)
  | [] => some []
  | .bl i :: r => (bls? r).map (i :: ·)
  | _ :: _ => none
theorem bls?_map : ∀ ns : List Bool, bls? (ns.map D.bl) = some ns
  | [] => rfl
  | n :: ns => by
    show (bls? (ns.map D.bl)).map (n :: ·) = _
    rw [bls?_map ns]
    rfl
theorem bls?_of : ∀ {ds : List D} {ns : List Bool}, bls? ds = some ns → ds = ns.map D.bl
  | [], _, h => by cases h; rfl
  | .bl i :: r, ns, h => by
    unfold bls? at h
    cases e : bls? r with
    | none => rw [e] at h; cases h
    | some ms =>
      rw [e] at h
      cases h
      rw [bls?_of e]
      rfl
  | .non :: _, _, h => by cases h
  | .int _ :: _, _, h => by cases h
  | .str _ :: _, _, h => by cases h
  | .ty _ :: _, _, h => by cases h
  | .adr _ :: _, _, h => by cases h
  | .tup _ :: _, _, h => by cases h
  | .lst _ :: _, _, h => by cases h
  | .dic _ :: _, _, h => by cases h
  | .dit _ :: _, _, h => by cases h
  | .set _ :: _, _, h => by cases h
  | .ins _ _ :: _, _, h => by cases h
end Fl

set_option Elab.async false
set_option linter.all false
set_option maxRecDepth 100000
set_option maxHeartbeats 4000000
/-! FlE: operators, comparisons, subscripts, slices by data -/
namespace Fl
open PySem PySem.Spec PyProof.Rows L2
section
variable {w : World} {F H : Hp} {x : V}
theorem Pk.int {i : Int} (h : Pk w F H (.int i) x) : x = .int i := by unfold Pk at h; unfold Rp at h; exact h
theorem Pk.bl {i : Bool} (h : Pk w F H (.bl i) x) : x = .bl i := by unfold Pk at h; unfold Rp at h; exact h
theorem Pk.str {i : Str} (h : Pk w F H (.str i) x) : x = .str i := by unfold Pk at h; unfold Rp at h; exact h
theorem Pk.non (h : Pk w F H .non x) : x = .non := by unfold Pk at h; unfold Rp at h; exact h
theorem Pk.ty {n : String} (h : Pk w F H (.ty n) x) : x = .ty n := by unfold Pk at h; unfold Rp at h; exact h
theorem Pk.adr {a : Addr} (h : Pk w F H (.adr a) x) : x = .ref a := by unfold Pk at h; unfold Rp at h; exact h
theorem Pk.tup {ds : List D} (h : Pk w F H (.tup ds) x) : ∃ a vs, x = .ref a ∧ F a = some (.tup vs) ∧ Rps w F ds vs := by unfold Pk at h; unfold Rp at h; exact h
theorem rpInt {i : Int} : Rp w F (.int i) (.int i) := by unfold Rp; rfl
theorem rpBl {i : Bool} : Rp w F (.bl i) (.bl i) := by unfold Rp; rfl
theorem rpStr {i : Str} : Rp w F (.str i) (.str i) := by unfold Rp; rfl
theorem rpNon : Rp w F .non .non := by unfold Rp; rfl
theorem rpTy {n : String} : Rp w F (.ty n) (.ty n) := by unfold Rp; rfl
theorem rpAdr {a : Addr} : Rp w F (.adr a) (.ref a) := by unfold Rp; rfl
end
abbrev Op2 := D → D → (R → Prop) → Prop
abbrev Op1 := D → (R → Prop) → Prop
theorem line_of {n : Nat} (h : n ≤ 1000000) : n ≤ sizeLine := Nat.le_trans h (by decide)
/-! ### arithmetic -/
@[reducible] def opAdd : Op2 := fun d e k => match d, e with
  | .int i, .int j => k (.val (.int (i + j)))
  | .str a, .str b => a.length + b.length ≤ 1000000 ∧ k (.val (.str (a ++ b)))
  | .lst a, .lst b => a.length + b.length ≤ 1000000 ∧ k (.new (.lst (a ++ b)))
  | .tup a, .tup b => a.length + b.length ≤ 1000000 ∧ k (.val (.tup (a ++ b)))
  | _, _ => False
def rAddAll (K : PySem.W.Frag) : R2 := fun x y H Q => (rI0 (fun i j => .int (i + j)) x y H Q ∨ (∃ i j, x = .str i ∧ y = .str j ∧ i.length + j.length ≤ sizeLine ∧ Q (.str (i ++ j)) H)) ∨ (rCatR x y H Q ∨ rCatA K x y H Q)
theorem op_addAll {X : Cx} : OpR X (binaryOp .Add) (rAddAll X.K) := (op_add.or op_add_str).or (op_catR.or op_catA)
theorem po_add {K : PySem.W.Frag} {w : World} : PO2 w (rAddAll K) opAdd := by
  intro F H x y d e Q Q' sub hx hy k h
  unfold opAdd at h
  split at h
  · cases hx.int; cases hy.int
    exact .inl (.inl ⟨_, _, rfl, rfl, k.hv _ _ h rpInt⟩)
  · cases hx.str; cases hy.str
    exact .inl (.inr ⟨_, _, rfl, rfl, line_of h.1, k.hv _ _ h.2 rpStr⟩)
  · obtain ⟨a, vs, rfl, h1, h2⟩ := hx
    obtain ⟨b, us, rfl, h3, h4⟩ := hy
    refine .inr (.inl ⟨a, b, vs, us, rfl, rfl, h1, h3, line_of ?_, fun p hp => k.hl _ _ p h.2 (h2.app h4) hp⟩)
    rw [h2.len, h4.len]
    exact h.1
  · obtain ⟨a, vs, rfl, h1, h2⟩ := hx.tup
    obtain ⟨b, us, rfl, h3, h4⟩ := hy.tup
    rename_i ds es
    refine .inr (.inr ⟨a, b, vs, us, rfl, rfl, (sub _ _ h1).sqT, (sub _ _ h3).sqT, line_of ?_, fun e => ?_, fun _ e => ?_, fun _ _ p hp => k.ht _ _ p h.2 (h2.app h4) hp⟩)
    · rw [h2.len, h4.len]
      exact h.1
    · refine k.hv _ _ h.2 ?_
      unfold Rp
      subst e
      refine ⟨b, us, rfl, h3, ?_⟩
      have z := h2.app h4
      exact z
    · refine k.hv _ _ h.2 ?_
      unfold Rp
      subst e
      refine ⟨a, vs, rfl, h1, ?_⟩
      have z := h2.app h4
      rwa [List.append_nil] at z
  · exact h.elim
@[reducible] def opSub : Op2 := fun d e k => match d, e with
  | .int i, .int j => k (.val (.int (i - j)))
  | _, _ => False
theorem po_int0 {w : World} {g : Int → Int → Int} {op : Op2} (h : ∀ d e k, op d e k → ∃ i j, d = .int i ∧ e = .int j ∧ k (.val (.int (g i j)))) : PO2 w (rI0 fun i j => .int (g i j)) op := by
  intro F H x y d e Q Q' sub hx hy k q
  obtain ⟨i, j, rfl, rfl, q2⟩ := h d e Q' q
  cases hx.int; cases hy.int
  exact ⟨_, _, rfl, rfl, k.hv _ _ q2 rpInt⟩
theorem po_sub {w : World} : PO2 w (rI0 fun i j => .int (i - j)) opSub := po_int0 fun d e k h => by
  unfold opSub at h
  split at h
  · exact ⟨_, _, rfl, rfl, h⟩
  · exact h.elim
/-- % by a positive number, // by a positive number -/
@[reducible] def opMod : Op2 := fun d e k => match d, e with
  | .int i, .int j => 0 < j ∧ k (.val (.int (i % j)))
  | _, _ => False
theorem po_mod {w : World} : PO2 w (rI (fun _ j => 0 < j) fun i j => .int (i % j)) opMod := by
  intro F H x y d e Q Q' sub hx hy k h
  unfold opMod at h
  split at h
  · cases hx.int; cases hy.int
    exact ⟨_, _, rfl, rfl, h.1, k.hv _ _ h.2 rpInt⟩
  · exact h.elim
@[reducible] def opDiv : Op2 := fun d e k => match d, e with
  | .int i, .int j => (0 < j ∧ j < 2 ^ 200) ∧ k (.val (.int (i / j)))
  | _, _ => False
theorem po_div {w : World} : PO2 w (rI CDivW fun i j => .int (i / j)) opDiv := by
  intro F H x y d e Q Q' sub hx hy k h
  unfold opDiv at h
  split at h
  · cases hx.int; cases hy.int
    exact ⟨_, _, rfl, rfl, wide_div (b := 200) h.1.1 (by omega) (by decide) (by decide), k.hv _ _ h.2 rpInt⟩
  · exact h.elim
@[reducible] def opPow : Op2 := fun d e k => match d, e with
  | .int i, .int j => (0 ≤ j ∧ j ≤ 1000000 ∧ i.natAbs < 2 ^ 64) ∧ k (.val (.int (i ^ j.toNat)))
  | _, _ => False
theorem po_pow {w : World} : PO2 w (rI CPow fun i j => .int (i ^ j.toNat)) opPow := by
  intro F H x y d e Q Q' sub hx hy k h
  unfold opPow at h
  split at h
  · cases hx.int; cases hy.int
    exact ⟨_, _, rfl, rfl, h.1, k.hv _ _ h.2 rpInt⟩
  · exact h.elim
@[reducible] def opShl : Op2 := fun d e k => match d, e with
  | .int i, .int j => (0 ≤ j ∧ j ≤ 1000000 ∧ i.natAbs < 2 ^ 64) ∧ k (.val (.int (i * 2 ^ j.toNat)))
  | _, _ => False
theorem po_shl {w : World} : PO2 w (rI CPow fun i j => .int (i * 2 ^ j.toNat)) opShl := by
  intro F H x y d e Q Q' sub hx hy k h
  unfold opShl at h
  split at h
  · cases hx.int; cases hy.int
    exact ⟨_, _, rfl, rfl, h.1, k.hv _ _ h.2 rpInt⟩
  · exact h.elim
@[reducible] def opShr : Op2 := fun d e k => match d, e with
  | .int i, .int j => 0 ≤ j ∧ k (.val (.int (i / 2 ^ j.toNat)))
  | _, _ => False
theorem po_shr {w : World} : PO2 w (rI (fun _ j => 0 ≤ j) fun i j => .int (i / 2 ^ j.toNat)) opShr := by
  intro F H x y d e Q Q' sub hx hy k h
  unfold opShr at h
  split at h
  · cases hx.int; cases hy.int
    exact ⟨_, _, rfl, rfl, h.1, k.hv _ _ h.2 rpInt⟩
  · exact h.elim
@[reducible] def opAnd : Op2 := fun d e k => match d, e with
  | .int i, .int j => k (.val (.int (Builtin.bitAnd i j)))
  | _, _ => False
theorem po_and {w : World} : PO2 w (rI0 fun i j => .int (Builtin.bitAnd i j)) opAnd := po_int0 fun d e k h => by
  unfold opAnd at h
  split at h
  · exact ⟨_, _, rfl, rfl, h⟩
  · exact h.elim
def rRepR : R2 := fun x y H Q => ∃ l k xs, x = .ref l ∧ y = .int k ∧ Rd H l (.lst xs) ∧ -(2 ^ 63) ≤ k ∧ k < 2 ^ 63 ∧ xs.length * k.toNat ≤ sizeLine ∧
  ∀ p, H p = none → Q (.ref p) (upd H p (.lst (List.replicate k.toNat xs).flatten))
theorem op_repR {X : Cx} : OpR X (binaryOp .Mult) rRepR := by
  intro pins s σ H x y v u Q I rx ry h
  obtain ⟨l, k, xs, rfl, rfl, hH, h1, h2, hz, q⟩ := h
  cases rx
  obtain ⟨t, rfl⟩ := ry
  obtain ⟨z, its, n, r, hl, e⟩ := Inv.lstR I hH
  have hlen : its.toArray.size * k.toNat ≤ sizeLine := by rw [List.size_toArray, ← hl]; exact hz
  have hcap : ¬ its.toArray.size * k.toNat > (2 ^ 63 - 1) / 8 := by
    have : (sizeLine : Nat) ≤ (2 ^ 63 - 1) / 8 := by decide
    omega
  have hfit : ¬ (!Builtin.List.listFitsIndex k) = true := by
    rw [fitsIndex_both h1 h2]
    exact Bool.false_ne_true
  have hlong : ¬ Builtin.List.listTooLong (its.toArray.size * k.toNat) = true := by
    rw [notLongL hlen]
    exact Bool.false_ne_true
  have hnew : List.foldl (fun x1 x2 => x1 ++ x2) #[] (List.replicate (if its.toArray.isEmpty = true then 0 else k.toNat) its.toArray) = (List.replicate k.toNat its).flatten.toArray := by
    have f0 : ∀ m : Nat, List.foldl (fun x1 x2 => x1 ++ x2) #[] (List.replicate m its.toArray) = (List.replicate m its).flatten.toArray := fun m => by
      have := foldl_rep its m []
      rw [List.nil_append] at this
      exact this
    rw [f0]
    cases its with
    | nil => simp
    | cons a r' => rw [if_neg (by simp)]
  refine wpAny_binaryOp_repeat_ref (T := "list") (U := "int") (by decide) ⟨_, e, rfl⟩ (fun s' => typeIs_int s' k t) noFill_list_mul F.fills_int_mul F.slot_int_rmul repeat_list F.slot_int_index.lookup
    (call_meets F.slot_int_rmul (typeIs_int s k t) F.entry_int_rmul (F.args_int_rmul_2 _ _) (int___rmul___int_list k t l its.toArray n)
      ⟨e, rfl, ⟨_, e, rfl⟩, call_meets F.slot_list_mul ⟨_, e, rfl⟩ F.entry_list_mul (F.args_list_mul_2 _ _) (AutoListH.list___mul___list_int_3 l its.toArray n k t hfit hcap hlong) ⟨e, ?_⟩⟩)
  rw [hnew]
  exact ⟨.ref _, _, I.lnew (t' := s.toks) (r.rep k.toNat) (by rw [PyProof.Rows.lm_len_rep_flat, Nat.mul_comm]; exact hz), rfl, q _ I.fresh⟩
@[reducible] def opMul : Op2 := fun d e k => match d, e with
  | .int i, .int j => (CMul i j ∨ i.natAbs.log2 + j.natAbs.log2 < 1000000) ∧ k (.val (.int (i * j)))
  | .lst a, .int j => (0 ≤ j ∧ j ≤ 1000 ∧ a.length ≤ 1000) ∧ k (.new (.lst (List.replicate j.toNat a).flatten))
  | .tup a, .int j => (2 ≤ j ∧ j ≤ 1000 ∧ a.length ≤ 1000 ∧ a ≠ []) ∧ k (.val (.tup (List.replicate j.toNat a).flatten))
  | _, _ => False
def rMulAll (K : PySem.W.Frag) : R2 := fun x y H Q => (rI CMulW (fun i j => .int (i * j)) x y H Q ∨ rRepT K x y H Q) ∨ (rRepR x y H Q ∨ rI CMul (fun i j => .int (i * j)) x y H Q)
theorem op_mulAll {X : Cx} : OpR X (binaryOp .Mult) (rMulAll X.K) := (op_mulW.or op_repT).or (op_repR.or op_mul)
theorem po_mul {K : PySem.W.Frag} {w : World} : PO2 w (rMulAll K) opMul := by
  intro F H x y d e Q Q' sub hx hy k h
  unfold opMul at h
  split at h
  · cases hx.int; cases hy.int
    rcases h.1 with z | z
    · exact .inr (.inr ⟨_, _, rfl, rfl, z, k.hv _ _ h.2 rpInt⟩)
    · exact .inl (.inl ⟨_, _, rfl, rfl, z, k.hv _ _ h.2 rpInt⟩)
  · cases hy.int
    obtain ⟨a, vs, rfl, h1, h2⟩ := hx
    rename_i ds j
    obtain ⟨⟨q1, q2, q3⟩, q⟩ := h
    have hl := h2.len
    refine .inr (.inl ⟨a, j, vs, rfl, rfl, h1, by omega, by omega, ?_, fun p hp => k.hl _ _ p q (h2.rep _) hp⟩)
    rw [hl]
    exact Nat.le_trans (Nat.mul_le_mul q3 (by omega : j.toNat ≤ 1000)) (by decide)
  · cases hy.int
    obtain ⟨a, vs, rfl, h1, h2⟩ := hx.tup
    rename_i ds j
    obtain ⟨⟨q1, q2, q3, q4⟩, q⟩ := h
    have hl := h2.len
    refine .inl (.inr ⟨a, j, vs, rfl, rfl, (sub _ _ h1).sqT, fun e => q4 ?_, q1, q2, by rw [hl]; exact q3, fun p hp => k.ht _ _ p q (h2.rep _) hp⟩)
    rw [e] at hl
    exact List.eq_nil_of_length_eq_zero hl.symm
  · exact h.elim
@[reducible] def opNeg : Op1 := fun d k => match d with
  | .int i => k (.val (.int (-i)))
  | _ => False
theorem po_neg {w : World} : PO1 w (rU fun i => .int (-i)) opNeg := by
  intro F H x d Q Q' sub hx k h
  unfold opNeg at h
  split at h
  · cases hx.int
    exact ⟨_, rfl, k.hv _ _ h rpInt⟩
  · exact h.elim
/-! ### comparisons -/
@[reducible] def opCmp (f : Int → Int → Bool) : Op2 := fun d e k => match d, e with
  | .int i, .int j => k (.val (.bl (f i j)))
  | _, _ => False
theorem po_cmp {w : World} (f : Int → Int → Bool) : PO2 w (rI0 fun i j => .bl (f i j)) (opCmp f) := by
  intro F H x y d e Q Q' sub hx hy k h
  unfold opCmp at h
  split at h
  · cases hx.int; cases hy.int
    exact ⟨_, _, rfl, rfl, k.hv _ _ h rpBl⟩
  · exact h.elim
/-- < also of tuples of ints -/
@[reducible] def opLt : Op2 := fun d e k => match d, e with
  | .int i, .int j => k (.val (.bl (decide (i < j))))
  | .tup a, .tup b => (match ints? a, ints? b with
    | some ns, some ms => k (.val (.bl (HT.lexLt ns ms)))
    | _, _ => False)
  | _, _ => False
def rLtAll (K : PySem.W.Frag) : R2 := fun x y H Q => rI0 (fun i j => .bl (decide (i < j))) x y H Q ∨ rLtT K x y H Q
theorem op_ltAll {X : Cx} (hu : X.A.units < cLine) : OpR X (compareOp .Lt) (rLtAll X.K) := op_lt.or (op_ltT hu)
theorem po_lt {K : PySem.W.Frag} {w : World} : PO2 w (rLtAll K) opLt := by
  intro F H x y d e Q Q' sub hx hy k h
  unfold opLt at h
  split at h
  · cases hx.int; cases hy.int
    exact .inl ⟨_, _, rfl, rfl, k.hv _ _ h rpBl⟩
  · rename_i a b
    obtain ⟨p, vs, rfl, h1, h2⟩ := hx.tup
    obtain ⟨q, us, rfl, h3, h4⟩ := hy.tup
    split at h
    · rename_i ns ms e1 e2
      rw [ints?_of e1] at h2
      rw [ints?_of e2] at h4
      rw [h2.ints] at h1
      rw [h4.ints] at h3
      exact .inr ⟨p, q, ns, ms, rfl, rfl, (sub _ _ h1).sqT, (sub _ _ h3).sqT, k.hv _ _ h rpBl⟩
    · exact h.elim
  · exact h.elim
/-- ==: ints, flags, texts; any data else -/
@[reducible] def eqD (d e : D) (k : Bool → Prop) : Prop := match d, e with
  | .int i, .int j => k (decide (i = j))
  | .bl i, .bl j => k (decide (i = j))
  | .str i, .str j => k (decide (i = j))
  | .non, .non => k true
  | .non, .int _ => k false
  | .int _, .non => k false
  | .non, .bl _ => k false
  | .bl _, .non => k false
  | .non, .str _ => k false
  | .str _, .non => k false
  | .int _, .str _ => k false
  | .str _, .int _ => k false
  | .bl _, .str _ => k false
  | .str _, .bl _ => k false
  | d, e => (SeqAt.shaped d.py = true ∧ SeqAt.shaped e.py = true) ∧ k (PyData.eqv d.py e.py)
@[reducible] def opEq : Op2 := fun d e k => eqD d e fun b => k (.val (.bl b))
@[reducible] def opNe : Op2 := fun d e k => eqD d e fun b => k (.val (.bl (!b)))
def rEqAll (K : PySem.W.Frag) : R2 := fun x y H Q => rEq x y H Q ∨ rEqD K x y H Q
def rNeAll (K : PySem.W.Frag) : R2 := fun x y H Q => rNe x y H Q ∨ rNeD K x y H Q
theorem op_eqAll {X : Cx} (hu : X.A.units + 64 < cLine) : OpR X (compareOp .Eq) (rEqAll X.K) := op_eq.or (op_eqD hu)
theorem op_neAll {X : Cx} (hu : X.A.units + 64 < cLine) : OpR X (compareOp .NotEq) (rNeAll X.K) := op_ne.or (op_neD hu)
theorem eq_all {K : PySem.W.Frag} {w : World} {F H : Hp} {x y : V} {d e : D} {k : Bool → Prop} (sub : ∀ a o, F a = some o → Sb H a o) (hx : Pk w F H d x) (hy : Pk w F H e y) (h : eqD d e k) :
    (scal x y = true ∧ k (decide (x = y))) ∨ ∃ pd pe, Dp K H x pd ∧ Dp K H y pe ∧ SeqAt.shaped pd = true ∧ SeqAt.shaped pe = true ∧ k (PyData.eqv pd pe) := by
  unfold eqD at h
  split at h
  · cases hx.int; cases hy.int
    rename_i i j
    refine .inl ⟨rfl, ?_⟩
    rw [show decide (V.int i = V.int j) = decide (i = j) from decide_eq_decide.mpr ⟨fun z => by cases z; rfl, fun z => by rw [z]⟩]
    exact h
  · cases hx.bl; cases hy.bl
    rename_i i j
    refine .inl ⟨rfl, ?_⟩
    rw [show decide (V.bl i = V.bl j) = decide (i = j) from decide_eq_decide.mpr ⟨fun z => by cases z; rfl, fun z => by rw [z]⟩]
    exact h
  · cases hx.str; cases hy.str
    rename_i i j
    refine .inl ⟨rfl, ?_⟩
    rw [show decide (V.str i = V.str j) = decide (i = j) from decide_eq_decide.mpr ⟨fun z => by cases z; rfl, fun z => by rw [z]⟩]
    exact h
  · cases hx.non; cases hy.non
    exact .inl ⟨rfl, h⟩
  · cases hx.non; cases hy.int
    exact .inl ⟨rfl, h⟩
  · cases hx.int; cases hy.non
    exact .inl ⟨rfl, h⟩
  · cases hx.non; cases hy.bl
    exact .inl ⟨rfl, h⟩
  · cases hx.bl; cases hy.non
    exact .inl ⟨rfl, h⟩
  · cases hx.non; cases hy.str
    exact .inl ⟨rfl, h⟩
  · cases hx.str; cases hy.non
    exact .inl ⟨rfl, h⟩
  · cases hx.int; cases hy.str
    exact .inl ⟨rfl, h⟩
  · cases hx.str; cases hy.int
    exact .inl ⟨rfl, h⟩
  · cases hx.bl; cases hy.str
    exact .inl ⟨rfl, h⟩
  · cases hx.str; cases hy.bl
    exact .inl ⟨rfl, h⟩
  · obtain ⟨⟨s1, s2⟩, h⟩ := h
    exact .inr ⟨_, _, hx.dp sub (SeqAt.canLay_of_shaped s1), hy.dp sub (SeqAt.canLay_of_shaped s2), s1, s2, h⟩
theorem po_eq {K : PySem.W.Frag} {w : World} : PO2 w (rEqAll K) opEq := by
  intro F H x y d e Q Q' sub hx hy k h
  rcases eq_all (K := K) sub hx hy h with ⟨s, q⟩ | ⟨pd, pe, h1, h2, h3, h4, q⟩
  · exact .inl ⟨s, k.hv _ _ q rpBl⟩
  · exact .inr ⟨pd, pe, h1, h2, h3, h4, k.hv _ _ q rpBl⟩
theorem po_ne {K : PySem.W.Frag} {w : World} : PO2 w (rNeAll K) opNe := by
  intro F H x y d e Q Q' sub hx hy k h
  rcases eq_all (K := K) sub hx hy h with ⟨s, q⟩ | ⟨pd, pe, h1, h2, h3, h4, q⟩
  · exact .inl ⟨s, k.hv _ _ q rpBl⟩
  · exact .inr ⟨pd, pe, h1, h2, h3, h4, k.hv _ _ q rpBl⟩
/-- is, is not: None; flags -/
@[reducible] def opIs (f : Bool → Bool) : Op2 := fun d e k => match d, e with
  | .bl a, .bl b => k (.val (.bl (f (decide (a = b)))))
  | .non, .non => k (.val (.bl (f true)))
  | d, .non => k (.val (.bl (f false)))
  | _, _ => False
def rIsAll : R2 := fun x y H Q => (y = .non ∧ Q (.bl (decide (x = .non))) H) ∨ rIsB x y H Q
def rNotAll : R2 := fun x y H Q => (y = .non ∧ Q (.bl (!decide (x = .non))) H) ∨ rNotB x y H Q
theorem op_isAll {X : Cx} : OpR X (compareOp .Is) rIsAll := op_isN.or op_isBl
theorem op_notAll {X : Cx} : OpR X (compareOp .IsNot) rNotAll := op_notN.or op_notBl
theorem Pk.notNon {w : World} {F H : Hp} {d : D} {x : V} (h : Pk w F H d x) (n : d ≠ .non) : x ≠ .non := by
  intro e
  subst e
  cases d with
  | non => exact n rfl
  | bl b => cases h.bl
  | int b => cases h.int
  | str b => cases h.str
  | ty b => cases h.ty
  | adr b => cases h.adr
  | tup ds => obtain ⟨a, vs, e, _⟩ := h.tup; cases e
  | lst ds => obtain ⟨a, vs, e, _⟩ := h; cases e
  | dic ds => obtain ⟨a, vs, e, _⟩ := h; cases e
  | dit ds => obtain ⟨a, vs, e, _⟩ := h; cases e
  | set ds => obtain ⟨a, e, _⟩ := h; cases e
  | ins C fs => obtain ⟨a, dx, vs, e, _⟩ := h; cases e
theorem is_all {w : World} {F H : Hp} {x y : V} {d e : D} {f : Bool → Bool} {k : R → Prop} (hx : Pk w F H d x) (hy : Pk w F H e y) (h : opIs f d e k) :
    (y = .non ∧ k (.val (.bl (f (decide (x = .non)))))) ∨ ∃ a b, x = .bl a ∧ y = .bl b ∧ k (.val (.bl (f (decide (a = b))))) := by
  unfold opIs at h
  split at h
  · exact .inr ⟨_, _, hx.bl, hy.bl, h⟩
  · refine .inl ⟨hy.non, ?_⟩
    rw [hx.non]
    exact h
  · rename_i n1
    refine .inl ⟨hy.non, ?_⟩
    rw [decide_eq_false (hx.notNon n1)]
    exact h
  · exact h.elim
theorem po_is {w : World} : PO2 w rIsAll (opIs fun b => b) := by
  intro F H x y d e Q Q' sub hx hy k h
  rcases is_all hx hy h with ⟨e, q⟩ | ⟨a, b, e1, e2, q⟩
  · exact .inl ⟨e, k.hv _ _ q rpBl⟩
  · exact .inr ⟨a, b, e1, e2, k.hv _ _ q rpBl⟩
theorem po_not {w : World} : PO2 w rNotAll (opIs fun b => !b) := by
  intro F H x y d e Q Q' sub hx hy k h
  rcases is_all hx hy h with ⟨e, q⟩ | ⟨a, b, e1, e2, q⟩
  · exact .inl ⟨e, k.hv _ _ q rpBl⟩
  · exact .inr ⟨a, b, e1, e2, k.hv _ _ q rpBl⟩
end Fl

set_option Elab.async false
set_option linter.all false
set_option maxRecDepth 100000
set_option maxHeartbeats 4000000
/-! FlF: membership, subscripts, slices, truth by data -/
namespace Fl
open PySem PySem.Spec PyProof.Rows L2
/-! ### keys -/
@[reducible] def key? : D → Option Key
  | .int i => some (.inl i)
  | .str z => some (.inr z)
  | _ => none
@[reducible] def keys? : List D → Option (List Key)
  | [] => some []
  | d :: ds => match key? d, keys? ds with
    | some k, some ks => some (k :: ks)
    | _, _ => none
def lookK {κ : Type} [DecidableEq κ] (kvs : List (κ × D)) (k : κ) : Option D := (kvs.find? fun kv => decide (kv.1 = k)).map (·.2)
def putD {κ : Type} [DecidableEq κ] (kvs : List (κ × D)) (k : κ) (v : D) : List (κ × D) :=
  if (kvs.any fun kv => decide (kv.1 = k)) = true then kvs.map (fun kv => if kv.1 = k then (kv.1, v) else kv) else kvs ++ [(k, v)]
section
variable {w : World} {F H : Hp}
theorem key?_of {d : D} {k : Key} {v : V} (h : key? d = some k) (p : Pk w F H d v) : v = kV k := by
  unfold key? at h
  split at h
  · cases h; exact p.int
  · cases h; exact p.str
  · cases h
theorem keys?_of : ∀ {ds : List D} {ks : List Key} {vs : List V}, keys? ds = some ks → Rps w F ds vs → vs = ks.map kV
  | [], ks, vs, h, p => by
    cases h
    unfold Rps at p
    exact p
  | d :: ds, ks, vs, h, p => by
    unfold keys? at h
    unfold Rps at p
    obtain ⟨v, r, rfl, p1, p2⟩ := p
    cases e1 : key? d with
    | none => rw [e1] at h; cases h
    | some k =>
      cases e2 : keys? ds with
      | none => rw [e1, e2] at h; cases h
      | some ks' =>
        rw [e1, e2] at h
        cases h
        have q : v = kV k := by
          unfold key? at e1
          split at e1
          · cases e1; unfold Rp at p1; exact p1
          · cases e1; unfold Rp at p1; exact p1
          · cases e1
        rw [q, keys?_of e2 p2]
        rfl
theorem RpK.look : ∀ {ks : List (Key × D)} {vs : List (Key × V)} (k : Key), RpK w F ks vs → (lookK ks k = none ∧ valV vs k = none) ∨ ∃ d v, lookK ks k = some d ∧ valV vs k = some v ∧ Rp w F d v
  | [], _, k, h => by unfold RpK at h; subst h; exact .inl ⟨rfl, rfl⟩
  | (j, d) :: ks, _, k, h => by
    unfold RpK at h
    obtain ⟨v, r, rfl, h1, h2⟩ := h
    by_cases e : j = k
    · exact .inr ⟨d, v, by simp [lookK, List.find?, e], by simp [valV, List.find?, e], h1⟩
    · have q := RpK.look k h2
      simpa [lookK, valV, List.find?, e] using q
theorem RpT.look : ∀ {ks : List (List Key × D)} {vs : List (List Key × V)} (k : List Key), RpT w F ks vs → (lookK ks k = none ∧ valV vs k = none) ∨ ∃ d v, lookK ks k = some d ∧ valV vs k = some v ∧ Rp w F d v
  | [], _, k, h => by unfold RpT at h; subst h; exact .inl ⟨rfl, rfl⟩
  | (j, d) :: ks, _, k, h => by
    unfold RpT at h
    obtain ⟨v, r, rfl, h1, h2⟩ := h
    by_cases e : j = k
    · exact .inr ⟨d, v, by simp [lookK, List.find?, e], by simp [valV, List.find?, e], h1⟩
    · have q := RpT.look k h2
      simpa [lookK, valV, List.find?, e] using q
end
/-! ### in -/
def flatD : D → Bool
  | .non => true
  | .bl _ => true
  | .int _ => true
  | .str _ => true
  | _ => false
def memD (d : D) (es : List D) : Bool := es.any fun y => PyData.eqv y.py d.py
@[reducible] def inD (d e : D) (k : Bool → Prop) : Prop := match e with
  | .lst es => ((flatD d && es.all flatD) = true ∨ (SeqAt.shaped d.py = true ∧ SeqAt.shaped (D.lst es).py = true)) ∧ k (memD d es)
  | .tup es => (flatD d && es.all flatD) = true ∧ k (memD d es)
  | .dic kvs => (match key? d with
    | some c => k (lookK kvs c).isSome
    | none => False)
  | .dit kvs => (match d with
    | .tup ds => (match keys? ds with
      | some c => k (lookK kvs c).isSome
      | none => False)
    | _ => False)
  | .set ns => (match d with
    | .int i => k (decide (i ∈ ns))
    | _ => False)
  | _ => False
@[reducible] def opIn : Op2 := fun d e k => inD d e fun b => k (.val (.bl b))
@[reducible] def opNi : Op2 := fun d e k => inD d e fun b => k (.val (.bl (!b)))
section
variable {w : World} {F H : Hp} {K : PySem.W.Frag}
theorem flat_pk {d : D} {v : V} (h : Pk w F H d v) (f : flatD d = true) : flatV v = true ∧ ∀ {e : D} {u : V}, Pk w F H e u → flatD e = true → eqV u v = PyData.eqv e.py d.py := by
  refine ⟨?_, fun {e u} hu fe => ?_⟩
  · cases d <;> simp only [flatD] at f <;> first | exact absurd f (by decide) | skip
    · rw [h.non]; rfl
    · rw [h.bl]; rfl
    · rw [h.int]; rfl
    · rw [h.str]; rfl
  · cases d <;> simp only [flatD] at f <;> first | exact absurd f (by decide) | skip
    all_goals (cases e <;> simp only [flatD] at fe <;> first | exact absurd fe (by decide) | skip)
    all_goals (first | rw [h.non] | rw [h.bl] | rw [h.int] | rw [h.str])
    all_goals (first | rw [hu.non] | rw [hu.bl] | rw [hu.int] | rw [hu.str])
    all_goals (simp [eqV, D.py, PyData.eqv])
theorem flat_all (sub : ∀ a o, F a = some o → Sb H a o) {d : D} {v : V} (h : Pk w F H d v) (f : flatD d = true) : ∀ {es : List D} {us : List V}, Rps w F es us → es.all flatD = true → us.all flatV = true ∧ inV v us = memD d es
  | [], _, hu, _ => by unfold Rps at hu; subst hu; exact ⟨rfl, rfl⟩
  | e :: es, _, hu, fe => by
    unfold Rps at hu
    obtain ⟨u, r, rfl, h1, h2⟩ := hu
    rw [List.all_cons, Bool.and_eq_true] at fe
    obtain ⟨i1, i2⟩ := flat_all sub h f h2 fe.2
    have p1 := Rp.pk sub h1
    refine ⟨?_, ?_⟩
    · rw [List.all_cons, (flat_pk p1 fe.1).1, i1]
      rfl
    · show (eqV u v || inV v r) = (PyData.eqv e.py d.py || memD d es)
      rw [i2, (flat_pk h f).2 p1 fe.1]
theorem pys_map : ∀ xs : List D, pys xs = xs.map D.py
  | [] => rfl
  | x :: xs => by
    show x.py :: pys xs = _
    rw [pys_map xs]
    rfl
end
def rInAll (K : PySem.W.Frag) (w : World) : R2 := fun x y H Q => (rIn K false x y H Q ∨ rInD K x y H Q) ∨ ((∃ a o, y = .ref a ∧ DGet H a x o ∧ Q (.bl o.isSome) H) ∨ rSIn w x y H Q)
def rNiAll (K : PySem.W.Frag) (w : World) : R2 := fun x y H Q => (rIn K true x y H Q ∨ rNotInD K x y H Q) ∨ ((∃ a o, y = .ref a ∧ DGet H a x o ∧ Q (.bl (!o.isSome)) H) ∨ rSNotIn w x y H Q)
theorem op_inDic {X : Cx} (hu : X.A.units + 1 < cLine) : OpR X (compareOp .In) (fun x y H Q => ∃ a o, y = .ref a ∧ DGet H a x o ∧ Q (.bl o.isSome) H) := by
  intro pins s σ H x y v u Q I rx ry h
  obtain ⟨a, o, rfl, g, q⟩ := h
  obtain rfl : u = Value.ref a := ry
  exact d_in hu I g rx fun s' I' => ⟨.bl o.isSome, H, I', rfl, q⟩
theorem op_niDic {X : Cx} (hu : X.A.units + 1 < cLine) : OpR X (compareOp .NotIn) (fun x y H Q => ∃ a o, y = .ref a ∧ DGet H a x o ∧ Q (.bl (!o.isSome)) H) := by
  intro pins s σ H x y v u Q I rx ry h
  obtain ⟨a, o, rfl, g, q⟩ := h
  obtain rfl : u = Value.ref a := ry
  exact d_notIn hu I g rx fun s' I' => ⟨.bl (!o.isSome), H, I', rfl, q⟩
theorem op_inAll {X : Cx} (hu : X.A.units + 65 < cLine) : OpR X (compareOp .In) (rInAll X.K X.w) := (op_in_seq.or (op_inD hu)).or ((op_inDic (by omega)).or or_sin)
theorem op_niAll {X : Cx} (hu : X.A.units + 65 < cLine) : OpR X (compareOp .NotIn) (rNiAll X.K X.w) := (op_notIn_seq.or (op_notInD hu)).or ((op_niDic (by omega)).or or_snotin)
section
variable {w : World} {F H : Hp} {K : PySem.W.Frag}
/-- what in asks of the heap -/
theorem in_all {x y : V} {d e : D} {k : Bool → Prop} (sub : ∀ a o, F a = some o → Sb H a o) (hx : Pk w F H d x) (hy : Pk w F H e y) (h : inD d e k) :
    ((∃ p xs, y = .ref p ∧ (SqL K H p xs ∨ SqT K H p xs) ∧ flatV x = true ∧ xs.all flatV = true ∧ k (inV x xs)) ∨ (∃ d ds, Dp K H x d ∧ Dp K H y (.list ds) ∧ SeqAt.shaped d = true ∧ SeqAt.shaped (.list ds) = true ∧ k (ds.any fun z => PyData.eqv z d))) ∨
    ((∃ a o, y = .ref a ∧ DGet H a x o ∧ k o.isSome) ∨ ∃ c a S n, x = .int c ∧ y = .ref a ∧ H a = some (SetO w a S n) ∧ k (S c)) := by
  unfold inD at h
  split at h
  · rename_i es
    obtain ⟨c, h⟩ := h
    obtain ⟨a, vs, rfl, h1, h2⟩ := id hy
    rcases c with c | ⟨s1, s2⟩
    · rw [Bool.and_eq_true] at c
      obtain ⟨f1, f2⟩ := flat_all sub hx c.1 h2 c.2
      exact .inl (.inl ⟨a, vs, rfl, .inl (.inl h1), (flat_pk hx c.1).1, f1, by rw [f2]; exact h⟩)
    · refine .inl (.inr ⟨_, pys es, hx.dp sub (SeqAt.canLay_of_shaped s1), hy.dp sub (SeqAt.canLay_of_shaped s2), s1, s2, ?_⟩)
      rw [pys_map, List.any_map]
      exact h
  · rename_i es
    obtain ⟨c, h⟩ := h
    obtain ⟨a, vs, rfl, h1, h2⟩ := hy.tup
    rw [Bool.and_eq_true] at c
    obtain ⟨f1, f2⟩ := flat_all sub hx c.1 h2 c.2
    exact .inl (.inl ⟨a, vs, rfl, .inr (sub _ _ h1).sqT, (flat_pk hx c.1).1, f1, by rw [f2]; exact h⟩)
  · obtain ⟨a, vs, rfl, h1, h2⟩ := hy
    split at h
    · rename_i c ec
      refine .inr (.inl ⟨a, _, rfl, .inl ⟨vs, c, h1, key?_of ec hx, rfl⟩, ?_⟩)
      rcases h2.look c with ⟨e1, e2⟩ | ⟨d, v, e1, e2, _⟩
      · rw [e1] at h; rw [e2]; exact h
      · rw [e1] at h; rw [e2]; exact h
    · exact h.elim
  · obtain ⟨a, vs, rfl, h1, h2⟩ := hy
    split at h
    · split at h
      · rename_i c ec
        obtain ⟨b, us, rfl, h3, h4⟩ := hx.tup
        rw [keys?_of ec h4] at h3
        have h5 : H b = some (.tup (c.map kV)) := (sub _ _ h3).ex fun z => z
        refine .inr (.inl ⟨a, _, rfl, .inr ⟨vs, c, b, h1, rfl, h5, rfl⟩, ?_⟩)
        rcases h2.look c with ⟨e1, e2⟩ | ⟨d, v, e1, e2, _⟩
        · rw [e1] at h; rw [e2]; exact h
        · rw [e1] at h; rw [e2]; exact h
      · exact h.elim
    · exact h.elim
  · obtain ⟨a, rfl, h1⟩ := hy
    split at h
    · exact .inr (.inr ⟨_, a, _, _, hx.int, rfl, h1, h⟩)
    · exact h.elim
  · exact h.elim
theorem po_in : PO2 w (rInAll K w) opIn := by
  intro F H x y d e Q Q' sub hx hy k h
  rcases in_all (K := K) sub hx hy h with (⟨p, xs, e1, e2, e3, e4, q⟩ | ⟨d', ds, e1, e2, e3, e4, q⟩) | (⟨a, o, e1, e2, q⟩ | ⟨c, a, S, n, e1, e2, e3, q⟩)
  · exact .inl (.inl ⟨p, xs, e1, e2, e3, e4, k.hv _ _ q rpBl⟩)
  · exact .inl (.inr ⟨d', ds, e1, e2, e3, e4, k.hv _ _ q rpBl⟩)
  · exact .inr (.inl ⟨a, o, e1, e2, k.hv _ _ q rpBl⟩)
  · exact .inr (.inr ⟨c, a, S, n, e1, e2, e3, k.hv _ _ q rpBl⟩)
theorem po_ni : PO2 w (rNiAll K w) opNi := by
  intro F H x y d e Q Q' sub hx hy k h
  rcases in_all (K := K) sub hx hy h with (⟨p, xs, e1, e2, e3, e4, q⟩ | ⟨d', ds, e1, e2, e3, e4, q⟩) | (⟨a, o, e1, e2, q⟩ | ⟨c, a, S, n, e1, e2, e3, q⟩)
  · exact .inl (.inl ⟨p, xs, e1, e2, e3, e4, k.hv _ _ q rpBl⟩)
  · exact .inl (.inr ⟨d', ds, e1, e2, e3, e4, k.hv _ _ q rpBl⟩)
  · exact .inr (.inl ⟨a, o, e1, e2, k.hv _ _ q rpBl⟩)
  · exact .inr (.inr ⟨c, a, S, n, e1, e2, e3, k.hv _ _ q rpBl⟩)
end
/-! ### subscripts -/
@[reducible] def opIx : Op2 := fun d e k => match d with
  | .lst ds => (match e with
    | .int i => ∃ x, atI ds i = some x ∧ k (.val x)
    | _ => False)
  | .tup ds => (match e with
    | .int i => ∃ x, atI ds i = some x ∧ k (.val x)
    | _ => False)
  | .str z => (match e with
    | .int i => z.length ≤ sizeLine ∧ ∃ c, atI z.cps.toList i = some c ∧ k (.val (.str ⟨#[c]⟩))
    | _ => False)
  | .dic kvs => ∃ c x, key? e = some c ∧ lookK kvs c = some x ∧ k (.val x)
  | .dit kvs => (match e with
    | .tup es => ∃ c x, keys? es = some c ∧ lookK kvs c = some x ∧ k (.val x)
    | _ => False)
  | _ => False
def rIxD : R2 := fun x y H Q => ∃ a v, x = .ref a ∧ DGet H a y (some v) ∧ Q v H
theorem ix_dict {X : Cx} (hu : X.A.units + 1 < cLine) : IxR X rIxD := by
  intro value slice pins s σ H x y v u Q I rx ry h hs
  obtain ⟨a, z, rfl, g, q⟩ := h
  obtain rfl : v = Value.ref a := rx
  have hT := dict_typeIs I g
  unfold subscriptTail
  refine wpAny_bind ?_
  rw [getitemInPython_of_ne hT.not_modules]
  refine wpAny_bind (wpAny_specialOf hT PySem.F.slot_dict_getitem.lookup ?_)
  have fin : wpAny (model X.prog X.w) X.A (subscripted slice false (.ref a) u) (fun r s₃ => wpAny (model X.prog X.w) X.A (letTemporaryGo value (.ref a) r >>= fun _ => pure r) (EP X pins σ Q) X.xe s₃) X.xe s := by
    rw [hs]
    exact wpAny_operating (d_getItem hu I g ry fun w' s3 I3 rw' => wpAny_bind (wpAny_letTemporaryGo (wpAny_pure ⟨z, H, I3, rw', q⟩)))
  first
    | exact wpAny_pure (wpAny_bind fin)
    | exact wpAny_bind (wpAny_pure (wpAny_bind fin))
    | exact wpAny_bind fin
def rIxAll (K : PySem.W.Frag) : R2 := fun x y H Q => (rIx K x y H Q) ∨ rIxD x y H Q
theorem ix_all {X : Cx} (hu : X.A.units + 1 < cLine) : IxR X (rIxAll X.K) := ix_seq.or (ix_dict hu)
theorem atI_Rps {w : World} {F : Hp} {ds : List D} {vs : List V} {i : Int} {d : D} (h : Rps w F ds vs) (e : atI ds i = some d) : ∃ v, atI vs i = some v ∧ Rp w F d v := by
  unfold atI at e ⊢
  rw [h.len]
  cases e1 : ixN ds.length i with
  | none => rw [e1] at e; cases e
  | some j =>
    rw [e1] at e
    exact h.get e
theorem po_ix {K : PySem.W.Frag} {w : World} : PO2 w (rIxAll K) opIx := by
  intro F H x y d e Q Q' sub hx hy k h
  unfold opIx at h
  split at h
  · obtain ⟨a, vs, rfl, h1, h2⟩ := hx
    split at h
    · cases hy.int
      obtain ⟨z, ez, h⟩ := h
      obtain ⟨v, ev, rv⟩ := atI_Rps h2 ez
      exact .inl (.inl ⟨a, vs, _, v, rfl, rfl, .inl h1, ev, k.hv _ _ h rv⟩)
    · exact h.elim
  · obtain ⟨a, vs, rfl, h1, h2⟩ := hx.tup
    split at h
    · cases hy.int
      obtain ⟨z, ez, h⟩ := h
      obtain ⟨v, ev, rv⟩ := atI_Rps h2 ez
      exact .inl (.inr (.inl ⟨a, vs, _, v, rfl, rfl, (sub _ _ h1).sqT, ev, k.hv _ _ h rv⟩))
    · exact h.elim
  · cases hx.str
    split at h
    · cases hy.int
      obtain ⟨hz, z, ez, h⟩ := h
      exact .inl (.inr (.inr ⟨_, _, _, rfl, rfl, hz, ez, k.hv _ _ h rpStr⟩))
    · exact h.elim
  · obtain ⟨a, vs, rfl, h1, h2⟩ := hx
    obtain ⟨c, z, ec, ez, h⟩ := h
    rcases h2.look c with ⟨e1, e2⟩ | ⟨d, v, e1, e2, rv⟩
    · rw [e1] at ez; cases ez
    · rw [e1] at ez; cases ez
      exact .inr ⟨a, v, rfl, .inl ⟨vs, c, h1, key?_of ec hy, e2.symm⟩, k.hv _ _ h rv⟩
  · obtain ⟨a, vs, rfl, h1, h2⟩ := hx
    split at h
    · obtain ⟨c, z, ec, ez, h⟩ := h
      obtain ⟨b, us, rfl, h3, h4⟩ := hy.tup
      rw [keys?_of ec h4] at h3
      have h5 : H b = some (.tup (c.map kV)) := (sub _ _ h3).ex fun z => z
      rcases h2.look c with ⟨e1, e2⟩ | ⟨d, v, e1, e2, rv⟩
      · rw [e1] at ez; cases ez
      · rw [e1] at ez; cases ez
        exact .inr ⟨a, v, rfl, .inr ⟨vs, c, b, h1, rfl, h5, e2.symm⟩, k.hv _ _ h rv⟩
    · exact h.elim
  · exact h.elim
end Fl

set_option Elab.async false
set_option linter.all false
set_option maxRecDepth 100000
set_option maxHeartbeats 400000
/-! FlG: truth, calls of built-ins, slices by data -/
namespace Fl
open PySem PySem.Spec PyProof.Rows L2
abbrev OpN := List D → (R → Prop) → Prop
@[reducible] def wDs (ρ : Env) : List R → (List D → Prop) → Prop
  | [], k => k []
  | r :: rs, k => wD ρ r fun d => wDs ρ rs fun ds => k (d :: ds)
theorem wDs_ex {ρ : Env} : ∀ {rs : List R} {k : List D → Prop}, wDs ρ rs k → ∃ ds, rs.map (cD ρ) = ds.map some ∧ k ds
  | [], k, h => ⟨[], rfl, h⟩
  | r :: rs, k, h => by
    obtain ⟨d, e, h⟩ := wD_ex h
    obtain ⟨ds, e2, h⟩ := wDs_ex h
    exact ⟨d :: ds, by rw [List.map_cons, List.map_cons, e, e2], h⟩
def Pks (w : World) (F H : Hp) : List D → List V → Prop
  | [], [] => True
  | d :: ds, v :: vs => Pk w F H d v ∧ Pks w F H ds vs
  | _, _ => False
theorem Pks.one {w : World} {F H : Hp} {d : D} : ∀ {vs : List V}, Pks w F H [d] vs → ∃ v, vs = [v] ∧ Pk w F H d v
  | [], h => h.elim
  | [v], h => ⟨v, rfl, h.1⟩
  | _ :: _ :: _, h => h.2.elim
theorem Pks.two {w : World} {F H : Hp} {d e : D} : ∀ {vs : List V}, Pks w F H [d, e] vs → ∃ v u, vs = [v, u] ∧ Pk w F H d v ∧ Pk w F H e u
  | [], h => h.elim
  | [v], h => h.2.elim
  | [v, u], h => ⟨v, u, rfl, h.1, h.2.1⟩
  | _ :: _ :: _ :: _, h => h.2.2.elim
theorem Pks.nil {w : World} {F H : Hp} : ∀ {vs : List V}, Pks w F H [] vs → vs = []
  | [], h => rfl
  | _ :: _, h => h.elim
section
variable {w : World} {W : WX} {P : List V} {F F' H H' : Hp} {L : Lbs} {τ : List (R × V)} {ρ : Env} {σ : L2.St}
theorem St.popN : ∀ {ps : List (R × V)}, St w P F L H (ps ++ τ) ρ σ → St w P F L H τ ρ σ
  | [], S => S
  | p :: ps, S => St.popN (ps := ps) S.pop
theorem St.pks (S : St w P F L H τ ρ σ) : ∀ {ps : List (R × V)} {ds : List D}, (∀ p ∈ ps, p ∈ τ) → (ps.map (·.1)).map (cD ρ) = ds.map some → Pks w F H ds (ps.map (·.2))
  | [], [], _, _ => True.intro
  | [], d :: ds, _, e => by cases e
  | p :: ps, [], _, e => by cases e
  | p :: ps, d :: ds, m, e => by
    rw [List.map_cons, List.map_cons, List.map_cons] at e
    injection e with e1 e2
    exact ⟨S.pk (m p (by simp)) e1, St.pks S (fun q hq => m q (List.mem_cons_of_mem _ hq)) e2⟩
@[reducible] def wCB (op : OpN) (wa : Wa) : Wd := fun ρ Q E => wa ρ (fun rs ρ1 => wDs ρ1 rs fun ds => op ds fun r => Q r ρ1) E
def PON (w : World) (r : List V → Hp → VK → Prop) (op : OpN) : Prop := ∀ (F H : Hp) (vs : List V) (ds : List D) (Q : VK) (Q' : R → Prop), (∀ a o, F a = some o → Sb H a o) → Pks w F H ds vs → Kon w F H Q Q' → op ds Q' → r vs H Q
theorem se_cb {r : List V → Hp → VK → Prop} {op : OpN} {ta : TA} {wa : Wa} (ho : PON w r op) (ha : SA w W P ta wa) : SE w W P (tCB r ta) (wCB op wa) := by
  intro F L H τ ρ σ Q Q' E' S hQ hE h
  refine ha F L H τ ρ σ _ _ E' S (fun ps ρ1 F1 L1 H1 h1 s1 S1 => ?_) hE h
  obtain ⟨ds, e, h1⟩ := wDs_ex h1
  refine ho F1 H1 _ ds Q _ S1.sub (S1.pks (fun p hp => by simp [hp]) e) (Kon.of S1.popN fun r v F' L' H' q s S' => ?_) h1
  exact hQ _ _ _ _ _ _ q (s1.trans s) S'
/-- a method that changes nothing -/
def PMt (K : PySem.W.Frag) (w : World) (T : String) (r : V → List V → Hp → VK → Prop) (op : D → OpN) : Prop := ∀ (F H : Hp) (x : V) (vs : List V) (d : D) (ds : List D) (Q : VK) (Q' : R → Prop), (∀ a o, F a = some o → Sb H a o) → Pk w F H d x → Pks w F H ds vs → Kon w F H Q Q' → op d ds Q' → r x vs H Q
end
/-! ### truth -/
@[reducible] def truD (d : D) (k : Bool → Prop) : Prop := match d with
  | .non => k false
  | .bl b => k b
  | .int i => k (i != 0)
  | .str z => z.length ≤ sizeLine ∧ k ((z.length : Int) != 0)
  | .lst ds => k (!ds.isEmpty)
  | .tup ds => k (!ds.isEmpty)
  | _ => False
theorem Rps.empty {w : World} {F : Hp} {ds : List D} {vs : List V} (h : Rps w F ds vs) : vs.isEmpty = ds.isEmpty := by
  have e := h.len
  cases ds <;> cases vs <;> first | rfl | (simp at e)
theorem truD_ok {K : PySem.W.Frag} {w : World} {F H : Hp} {d : D} {x : V} {k : Bool → Prop} (sub : ∀ a o, F a = some o → Sb H a o) (hx : Pk w F H d x) (h : truD d k) : ∃ b, TruV K x H b ∧ k b := by
  unfold truD at h
  split at h
  · cases hx.non; exact ⟨false, rfl, h⟩
  · cases hx.bl; exact ⟨_, rfl, h⟩
  · cases hx.int; exact ⟨_, rfl, h⟩
  · cases hx.str; exact ⟨_, ⟨h.1, rfl⟩, h.2⟩
  · obtain ⟨a, vs, rfl, h1, h2⟩ := hx
    exact ⟨_, .inl ⟨vs, .inl h1, rfl⟩, by rw [h2.empty]; exact h⟩
  · obtain ⟨a, vs, rfl, h1, h2⟩ := hx.tup
    exact ⟨_, .inr (.inl ⟨vs, (sub _ _ h1).sqT, rfl⟩), by rw [h2.empty]; exact h⟩
  · exact h.elim
/-! ### built-in functions -/
@[reducible] def opLen : OpN := fun ds k => match ds with
  | [.lst es] => k (.val (.int es.length))
  | [.tup es] => k (.val (.int es.length))
  | [.dic es] => k (.val (.int es.length))
  | [.set ns] => ns.length < 4000 ∧ k (.val (.int (dups ns).length))
  | [.str z] => z.length ≤ sizeLine ∧ k (.val (.int z.length))
  | _ => False
theorem RpK.len {w : World} {F : Hp} : ∀ {ds : List (Key × D)} {vs : List (Key × V)}, RpK w F ds vs → vs.length = ds.length
  | [], _, h => by unfold RpK at h; subst h; rfl
  | (k, d) :: ds, _, h => by
    unfold RpK at h
    obtain ⟨v, r, rfl, h1, h2⟩ := h
    rw [List.length_cons, List.length_cons, RpK.len h2]
theorem RpT.len {w : World} {F : Hp} : ∀ {ds : List (List Key × D)} {vs : List (List Key × V)}, RpT w F ds vs → vs.length = ds.length
  | [], _, h => by unfold RpT at h; subst h; rfl
  | (k, d) :: ds, _, h => by
    unfold RpT at h
    obtain ⟨v, r, rfl, h1, h2⟩ := h
    rw [List.length_cons, List.length_cons, RpT.len h2]
theorem call_lenR {X : Cx} : CallR X (.builtin "len") (fun xs H Q => ∃ a kvs, xs = [V.ref a] ∧ Rd H a (.dK kvs) ∧ Q (.int kvs.length) H) := by
  intro pins s σ H xs us Q I r h
  obtain ⟨a, kvs, rfl, e, q⟩ := h
  obtain rfl := Vals.ref1 r
  exact d_len I e fun t s' I' => ⟨.int kvs.length, H, I', ⟨t, rfl⟩, q⟩
def rLenAll (K : PySem.W.Frag) (w : World) : List V → Hp → VK → Prop := fun xs H Q =>
  (((∃ p ys, xs = [.ref p] ∧ (SqL K H p ys ∨ SqT K H p ys) ∧ Q (.int ys.length) H) ∨ ∃ z, xs = [.str z] ∧ z.length ≤ sizeLine ∧ Q (.int z.length) H) ∨ (∃ a kvs, xs = [V.ref a] ∧ Rd H a (.dK kvs) ∧ Q (.int kvs.length) H)) ∨ My.rLenSet w xs H Q
theorem call_lenAll {X : Cx} : CallR X (.builtin "len") (rLenAll X.K X.w) := ((call_len_seq.or call_len_str).or call_lenR).or My.cr_lenSet
theorem pn_len {K : PySem.W.Frag} {w : World} : PON w (rLenAll K w) opLen := by
  intro F H vs ds Q Q' sub hp k h
  unfold opLen at h
  split at h
  · obtain ⟨v, rfl, hx⟩ := Pks.one hp
    obtain ⟨a, us, rfl, h1, h2⟩ := hx
    exact .inl (.inl (.inl ⟨a, us, rfl, .inl (.inl h1), by rw [h2.len]; exact k.hv _ _ h rpInt⟩))
  · obtain ⟨v, rfl, hx⟩ := Pks.one hp
    obtain ⟨a, us, rfl, h1, h2⟩ := hx.tup
    exact .inl (.inl (.inl ⟨a, us, rfl, .inr (sub _ _ h1).sqT, by rw [h2.len]; exact k.hv _ _ h rpInt⟩))
  · obtain ⟨v, rfl, hx⟩ := Pks.one hp
    obtain ⟨a, us, rfl, h1, h2⟩ := hx
    exact .inl (.inr ⟨a, us, rfl, h1, by rw [h2.len]; exact k.hv _ _ h rpInt⟩)
  · obtain ⟨v, rfl, hx⟩ := Pks.one hp
    obtain ⟨a, rfl, h1⟩ := hx
    exact .inr ⟨a, _, _, rfl, h1, Nat.lt_of_le_of_lt (dups_len _) h.1, k.hv _ _ h.2 rpInt⟩
  · obtain ⟨v, rfl, hx⟩ := Pks.one hp
    cases hx.str
    exact .inl (.inl (.inr ⟨_, rfl, h.1, k.hv _ _ h.2 rpInt⟩))
  · exact h.elim
@[reducible] def opList : OpN := fun ds k => match ds with
  | [.lst es] => k (.new (.lst es))
  | [.tup es] => k (.new (.lst es))
  | _ => False
theorem pn_list {K : PySem.W.Frag} {w : World} : PON w (fun xs H Q => ∃ p ys, xs = [.ref p] ∧ (SqL K H p ys ∨ SqT K H p ys) ∧ ∀ l, H l = none → Q (.ref l) (upd H l (.lst ys))) opList := by
  intro F H vs ds Q Q' sub hp k h
  unfold opList at h
  split at h
  · obtain ⟨v, rfl, hx⟩ := Pks.one hp
    obtain ⟨a, us, rfl, h1, h2⟩ := hx
    exact ⟨a, us, rfl, .inl (.inl h1), fun l hl => k.hl _ _ l h h2 hl⟩
  · obtain ⟨v, rfl, hx⟩ := Pks.one hp
    obtain ⟨a, us, rfl, h1, h2⟩ := hx.tup
    exact ⟨a, us, rfl, .inr (sub _ _ h1).sqT, fun l hl => k.hl _ _ l h h2 hl⟩
  · exact h.elim
@[reducible] def opTuple : OpN := fun ds k => match ds with
  | [.lst es] => k (.val (.tup es))
  | [.tup es] => k (.val (.tup es))
  | _ => False
theorem pn_tuple {K : PySem.W.Frag} {w : World} : PON w (fun xs H Q => ∃ p ys, xs = [.ref p] ∧ ((SqL K H p ys ∧ ∀ l, H l = none → Q (.ref l) (upd H l (.tup ys))) ∨ (SqT K H p ys ∧ Q (.ref p) H))) opTuple := by
  intro F H vs ds Q Q' sub hp k h
  unfold opTuple at h
  split at h
  · obtain ⟨v, rfl, hx⟩ := Pks.one hp
    obtain ⟨a, us, rfl, h1, h2⟩ := hx
    exact ⟨a, us, rfl, .inl ⟨.inl h1, fun l hl => k.ht _ _ l h h2 hl⟩⟩
  · obtain ⟨v, rfl, hx⟩ := Pks.one hp
    obtain ⟨a, us, rfl, h1, h2⟩ := hx.tup
    exact ⟨a, us, rfl, .inr ⟨(sub _ _ h1).sqT, k.hv _ _ h (by unfold Rp; exact ⟨a, us, rfl, h1, h2⟩)⟩⟩
  · exact h.elim
/-! ### sorted, set -/
def isort (ns : List Int) : List Int := ns.mergeSort (fun a b => decide (a ≤ b))
theorem isort_perm (ns : List Int) : (isort ns).Perm ns := List.mergeSort_perm _ _
theorem isort_sorted (ns : List Int) : (isort ns).Pairwise (· ≤ ·) := by
  have h := List.pairwise_mergeSort (le := fun a b : Int => decide (a ≤ b)) (by intro a b c; simp only [decide_eq_true_eq]; omega) (by intro a b; simp only [Bool.or_eq_true, decide_eq_true_eq]; omega) ns
  exact h.imp fun q => of_decide_eq_true q
theorem sorted_unique {a b : List Int} (p : a.Perm b) (ha : a.Pairwise (· ≤ ·)) (hb : b.Pairwise (· ≤ ·)) : a = b :=
  p.eq_of_pairwise (fun x y _ _ h1 h2 => Int.le_antisymm h1 h2) ha hb
theorem isort_unique {ns ms : List Int} (p : ms.Perm ns) (s : ms.Pairwise (· ≤ ·)) : ms = isort ns := sorted_unique (p.trans (isort_perm ns).symm) s (isort_sorted ns)
@[reducible] def opSorted : OpN := fun ds k => match ds with
  | [.lst es] => ∃ ns : List Int, es = ns.map D.int ∧ k (.new (.lst ((isort ns).map D.int)))
  | [.tup es] => ∃ ns : List Int, es = ns.map D.int ∧ k (.new (.lst ((isort ns).map D.int)))
  | [.set ns] => ns.length < 64 ∧ k (.new (.lst ((isort (dups ns)).map D.int)))
  | _ => False
def rSortedAll (K : PySem.W.Frag) (w : World) : List V → Hp → VK → Prop := fun xs H Q => (rSortedI K xs H Q ∨ rSortedSet w xs H Q) ∨ My.rSortedT K xs H Q
theorem cr_sortedAll {X : Cx} (hc : X.calm = true) : CallR X (.builtin "sorted") (rSortedAll X.K X.w) := (cr_sortedI.or (cr_sortedSet hc)).or My.cr_sortedT
theorem pn_sorted {K : PySem.W.Frag} {w : World} : PON w (rSortedAll K w) opSorted := by
  intro F H vs ds Q Q' sub hp k h
  unfold opSorted at h
  split at h
  · obtain ⟨v, rfl, hx⟩ := Pks.one hp
    obtain ⟨a, us, rfl, h1, h2⟩ := hx
    · obtain ⟨ns, e, h⟩ := h
      rw [e] at h2
      rw [h2.ints] at h1
      refine .inl (.inl ⟨a, ns, rfl, .inl h1, fun ms p pm sd hp => ?_⟩)
      rw [isort_unique pm sd]
      exact k.hl _ _ p h Rps.ofInts hp
  · obtain ⟨v, rfl, hx⟩ := Pks.one hp
    obtain ⟨a, us, rfl, h1, h2⟩ := hx.tup
    obtain ⟨ns, e, h⟩ := h
    rw [e] at h2
    rw [h2.ints] at h1
    refine .inr ⟨a, ns, rfl, (sub _ _ h1).sqT, fun ms p pm sd hp => ?_⟩
    rw [isort_unique pm sd]
    exact k.hl _ _ p h Rps.ofInts hp
  · obtain ⟨v, rfl, hx⟩ := Pks.one hp
    obtain ⟨a, rfl, h1⟩ := hx
    rename_i ns
    refine .inl (.inr ⟨a, _, _, rfl, h1, Nat.lt_of_le_of_lt (dups_len _) h.1, fun ms p sd mem ln hp => ?_⟩)
    have pm : ms.Perm (dups ns) := by
      refine (List.perm_ext_iff_of_nodup (sd.imp fun q => Int.ne_of_lt q) (nodup_dups _)).mpr fun x => ?_
      rw [mem x, mem_dups]
      exact decide_eq_true_iff
    rw [isort_unique pm (sd.imp fun q => Int.le_of_lt q)]
    exact k.hl _ _ p h.2 Rps.ofInts hp
  · exact h.elim
@[reducible] def opSet : OpN := fun ds k => match ds with
  | [.lst es] => ∃ ns : List Int, es = ns.map D.int ∧ ns.length ≤ 1000 ∧ k (.new (.set ns))
  | _ => False
theorem pn_set {K : PySem.W.Frag} {w : World} : PON w (My.rSetL K w) opSet := by
  intro F H vs ds Q Q' sub hp k h
  unfold opSet at h
  split at h
  · obtain ⟨v, rfl, hx⟩ := Pks.one hp
    obtain ⟨a, us, rfl, h1, h2⟩ := hx
    · obtain ⟨ns, e, h⟩ := h
      rw [e] at h2
      rw [h2.ints] at h1
      refine ⟨a, ns, rfl, .inl h1, h.1, fun p ks hp nd mem => ?_⟩
      have pm : ks.Perm (dups ns) := (List.perm_ext_iff_of_nodup nd (nodup_dups _)).mpr fun x => by rw [mem x, mem_dups]
      rw [pm.length_eq]
      exact k.hs _ p h.2 hp
  · exact h.elim
/-! ### sums, flags, numbers -/
@[reducible] def opSum : OpN := fun ds k => match ds with
  | [.lst es] => ∃ ns : List Int, es = ns.map D.int ∧ k (.val (.int ns.sum))
  | _ => False
theorem pn_sum {K : PySem.W.Frag} {w : World} : PON w (rSum K) opSum := by
  intro F H vs ds Q Q' sub hp k h
  unfold opSum at h
  split at h
  · obtain ⟨v, rfl, hx⟩ := Pks.one hp
    obtain ⟨a, us, rfl, h1, h2⟩ := hx
    · obtain ⟨ns, e, h⟩ := h
      rw [e] at h2
      rw [h2.ints] at h1
      exact ⟨a, ns, rfl, .inl h1, k.hv _ _ h rpInt⟩
  · exact h.elim
@[reducible] def opFlags (f : List Bool → Bool) : OpN := fun ds k => match ds with
  | [.lst es] => ∃ bs : List Bool, es = bs.map D.bl ∧ k (.val (.bl (f bs)))
  | _ => False
theorem pn_flags {K : PySem.W.Frag} {w : World} (f : List Bool → Bool) : PON w (fun vs H Q => ∃ (a : Addr) (bs : List Bool), vs = [V.ref a] ∧ SqL K H a (bs.map V.bl) ∧ Q (.bl (f bs)) H) (opFlags f) := by
  intro F H vs ds Q Q' sub hp k h
  unfold opFlags at h
  split at h
  · obtain ⟨v, rfl, hx⟩ := Pks.one hp
    obtain ⟨a, us, rfl, h1, h2⟩ := hx
    · obtain ⟨ns, e, h⟩ := h
      rw [e] at h2
      rw [h2.bls] at h1
      exact ⟨a, ns, rfl, .inl h1, k.hv _ _ h rpBl⟩
  · exact h.elim
@[reducible] def opAbs : OpN := fun ds k => match ds with
  | [.int i] => k (.val (.int (if i < 0 then -i else i)))
  | _ => False
theorem pn_abs {w : World} : PON w (fun xs H Q => ∃ i, xs = [.int i] ∧ Q (.int (if i < 0 then -i else i)) H) opAbs := by
  intro F H vs ds Q Q' sub hp k h
  unfold opAbs at h
  split at h
  · obtain ⟨v, rfl, hx⟩ := Pks.one hp
    cases hx.int
    exact ⟨_, rfl, k.hv _ _ h rpInt⟩
  · exact h.elim
@[reducible] def opMax2 : OpN := fun ds k => match ds with
  | [.int i, .int j] => k (.val (.int (if j > i then j else i)))
  | _ => False
theorem pn_max2 {w : World} : PON w (fun xs H Q => ∃ i j, xs = [.int i, .int j] ∧ Q (.int (if j > i then j else i)) H) opMax2 := by
  intro F H vs ds Q Q' sub hp k h
  unfold opMax2 at h
  split at h
  · obtain ⟨v, u, rfl, hx, hy⟩ := Pks.two hp
    cases hx.int
    cases hy.int
    exact ⟨_, _, rfl, k.hv _ _ h rpInt⟩
  · exact h.elim
@[reducible] def opMin2 : OpN := fun ds k => match ds with
  | [.int i, .int j] => k (.val (.int (if j < i then j else i)))
  | _ => False
theorem pn_min2 {w : World} : PON w (fun xs H Q => ∃ i j, xs = [.int i, .int j] ∧ Q (.int (if j < i then j else i)) H) opMin2 := by
  intro F H vs ds Q Q' sub hp k h
  unfold opMin2 at h
  split at h
  · obtain ⟨v, u, rfl, hx, hy⟩ := Pks.two hp
    cases hx.int
    cases hy.int
    exact ⟨_, _, rfl, k.hv _ _ h rpInt⟩
  · exact h.elim
/-- the greatest, the least of a list of ints -/
def maxL : List Int → Int
  | [] => 0
  | [x] => x
  | x :: y :: r => if maxL (y :: r) < x then x else maxL (y :: r)
def minL : List Int → Int
  | [] => 0
  | [x] => x
  | x :: y :: r => if x < minL (y :: r) then x else minL (y :: r)
theorem maxL_spec : ∀ {ns : List Int}, ns ≠ [] → maxL ns ∈ ns ∧ ∀ y ∈ ns, y ≤ maxL ns
  | [], h => absurd rfl h
  | [x], _ => ⟨by simp [maxL], fun y hy => by simp at hy; subst hy; simp [maxL]⟩
  | x :: y :: r, _ => by
    obtain ⟨h1, h2⟩ := maxL_spec (ns := y :: r) (by simp)
    unfold maxL
    split
    · rename_i c
      refine ⟨by simp, fun z hz => ?_⟩
      rcases List.mem_cons.mp hz with rfl | hz
      · exact Int.le_refl _
      · exact Int.le_trans (h2 z hz) (Int.le_of_lt c)
    · rename_i c
      refine ⟨List.mem_cons_of_mem _ h1, fun z hz => ?_⟩
      rcases List.mem_cons.mp hz with rfl | hz
      · omega
      · exact h2 z hz
theorem minL_spec : ∀ {ns : List Int}, ns ≠ [] → minL ns ∈ ns ∧ ∀ y ∈ ns, minL ns ≤ y
  | [], h => absurd rfl h
  | [x], _ => ⟨by simp [minL], fun y hy => by simp at hy; subst hy; simp [minL]⟩
  | x :: y :: r, _ => by
    obtain ⟨h1, h2⟩ := minL_spec (ns := y :: r) (by simp)
    unfold minL
    split
    · rename_i c
      refine ⟨by simp, fun z hz => ?_⟩
      rcases List.mem_cons.mp hz with rfl | hz
      · exact Int.le_refl _
      · exact Int.le_trans (Int.le_of_lt c) (h2 z hz)
    · rename_i c
      refine ⟨List.mem_cons_of_mem _ h1, fun z hz => ?_⟩
      rcases List.mem_cons.mp hz with rfl | hz
      · omega
      · exact h2 z hz
@[reducible] def opMaxL : OpN := fun ds k => match ds with
  | [.lst es] => ∃ ns : List Int, es = ns.map D.int ∧ ns ≠ [] ∧ k (.val (.int (maxL ns)))
  | _ => False
@[reducible] def opMinL : OpN := fun ds k => match ds with
  | [.lst es] => ∃ ns : List Int, es = ns.map D.int ∧ ns ≠ [] ∧ k (.val (.int (minL ns)))
  | _ => False
theorem pn_maxL {K : PySem.W.Frag} {w : World} : PON w (rMax K) opMaxL := by
  intro F H vs ds Q Q' sub hp k h
  unfold opMaxL at h
  split at h
  · obtain ⟨v, rfl, hx⟩ := Pks.one hp
    obtain ⟨a, us, rfl, h1, h2⟩ := hx
    · obtain ⟨ns, e, h⟩ := h
      rw [e] at h2
      rw [h2.ints] at h1
      refine ⟨a, ns, rfl, .inl h1, List.length_pos_iff.mpr h.1, fun m hm hle => ?_⟩
      obtain ⟨m1, m2⟩ := maxL_spec h.1
      have e : m = maxL ns := Int.le_antisymm (m2 m hm) (hle _ m1)
      rw [e]
      exact k.hv _ _ h.2 rpInt
  · exact h.elim
theorem pn_minL {K : PySem.W.Frag} {w : World} : PON w (rMin K) opMinL := by
  intro F H vs ds Q Q' sub hp k h
  unfold opMinL at h
  split at h
  · obtain ⟨v, rfl, hx⟩ := Pks.one hp
    obtain ⟨a, us, rfl, h1, h2⟩ := hx
    · obtain ⟨ns, e, h⟩ := h
      rw [e] at h2
      rw [h2.ints] at h1
      refine ⟨a, ns, rfl, .inl h1, List.length_pos_iff.mpr h.1, fun m hm hle => ?_⟩
      obtain ⟨m1, m2⟩ := minL_spec h.1
      have e : m = minL ns := Int.le_antisymm (hle _ m1) (m2 m hm)
      rw [e]
      exact k.hv _ _ h.2 rpInt
  · exact h.elim
@[reducible] def opInt : OpN := fun ds k => match ds with
  | [.int i] => k (.val (.int i))
  | [.bl b] => k (.val (.int (if b then 1 else 0)))
  | _ => False
theorem pn_int {w : World} : PON w (fun xs H Q => (∃ i, xs = [.int i] ∧ Q (.int i) H) ∨ ∃ k, xs = [.bl k] ∧ Q (.int (if k then 1 else 0)) H) opInt := by
  intro F H vs ds Q Q' sub hp k h
  unfold opInt at h
  split at h
  · obtain ⟨v, rfl, hx⟩ := Pks.one hp
    cases hx.int
    exact .inl ⟨_, rfl, k.hv _ _ h rpInt⟩
  · obtain ⟨v, rfl, hx⟩ := Pks.one hp
    cases hx.bl
    exact .inr ⟨_, rfl, k.hv _ _ h rpInt⟩
  · exact h.elim
@[reducible] def opStr : OpN := fun ds k => match ds with
  | [.int i] => i.natAbs.log2 < 1920 ∧ k (.val (.str (toString i)))
  | _ => False
theorem pn_str {w : World} : PON w (fun xs H Q => ∃ i, xs = [.int i] ∧ i.natAbs.log2 < 1920 ∧ Q (.str (toString i)) H) opStr := by
  intro F H vs ds Q Q' sub hp k h
  unfold opStr at h
  split at h
  · obtain ⟨v, rfl, hx⟩ := Pks.one hp
    cases hx.int
    exact ⟨_, rfl, h.1, k.hv _ _ h.2 rpStr⟩
  · exact h.elim
end Fl

set_option Elab.async false
set_option linter.all false
set_option maxRecDepth 100000
set_option maxHeartbeats 400000
/-! FlH: tests, and, or, chains, slices, isinstance, repr -/
namespace Fl
open PySem PySem.Spec PyProof.Rows L2
section
variable {w : World} {W : WX} {P : List V}
/-! ### tests -/
@[reducible] def bD (d : D) (k : Bool → Prop) : Prop := match d with
  | .bl b => k b
  | _ => False
theorem bD_ex {w : World} {F H : Hp} {d : D} {x : V} {k : Bool → Prop} (hx : Pk w F H d x) (h : bD d k) : ∃ b, x = .bl b ∧ k b := by
  unfold bD at h
  split at h
  · exact ⟨_, hx.bl, h⟩
  · exact h.elim
@[reducible] def wTst (wa : Wd) : Wt := fun ρ Q E => wa ρ (fun r ρ1 => wD ρ1 r fun d => bD d fun b => Q b ρ1) E
theorem st_tst {t : TE} {wa : Wd} (ha : SE w W P t wa) : STt w W P (tTest t) (wTst wa) := by
  intro F L H τ ρ σ Q Q' E' S hQ hE h
  refine ha F L H τ ρ σ _ _ E' S (fun r ρ1 v F1 L1 H1 h1 s1 S1 => ?_) hE h
  obtain ⟨d, e, h1⟩ := wD_ex h1
  obtain ⟨b, rfl, h1⟩ := bD_ex (S1.pk (p := (r, v)) (by simp) e) h1
  exact ⟨b, rfl, hQ _ _ _ _ _ h1 s1 S1.pop⟩
@[reducible] def wTru (wa : Wd) : Wt := fun ρ Q E => wa ρ (fun r ρ1 => wD ρ1 r fun d => truD d fun b => Q b ρ1) E
theorem st_tru {K : PySem.W.Frag} {t : TE} {wa : Wd} (ha : SE w W P t wa) : STt w W P (fun σ H Q => t σ H fun x H' => ∃ k, TruV K x H' k ∧ Q k H') (wTru wa) := by
  intro F L H τ ρ σ Q Q' E' S hQ hE h
  refine ha F L H τ ρ σ _ _ E' S (fun r ρ1 v F1 L1 H1 h1 s1 S1 => ?_) hE h
  obtain ⟨d, e, h1⟩ := wD_ex h1
  obtain ⟨b, tv, h1⟩ := truD_ok (K := K) S1.sub (S1.pk (p := (r, v)) (by simp) e) h1
  exact ⟨b, tv, hQ _ _ _ _ _ h1 s1 S1.pop⟩
@[reducible] def wAnd (t u : Wt) : Wt := fun ρ Q E => t ρ (fun c ρ1 => if c = true then u ρ1 Q E else Q false ρ1) E
@[reducible] def wOr (t u : Wt) : Wt := fun ρ Q E => t ρ (fun c ρ1 => if c = true then Q true ρ1 else u ρ1 Q E) E
@[reducible] def wNot (t : Wt) : Wt := fun ρ Q E => t ρ (fun c ρ1 => Q (!c) ρ1) E
theorem st_and {t u : TT} {wt wu : Wt} (ht : STt w W P t wt) (hu : STt w W P u wu) : STt w W P (tAnd t u) (wAnd wt wu) := by
  intro F L H τ ρ σ Q Q' E' S hQ hE h
  refine ht F L H τ ρ σ _ _ E' S (fun b ρ1 F1 L1 H1 h1 s1 S1 => ?_) hE h
  cases b with
  | true => exact hu F1 L1 H1 τ ρ1 σ _ _ E' S1 (fun b ρ2 F2 L2 H2 h2 s2 S2 => hQ _ _ _ _ _ h2 (s1.trans s2) S2) (hE.step s1) h1
  | false => exact hQ _ _ _ _ _ h1 s1 S1
theorem st_or {t u : TT} {wt wu : Wt} (ht : STt w W P t wt) (hu : STt w W P u wu) : STt w W P (tOr t u) (wOr wt wu) := by
  intro F L H τ ρ σ Q Q' E' S hQ hE h
  refine ht F L H τ ρ σ _ _ E' S (fun b ρ1 F1 L1 H1 h1 s1 S1 => ?_) hE h
  cases b with
  | false => exact hu F1 L1 H1 τ ρ1 σ _ _ E' S1 (fun b ρ2 F2 L2 H2 h2 s2 S2 => hQ _ _ _ _ _ h2 (s1.trans s2) S2) (hE.step s1) h1
  | true => exact hQ _ _ _ _ _ h1 s1 S1
theorem st_not {t : TT} {wt : Wt} (ht : STt w W P t wt) : STt w W P (tNot t) (wNot wt) := by
  intro F L H τ ρ σ Q Q' E' S hQ hE h
  exact ht F L H τ ρ σ _ _ E' S (fun b ρ1 F1 L1 H1 h1 s1 S1 => hQ _ _ _ _ _ h1 s1 S1) hE h
/-! ### values by truth -/
@[reducible] def wIf (t : Wt) (a b : Wd) : Wd := fun ρ Q E => t ρ (fun c ρ1 => if c = true then a ρ1 Q E else b ρ1 Q E) E
theorem se_if {t : TT} {ta tb : TE} {wt : Wt} {wa wb : Wd} (ht : STt w W P t wt) (ha : SE w W P ta wa) (hb : SE w W P tb wb) : SE w W P (tIf t ta tb) (wIf wt wa wb) := by
  intro F L H τ ρ σ Q Q' E' S hQ hE h
  refine ht F L H τ ρ σ _ _ E' S (fun b ρ1 F1 L1 H1 h1 s1 S1 => ?_) hE h
  cases b with
  | true => exact ha F1 L1 H1 τ ρ1 σ _ _ E' S1 (fun r ρ2 v F2 L2 H2 h2 s2 S2 => hQ _ _ _ _ _ _ h2 (s1.trans s2) S2) (hE.step s1) h1
  | false => exact hb F1 L1 H1 τ ρ1 σ _ _ E' S1 (fun r ρ2 v F2 L2 H2 h2 s2 S2 => hQ _ _ _ _ _ _ h2 (s1.trans s2) S2) (hE.step s1) h1
@[reducible] def wOrT (a b : Wd) : Wd := fun ρ Q E => a ρ (fun r ρ1 => wD ρ1 r fun d => truD d fun k => if k = true then Q r ρ1 else b ρ1 Q E) E
@[reducible] def wAndT (a b : Wd) : Wd := fun ρ Q E => a ρ (fun r ρ1 => wD ρ1 r fun d => truD d fun k => if k = true then b ρ1 Q E else Q r ρ1) E
@[reducible] def wNotT (a : Wd) : Wd := fun ρ Q E => a ρ (fun r ρ1 => wD ρ1 r fun d => truD d fun k => Q (.val (.bl (!k))) ρ1) E
theorem se_orT {K : PySem.W.Frag} {ta tb : TE} {wa wb : Wd} (ha : SE w W P ta wa) (hb : SE w W P tb wb) : SE w W P (tOrT K ta tb) (wOrT wa wb) := by
  intro F L H τ ρ σ Q Q' E' S hQ hE h
  refine ha F L H τ ρ σ _ _ E' S (fun r ρ1 v F1 L1 H1 h1 s1 S1 => ?_) hE h
  obtain ⟨d, e, h1⟩ := wD_ex h1
  obtain ⟨b, tv, h1⟩ := truD_ok (K := K) S1.sub (S1.pk (p := (r, v)) (by simp) e) h1
  refine ⟨b, tv, ?_⟩
  cases b with
  | true => exact hQ _ _ _ _ _ _ h1 s1 S1
  | false => exact hb F1 L1 H1 τ ρ1 σ _ _ E' S1.pop (fun r ρ2 v F2 L2 H2 h2 s2 S2 => hQ _ _ _ _ _ _ h2 (s1.trans s2) S2) (hE.step s1) h1
theorem se_andT {K : PySem.W.Frag} {ta tb : TE} {wa wb : Wd} (ha : SE w W P ta wa) (hb : SE w W P tb wb) : SE w W P (tAndT K ta tb) (wAndT wa wb) := by
  intro F L H τ ρ σ Q Q' E' S hQ hE h
  refine ha F L H τ ρ σ _ _ E' S (fun r ρ1 v F1 L1 H1 h1 s1 S1 => ?_) hE h
  obtain ⟨d, e, h1⟩ := wD_ex h1
  obtain ⟨b, tv, h1⟩ := truD_ok (K := K) S1.sub (S1.pk (p := (r, v)) (by simp) e) h1
  refine ⟨b, tv, ?_⟩
  cases b with
  | false => exact hQ _ _ _ _ _ _ h1 s1 S1
  | true => exact hb F1 L1 H1 τ ρ1 σ _ _ E' S1.pop (fun r ρ2 v F2 L2 H2 h2 s2 S2 => hQ _ _ _ _ _ _ h2 (s1.trans s2) S2) (hE.step s1) h1
theorem se_notT {K : PySem.W.Frag} {ta : TE} {wa : Wd} (ha : SE w W P ta wa) : SE w W P (tNotT K ta) (wNotT wa) := by
  intro F L H τ ρ σ Q Q' E' S hQ hE h
  refine ha F L H τ ρ σ _ _ E' S (fun r ρ1 v F1 L1 H1 h1 s1 S1 => ?_) hE h
  obtain ⟨d, e, h1⟩ := wD_ex h1
  obtain ⟨b, tv, h1⟩ := truD_ok (K := K) S1.sub (S1.pk (p := (r, v)) (by simp) e) h1
  exact ⟨b, tv, hQ _ _ _ _ _ _ h1 s1 (S1.pop.push rpBl)⟩
/-- a op b op' c -/
@[reducible] def blR (r : R) (k : Bool → Prop) : Prop := match r with
  | .val (.bl b) => k b
  | _ => False
@[reducible] def wCh (op op' : Op2) (wa wb wc : Wd) : Wd := fun ρ Q E => wa ρ (fun ra ρ1 => wb ρ1 (fun rb ρ2 => wD ρ2 ra fun d => wD ρ2 rb fun e => op d e fun z => blR z fun k =>
  if k = true then wc ρ2 (fun rc ρ3 => wD ρ3 rb fun e => wD ρ3 rc fun f => op' e f fun r => Q r ρ3) E else Q (.val (.bl false)) ρ2) E) E
theorem se_ch {r r' : R2} {op op' : Op2} {ta tb tc : TE} {wa wb wc : Wd} (ho : PO2 w r op) (ho' : PO2 w r' op') (ha : SE w W P ta wa) (hb : SE w W P tb wb) (hc : SE w W P tc wc) : SE w W P (tChain r r' ta tb tc) (wCh op op' wa wb wc) := by
  intro F L H τ ρ σ Q Q' E' S hQ hE h
  refine ha F L H τ ρ σ _ _ E' S (fun ra ρ1 va F1 L1 H1 h1 s1 S1 => ?_) hE h
  refine hb F1 L1 H1 _ ρ1 σ _ _ E' S1 (fun rb ρ2 vb F2 L2 H2 h2 s2 S2 => ?_) (hE.step s1) h1
  obtain ⟨d, e1, h2⟩ := wD_ex h2
  obtain ⟨e, e2, h2⟩ := wD_ex h2
  refine ho F2 H2 va vb d e _ _ S2.sub (S2.pk (p := (ra, va)) (by simp) e1) (S2.pk (p := (rb, vb)) (by simp) e2) ⟨fun dz vz q rz => ?_, fun _ _ _ q => q.elim, fun _ _ _ q => q.elim, fun _ _ _ q => q.elim, fun _ _ _ q => q.elim, fun _ _ q => q.elim⟩ h2
  cases dz with
  | bl k =>
    unfold Rp at rz
    refine ⟨k, rz, ?_⟩
    cases k with
    | false => exact hQ _ _ _ _ _ _ q (s1.trans s2) (S2.pop.pop.push rpBl)
    | true =>
      refine hc F2 L2 H2 _ ρ2 σ _ _ E' S2 (fun rc ρ3 vc F3 L3 H3 h3 s3 S3 => ?_) (hE.step (s1.trans s2)) q
      obtain ⟨e', e3, h3⟩ := wD_ex h3
      obtain ⟨f, e4, h3⟩ := wD_ex h3
      refine ho' F3 H3 vb vc e' f Q _ S3.sub (S3.pk (p := (rb, vb)) (by simp) e3) (S3.pk (p := (rc, vc)) (by simp) e4) (Kon.of S3.pop.pop.pop fun r v F' L' H' q s S' => ?_) h3
      exact hQ _ _ _ _ _ _ q (((s1.trans s2).trans s3).trans s) S'
  | _ => exact q.elim
/-! ### slices -/
abbrev Wo := Env → (Option Int → Env → Prop) → QE → Prop
def SO (w : World) (W : WX) (P : List V) (t : TO) (wd : Wo) : Prop := ∀ (F : Hp) (L : Lbs) (H : Hp) (τ : List (R × V)) (ρ : Env) (σ : L2.St) (Q : Option Int → Hp → Prop) (Q' : Option Int → Env → Prop) (E' : QE), St w P F L H τ ρ σ →
  (∀ o ρ' F' L' H', Q' o ρ' → Step F L H F' L' H' → St w P F' L' H' τ ρ' σ → Q o H') → XI w W P F L H E' → wd ρ Q' E' → t σ H Q
structure FO (X : Cx) (W : WX) (P : List V) (e : Option Expr) (t : TO) (wd : Wo) : Prop where
  pe : PO X e t
  se : SO X.w W P t wd
@[reducible] def wNoPart : Wo := fun ρ Q _ => Q none ρ
@[reducible] def iD (d : D) (k : Int → Prop) : Prop := match d with
  | .int i => k i
  | _ => False
@[reducible] def wPart (wa : Wd) : Wo := fun ρ Q E => wa ρ (fun r ρ1 => wD ρ1 r fun d => iD d fun i => Q (some i) ρ1) E
theorem so_none : SO w W P tNoPart wNoPart := by
  intro F L H τ ρ σ Q Q' E' S hQ hE h
  exact hQ _ _ _ _ _ h .refl S
theorem so_part {t : TE} {wa : Wd} (ha : SE w W P t wa) : SO w W P (tPart t) (wPart wa) := by
  intro F L H τ ρ σ Q Q' E' S hQ hE h
  refine ha F L H τ ρ σ _ _ E' S (fun r ρ1 v F1 L1 H1 h1 s1 S1 => ?_) hE h
  obtain ⟨d, e, h1⟩ := wD_ex h1
  have hx := S1.pk (p := (r, v)) (by simp) e
  unfold iD at h1
  split at h1
  · exact ⟨_, hx.int, hQ _ _ _ _ _ h1 s1 S1.pop⟩
  · exact h1.elim
def cutD {α : Type} (xs : List α) (lo hi : Option Int) : List α := (xs.drop (HT.sIx xs.length 0 lo)).take (HT.sIx xs.length xs.length hi - HT.sIx xs.length 0 lo)
@[reducible] def opSl (d : D) (lo hi : Option Int) (k : R → Prop) : Prop := match d with
  | .lst ds => k (.new (.lst (cutD ds lo hi)))
  | .tup ds => k (.val (.tup (cutD ds lo hi)))
  | _ => False
def rSlAll (K : PySem.W.Frag) : V → Option Int → Option Int → Hp → VK → Prop := fun x lo hi H Q => rSlL K x lo hi H Q ∨ rSlA K x lo hi H Q
theorem sl_all {X : Cx} : SlR X (rSlAll X.K) := sl_list.or sl_tupA
@[reducible] def wSl (we : Wd) (wl wh : Wo) : Wd := fun ρ Q E => we ρ (fun r ρ1 => wl ρ1 (fun lo ρ2 => wh ρ2 (fun hi ρ3 => wD ρ3 r fun d => opSl d lo hi fun z => Q z ρ3) E) E) E
theorem Rps.cut {F : Hp} {ds : List D} {vs : List V} (h : Rps w F ds vs) (lo hi : Option Int) : Rps w F (cutD ds lo hi) (cutV vs lo hi) := by
  unfold cutD cutV
  rw [h.len]
  exact (h.drop _).take _
theorem cut_whole {ds : List D} {lo hi : Option Int} (h : HT.sIx ds.length 0 lo = 0 ∧ HT.sIx ds.length ds.length hi = ds.length) : cutD ds lo hi = ds := by
  unfold cutD
  rw [h.1, h.2, Nat.sub_zero, List.drop_zero, List.take_length]
theorem se_sl {K : PySem.W.Frag} {te : TE} {tl th : TO} {we : Wd} {wl wh : Wo} (he : SE w W P te we) (hl : SO w W P tl wl) (hh : SO w W P th wh) : SE w W P (tSl (rSlAll K) te tl th) (wSl we wl wh) := by
  intro F L H τ ρ σ Q Q' E' S hQ hE h
  refine he F L H τ ρ σ _ _ E' S (fun r ρ1 v F1 L1 H1 h1 s1 S1 => ?_) hE h
  refine hl F1 L1 H1 _ ρ1 σ _ _ E' S1 (fun lo ρ2 F2 L2 H2 h2 s2 S2 => ?_) (hE.step s1) h1
  refine hh F2 L2 H2 _ ρ2 σ _ _ E' S2 (fun hi ρ3 F3 L3 H3 h3 s3 S3 => ?_) (hE.step (s1.trans s2)) h2
  obtain ⟨d, e, h3⟩ := wD_ex h3
  have hx := S3.pk (p := (r, v)) (by simp) e
  have k : Kon w F3 H3 Q fun z => Q' z ρ3 := Kon.of S3.pop fun r v F' L' H' q s S' => hQ _ _ _ _ _ _ q (((s1.trans s2).trans s3).trans s) S'
  unfold opSl at h3
  split at h3
  · obtain ⟨a, us, rfl, g1, g2⟩ := hx
    exact .inl ⟨a, us, rfl, .inl g1, fun p hp => k.hl _ _ p h3 (g2.cut lo hi) hp⟩
  · obtain ⟨a, us, rfl, g1, g2⟩ := hx.tup
    refine .inr ⟨a, us, rfl, (S3.sub _ _ g1).sqT, fun c => ?_, fun c p hp => k.ht _ _ p h3 (g2.cut lo hi) hp⟩
    rw [g2.len] at c
    rw [cut_whole c] at h3
    exact k.hv _ _ h3 (by unfold Rp; exact ⟨a, us, rfl, g1, g2⟩)
  · exact h3.elim
end
end Fl

set_option Elab.async false
set_option linter.all false
set_option maxRecDepth 100000
set_option maxHeartbeats 400000
/-! FlI: displays, fields, methods that change, stores -/
namespace Fl
open PySem PySem.Spec PyProof.Rows L2
/-- all operands become data -/
@[reducible] def wFs' : Env → List R → (List D → Env → Prop) → Prop
  | ρ, [], k => k [] ρ
  | ρ, r :: rs, k => wFs' ρ rs fun ds ρ1 => wF ρ1 r fun d ρ2 => k (d :: ds) ρ2
section
variable {w : World} {W : WX} {P : List V}
theorem St.wFs' {σ : L2.St} {H : Hp} : ∀ {ps : List (R × V)} {τ : List (R × V)} {F : Hp} {L : Lbs} {ρ : Env} {k : List D → Env → Prop}, St w P F L H (ps.reverse ++ τ) ρ σ → Fl.wFs' ρ (ps.map (·.1)) k →
    ∃ ds ρ' F' L', k ds ρ' ∧ Step F L H F' L' H ∧ St w P F' L' H τ ρ' σ ∧ Rps w F' ds (ps.map (·.2))
  | [], τ, F, L, ρ, k, S, h => ⟨[], ρ, F, L, h, .refl, S, Rps.nil⟩
  | p :: ps, τ, F, L, ρ, k, S, h => by
    rw [List.reverse_cons, List.append_assoc] at S
    obtain ⟨ds, ρ1, F1, L1, h1, s1, S1, r1⟩ := St.wFs' (ps := ps) (τ := p :: τ) S h
    obtain ⟨d, ρ2, F2, L2, h2, s2, S2⟩ := S1.wF h1
    exact ⟨d :: ds, ρ2, F2, L2, h2, s1.trans s2, S2.pop, Rps.cons S2.tm.1 (r1.mono s2.mono)⟩
@[reducible] def wTup (wa : Wa) : Wd := fun ρ Q E => wa ρ (fun rs ρ1 => wFs' ρ1 rs fun ds ρ2 => Q (.val (.tup ds)) ρ2) E
@[reducible] def wLst (wa : Wa) : Wd := fun ρ Q E => wa ρ (fun rs ρ1 => wFs' ρ1 rs fun ds ρ2 => Q (.new (.lst ds)) ρ2) E
/-- argument lists of a written length -/
def SAn (w : World) (W : WX) (P : List V) (n : Nat) (t : TA) (wd : Wa) : Prop := ∀ (F : Hp) (L : Lbs) (H : Hp) (τ : List (R × V)) (ρ : Env) (σ : L2.St) (Q : List V → Hp → Prop) (Q' : List R → Env → Prop) (E' : QE), St w P F L H τ ρ σ →
  (∀ (ps : List (R × V)) ρ' F' L' H', ps.length = n → Q' (ps.map (·.1)) ρ' → Step F L H F' L' H' → St w P F' L' H' (ps.reverse ++ τ) ρ' σ → Q (ps.map (·.2)) H') → XI w W P F L H E' → wd ρ Q' E' → t σ H Q
structure FA (X : Cx) (W : WX) (P : List V) (n : Nat) (es : List Expr) (t : TA) (wd : Wa) : Prop where
  pe : PA X es t
  se : SAn X.w W P n t wd
theorem sn_nil : SAn w W P 0 tNil wNil := by
  intro F L H τ ρ σ Q Q' E' S hQ hE h
  exact hQ [] ρ F L H rfl h .refl S
theorem sn_cons {n : Nat} {ta : TE} {tr : TA} {wa : Wd} {wr : Wa} (ha : SE w W P ta wa) (hr : SAn w W P n tr wr) : SAn w W P (n + 1) (tCons ta tr) (wCons wa wr) := by
  intro F L H τ ρ σ Q Q' E' S hQ hE h
  refine ha F L H τ ρ σ _ _ E' S (fun ra ρ1 va F1 L1 H1 h1 s1 S1 => ?_) hE h
  refine hr F1 L1 H1 _ ρ1 σ _ _ E' S1 (fun ps ρ2 F2 L2 H2 hn h2 s2 S2 => ?_) (hE.step s1) h1
  refine hQ ((ra, va) :: ps) ρ2 F2 L2 H2 (by rw [List.length_cons, hn]) h2 (s1.trans s2) ?_
  rw [List.reverse_cons, List.append_assoc]
  exact S2
theorem SAn.sa {n : Nat} {t : TA} {wd : Wa} (h : SAn w W P n t wd) : SA w W P t wd := fun F L H τ ρ σ Q Q' E' S hQ hE q => h F L H τ ρ σ Q Q' E' S (fun ps ρ' F' L' H' _ => hQ ps ρ' F' L' H') hE q
theorem se_tup {n : Nat} {t : TA} {wa : Wa} (ha : SAn w W P n t wa) (hn : n ≤ 1000 := by decide) : SE w W P (tTup t) (wTup wa) := by
  intro F L H τ ρ σ Q Q' E' S hQ hE h
  refine ha F L H τ ρ σ _ _ E' S (fun ps ρ1 F1 L1 H1 en h1 s1 S1 => ?_) hE h
  obtain ⟨ds, ρ2, F2, L2, h2, s2, S2, r2⟩ := S1.wFs' h1
  refine ⟨line_of (by rw [List.length_map]; omega), fun p hp => ?_⟩
  exact (Kon.of (Q' := fun r => Q' r ρ2) S2 fun r v F' L' H' q s S' => hQ _ _ _ _ _ _ q ((s1.trans s2).trans s) S').ht _ _ p h2 r2 hp
theorem se_lst {n : Nat} {t : TA} {wa : Wa} (ha : SAn w W P n t wa) (hn : n ≤ 1000 := by decide) : SE w W P (tLst t) (wLst wa) := by
  intro F L H τ ρ σ Q Q' E' S hQ hE h
  refine ha F L H τ ρ σ _ _ E' S (fun ps ρ1 F1 L1 H1 en h1 s1 S1 => ?_) hE h
  obtain ⟨ds, ρ2, F2, L2, h2, s2, S2, r2⟩ := S1.wFs' h1
  refine ⟨line_of (by rw [List.length_map]; omega), fun p hp => ?_⟩
  exact (Kon.of (Q' := fun r => Q' r ρ2) S2 fun r v F' L' H' q s S' => hQ _ _ _ _ _ _ q ((s1.trans s2).trans s) S').hl _ _ p h2 r2 hp
/-! ### new dicts -/
@[reducible] def wDicK : Wd := fun ρ Q _ => Q (.new (.dic [])) ρ
@[reducible] def wDicT : Wd := fun ρ Q _ => Q (.new (.dit [])) ρ
theorem RpK.nil {F : Hp} : RpK w F [] [] := by unfold RpK; rfl
theorem RpT.nil {F : Hp} : RpT w F [] [] := by unfold RpT; rfl
theorem se_dicK : SE w W P tDNewK wDicK := by
  intro F L H τ ρ σ Q Q' E' S hQ hE h p hp
  exact (Kon.of (Q' := fun r => Q' r ρ) S fun r v F' L' H' q s S' => hQ _ _ _ _ _ _ q s S').hd _ _ p h RpK.nil hp
theorem se_dicT : SE w W P tDNewT wDicT := by
  intro F L H τ ρ σ Q Q' E' S hQ hE h p hp
  exact (Kon.of (Q' := fun r => Q' r ρ) S fun r v F' L' H' q s S' => hQ _ _ _ _ _ _ q s S').he _ _ p h RpT.nil hp
/-! ### fields of an instance -/
@[reducible] def insD (C : Addr) (d : D) (k : List (Str × D) → Prop) : Prop := match d with
  | .ins C' fs => C' = C ∧ k fs
  | _ => False
@[reducible] def wFld (C : Addr) (f : Str) (wa : Wd) : Wd := fun ρ Q E => wa ρ (fun r ρ1 => wD ρ1 r fun d => insD C d fun fs => ∃ z, fs.lookup f = some z ∧ Q (.val z) ρ1) E
theorem RpF.look {F : Hp} {f : Str} {d : D} : ∀ {fs : List (Str × D)} {vs : List (Str × V)}, RpF w F fs vs → fs.lookup f = some d → ∃ v, vs.lookup f = some v ∧ Rp w F d v
  | [], _, _, e => by cases e
  | (g, x) :: fs, _, h, e => by
    unfold RpF at h
    obtain ⟨v, r, rfl, h1, h2⟩ := h
    rw [List.lookup_cons] at e ⊢
    cases eq : f == g with
    | true => rw [eq] at e; cases e; exact ⟨v, rfl, h1⟩
    | false => rw [eq] at e; exact RpF.look h2 e
theorem se_fld {K : PySem.W.Frag} {C : Addr} {f : Str} {ta : TE} {wa : Wd} (c : Cls K C) (n : NoAttr K C f) (ha : SE w W P ta wa) : SE w W P (tFld K ta f) (wFld C f wa) := by
  intro F L H τ ρ σ Q Q' E' S hQ hE h
  refine ha F L H τ ρ σ _ _ E' S (fun r ρ1 v F1 L1 H1 h1 s1 S1 => ?_) hE h
  obtain ⟨d, e, h1⟩ := wD_ex h1
  have hx := S1.pk (p := (r, v)) (by simp) e
  unfold insD at h1
  split at h1
  · obtain ⟨a, dx, vs, rfl, g1, g2, g3⟩ := hx
    obtain ⟨ec, h2⟩ := h1
    subst ec
    obtain ⟨z, ez, h2⟩ := h2
    obtain ⟨u, eu, ru⟩ := g3.look ez
    exact ⟨a, _, dx, vs, u, rfl, g1, c, n, eu, hQ _ _ _ _ _ _ h2 s1 (S1.pop.push ru)⟩
  · exact h1.elim
/-! ### methods that change an owned object -/
@[reducible] def tyW (T : String) (d : D) : Prop := match d with
  | .lst _ => T = "list"
  | .dic _ => T = "dict"
  | .dit _ => T = "dict"
  | .str _ => T = "str"
  | _ => False
theorem tyW_ok {K : PySem.W.Frag} {F H : Hp} {T : String} {d : D} {x : V} (hx : Pk w F H d x) (nf : ∀ (a : Addr) (kvs : Obj × HO), x = .ref a → H a ≠ some (.frz kvs.1 kvs.2)) (h : tyW T d) : tyV K T x H := by
  unfold tyW at h
  split at h
  · obtain ⟨a, vs, rfl, h1, h2⟩ := hx
    exact .inl ⟨h, vs, .inl h1⟩
  · obtain ⟨a, vs, rfl, h1, h2⟩ := hx
    rcases h1 with h1 | ⟨ob, h1⟩
    · exact .inr (.inr (.inl ⟨h, .inl ⟨vs, h1⟩⟩))
    · exact absurd h1 (nf a (ob, _) rfl)
  · obtain ⟨a, vs, rfl, h1, h2⟩ := hx
    rcases h1 with h1 | ⟨ob, h1⟩
    · exact .inr (.inr (.inl ⟨h, .inr ⟨vs, h1⟩⟩))
    · exact absurd h1 (nf a (ob, _) rfl)
  · cases hx.str
    exact h
  · exact h.elim
/-- the object that a name holds, and how it is put back -/
@[reducible] def wMu (ρ : Env) (r : R) (k : D → (D → Env) → Prop) : Prop := match r with
  | .loc i => (match getA ρ i with
    | .ow d => k d fun d' => setA ρ i (.ow d')
    | .pr j d => k d fun d' => setA ρ i (.pr j d')
    | _ => False)
  | _ => False
abbrev OpM := D → List D → (D → R → Prop) → Prop
def MM (w : World) (r : V → List V → Hp → VK → Prop) (op : OpM) : Prop := ∀ (F H : Hp) (own : Addr → Prop) (x : V) (vs : List V) (d : D) (ds : List D) (Q : VK) (Q' : D → R → Prop), (∀ a o, F a = some o → Sb H a o) → Ro w F H own d x → Rps w F ds vs →
  (∀ d' r v p o, Q' d' (.val r) → own p → Ro w F (upd H p o) own d' x → Rp w F r v → Q v (upd H p o)) → op d ds Q' → r x vs H Q
@[reducible] def wMt (T : String) (op : OpM) (wo : Wd) (wa : Wa) : Wd := fun ρ Q E => wo ρ (fun ro ρ1 => wMu ρ1 ro fun d0 _ => tyW T d0 ∧ wa ρ1 (fun rs ρ2 => wFs' ρ2 rs fun ds ρ3 => wMu ρ3 ro fun d put => op d ds fun d' r => Q r (put d')) E) E
theorem wMu_ex {ρ : Env} {r : R} {k : D → (D → Env) → Prop} (h : wMu ρ r k) : ∃ i d, r = .loc i ∧ ((getA ρ i = .ow d ∧ k d fun d' => setA ρ i (.ow d')) ∨ ∃ j, getA ρ i = .pr j d ∧ k d fun d' => setA ρ i (.pr j d')) := by
  unfold wMu at h
  split at h
  · rename_i i
    split at h
    · rename_i d e
      exact ⟨i, d, rfl, .inl ⟨e, h⟩⟩
    · rename_i j d e
      exact ⟨i, d, rfl, .inr ⟨j, e, h⟩⟩
    · exact h.elim
  · exact h.elim
/-- what is known of the object that the i-th name holds -/
theorem St.mu {F H : Hp} {L : Lbs} {τ : List (R × V)} {ρ : Env} {σ : L2.St} {r : R} {v : V} {k : D → (D → Env) → Prop} (S : St w P F L H ((r, v) :: τ) ρ σ) (h : wMu ρ r k) :
    ∃ i d put, r = .loc i ∧ σ[i]? = some (some v) ∧ k d put ∧ Ro w F H (fun b => L b = some (.sl i)) d v ∧
      ∀ d' p o, L p = some (.sl i) → Ro w F (upd H p o) (fun b => L b = some (.sl i)) d' v → St w P F L (upd H p o) τ (put d') σ := by
  obtain ⟨i, d, er, h2⟩ := wMu_ex h
  subst er
  have t : σ[i]? = some (some v) := S.tm.1
  clear h
  rcases h2 with ⟨e, h⟩ | ⟨j, e, h⟩
  · have q := S.slot (i := i) (by rw [e]; exact fun z => by cases z)
    rw [e] at q
    obtain ⟨v', e1, q⟩ := q
    rw [t] at e1; cases e1
    exact ⟨i, d, _, rfl, t, h, q, fun d' p o hp ro => S.pop.write hp ⟨v, t, ro⟩⟩
  · have q := S.slot (i := i) (by rw [e]; exact fun z => by cases z)
    rw [e] at q
    obtain ⟨v', e1, e2, q⟩ := q
    rw [t] at e1; cases e1
    exact ⟨i, d, _, rfl, t, h, q, fun d' p o hp ro => S.pop.write hp ⟨v, t, e2, ro⟩⟩
theorem Ro.nofrz {F H : Hp} {own : Addr → Prop} {d : D} {v : V} (h : Ro w F H own d v) : ∀ (a : Addr) (kvs : Obj × HO), v = .ref a → H a ≠ some (.frz kvs.1 kvs.2) := by
  intro a kvs e z
  subst e
  cases d with
  | lst ds => obtain ⟨b, vs, e, _, h1, h2⟩ := h; cases e; rw [z] at h1; cases h1
  | dic ds => obtain ⟨b, vs, e, _, h1, h2⟩ := h; cases e; rw [z] at h1; cases h1
  | dit ds => obtain ⟨b, vs, e, _, h1, h2⟩ := h; cases e; rw [z] at h1; cases h1
  | set ns => obtain ⟨b, e, _, h1⟩ := h; cases e; rw [z] at h1; cases h1
  | ins C fs => obtain ⟨b, dx, vs, e, _, _, h1, _⟩ := h; cases e; rw [z] at h1; cases h1
  | tup ds => exact h.elim
  | non => exact h.elim
  | bl b => exact h.elim
  | int i => exact h.elim
  | str z => exact h.elim
  | ty n => exact h.elim
  | adr a => exact h.elim
theorem se_mt {K : PySem.W.Frag} {T : String} {r : V → List V → Hp → VK → Prop} {op : OpM} {to : TE} {ta : TA} {wo : Wd} {wa : Wa} (hm : MM w r op) (ho : SE w W P to wo) (ha : SA w W P ta wa) : SE w W P (tBM K T r to ta) (wMt T op wo wa) := by
  intro F L H τ ρ σ Q Q' E' S hQ hE h
  refine ho F L H τ ρ σ _ _ E' S (fun ro ρ1 vo F1 L1 H1 h1 s1 S1 => ?_) hE h
  obtain ⟨i, d0, put0, rfl, t0, ⟨ty, h1⟩, ro0, _⟩ := S1.mu h1
  refine ⟨tyW_ok ro0.pk ro0.nofrz ty, ha F1 L1 H1 _ ρ1 σ _ _ E' S1 (fun ps ρ2 F2 L2 H2 h2 s2 S2 => ?_) (hE.step s1) h1⟩
  obtain ⟨ds, ρ3, F3, L3, h3, s3, S3, r3⟩ := S2.wFs' h2
  obtain ⟨i', d, put, e, t, h3, rod, back⟩ := S3.mu h3
  refine hm F3 H2 _ vo _ d ds Q _ S3.sub rod r3 (fun d' r v p o q hp ro' rv => ?_) h3
  exact hQ _ _ _ _ _ _ q (((s1.trans s2).trans s3).trans (Step.write hp)) ((back d' p o hp ro').push rv)
@[reducible] def wMt0 (T : String) (op : OpM) (wo : Wd) : Wd := fun ρ Q E => wo ρ (fun ro ρ1 => wMu ρ1 ro fun d put => tyW T d ∧ op d [] fun d' r => Q r (put d')) E
theorem se_mt0 {K : PySem.W.Frag} {T : String} {r : V → List V → Hp → VK → Prop} {op : OpM} {to : TE} {wo : Wd} (hm : MM w r op) (ho : SE w W P to wo) : SE w W P (tBM0 K T r to) (wMt0 T op wo) := by
  intro F L H τ ρ σ Q Q' E' S hQ hE h
  refine ho F L H τ ρ σ _ _ E' S (fun ro ρ1 vo F1 L1 H1 h1 s1 S1 => ?_) hE h
  obtain ⟨i, d, put, rfl, t, ⟨ty, h1⟩, rod, back⟩ := S1.mu h1
  refine ⟨tyW_ok rod.pk rod.nofrz ty, hm F1 H1 _ vo _ d [] Q _ S1.sub rod Rps.nil (fun d' r v p o q hp ro' rv => ?_) h1⟩
  exact hQ _ _ _ _ _ _ q (s1.trans (Step.write hp)) ((back d' p o hp ro').push rv)
theorem Rps.one' {F : Hp} {d : D} {vs : List V} (h : Rps w F [d] vs) : ∃ v, vs = [v] ∧ Rp w F d v := by
  unfold Rps at h
  obtain ⟨v, r, rfl, h1, h2⟩ := h
  unfold Rps at h2
  subst h2
  exact ⟨v, rfl, h1⟩
theorem line_lt {n : Nat} (h : n < 1000000) : n < sizeLine := Nat.lt_of_lt_of_le h (by decide)
@[reducible] def opAppend : OpM := fun d ds k => match d, ds with
  | .lst xs, [y] => xs.length < 1000000 ∧ k (.lst (xs ++ [y])) (.val .non)
  | _, _ => False
theorem mm_append : MM w rAppend opAppend := by
  intro F H own x vs d ds Q Q' sub ro rd hQ h
  unfold opAppend at h
  split at h
  · obtain ⟨a, us, rfl, h1, h2, h3⟩ := ro
    obtain ⟨v, rfl, rv⟩ := rd.one'
    refine ⟨a, us, v, rfl, rfl, h2, line_lt (by rw [h3.len]; exact h.1), ?_⟩
    exact hQ _ _ _ _ _ h.2 h1 ⟨a, _, rfl, h1, upd_same, h3.app (Rps.one rv)⟩ rpNon
  · exact h.elim
@[reducible] def opExtend : OpM := fun d ds k => match d, ds with
  | .lst xs, [.lst ys] => xs.length + ys.length ≤ 1000000 ∧ k (.lst (xs ++ ys)) (.val .non)
  | .lst xs, [.tup ys] => xs.length + ys.length ≤ 1000000 ∧ k (.lst (xs ++ ys)) (.val .non)
  | _, _ => False
theorem mm_extend {K : PySem.W.Frag} : MM w (rExtS K) opExtend := by
  intro F H own x vs d ds Q Q' sub ro rd hQ h
  unfold opExtend at h
  split at h
  · obtain ⟨a, us, rfl, h1, h2, h3⟩ := ro
    obtain ⟨v, rfl, rv⟩ := rd.one'
    unfold Rp at rv
    obtain ⟨b, ws, rfl, g1, g2⟩ := rv
    refine ⟨a, b, us, ws, rfl, rfl, h2, .inl (sub _ _ g1).rd, line_of (by rw [h3.len, g2.len]; exact h.1), ?_⟩
    exact hQ _ _ _ _ _ h.2 h1 ⟨a, _, rfl, h1, upd_same, h3.app g2⟩ rpNon
  · obtain ⟨a, us, rfl, h1, h2, h3⟩ := ro
    obtain ⟨v, rfl, rv⟩ := rd.one'
    unfold Rp at rv
    obtain ⟨b, ws, rfl, g1, g2⟩ := rv
    refine ⟨a, b, us, ws, rfl, rfl, h2, .inr (sub _ _ g1).sqT, line_of (by rw [h3.len, g2.len]; exact h.1), ?_⟩
    exact hQ _ _ _ _ _ h.2 h1 ⟨a, _, rfl, h1, upd_same, h3.app g2⟩ rpNon
  · exact h.elim
/-- pop(i) -/
@[reducible] def opPopAt : OpM := fun d ds k => match d, ds with
  | .lst xs, [.int i] => ∃ j y, ixN xs.length i = some j ∧ xs[j]? = some y ∧ (-(2 ^ 62) ≤ i ∧ i < 2 ^ 62) ∧ k (.lst (xs.eraseIdx j)) (.val y)
  | _, _ => False
theorem mm_popAt : MM w rPopAt opPopAt := by
  intro F H own x vs d ds Q Q' sub ro rd hQ h
  unfold opPopAt at h
  split at h
  · rename_i xs i
    obtain ⟨a, us, rfl, h1, h2, h3⟩ := ro
    obtain ⟨v, rfl, rv⟩ := rd.one'
    unfold Rp at rv
    subst rv
    obtain ⟨j, y, ej, ey, ⟨c1, c2⟩, h⟩ := h
    obtain ⟨u, eu, ru⟩ := h3.get ey
    refine ⟨a, us, i, j, u, rfl, rfl, h2, by omega, by omega, by rw [h3.len]; exact (ixN_seq ej).1, eu, ?_⟩
    exact hQ _ _ _ _ _ h h1 ⟨a, _, rfl, h1, upd_same, h3.erase j⟩ ru
  · exact h.elim
@[reducible] def opPop : OpM := fun d ds k => match d, ds with
  | .lst xs, [] => ∃ y, xs[xs.length - 1]? = some y ∧ k (.lst xs.dropLast) (.val y)
  | _, _ => False
theorem Rps.dropLast {F : Hp} {ds : List D} {vs : List V} (h : Rps w F ds vs) : Rps w F ds.dropLast vs.dropLast := by
  rw [List.dropLast_eq_take, List.dropLast_eq_take, h.len]
  exact h.take _
theorem mm_pop : MM w rPop opPop := by
  intro F H own x vs d ds Q Q' sub ro rd hQ h
  unfold opPop at h
  split at h
  · rename_i xs
    obtain ⟨a, us, rfl, h1, h2, h3⟩ := ro
    unfold Rps at rd
    subst rd
    obtain ⟨y, ey, h⟩ := h
    obtain ⟨u, eu, ru⟩ := h3.get ey
    refine ⟨a, us, u, rfl, rfl, h2, by rw [h3.len]; exact eu, ?_⟩
    exact hQ _ _ _ _ _ h h1 ⟨a, _, rfl, h1, upd_same, h3.dropLast⟩ ru
  · exact h.elim
end
end Fl

set_option Elab.async false
set_option linter.all false
set_option maxRecDepth 100000
set_option maxHeartbeats 400000
/-! FlJ: targets, statements, loops, comprehensions -/
namespace Fl
open PySem PySem.Spec PyProof.Rows L2
abbrev Wg := R → Env → (Env → Prop) → QE → Prop
abbrev Wgs := List D → Env → (Env → Prop) → QE → Prop
section
variable {w : World} {W : WX} {P : List V}
/-! ### targets; ts: the names that they store -/
def SG (w : World) (W : WX) (P : List V) (ts : List Nat) (g : TG) (wg : Wg) : Prop := ∀ (F : Hp) (L : Lbs) (H : Hp) (τ : List (R × V)) (ρ : Env) (σ : L2.St) (r : R) (v : V) (Q : L2.St → Hp → Prop) (Q' : Env → Prop) (E' : QE), NoLoc τ → St w P F L H ((r, v) :: τ) ρ σ →
  (∀ ρ' σ' F' L' H', Q' ρ' → Step F L H F' L' H' → St w P F' L' H' τ ρ' σ' → σ'.length = σ.length → (∀ i, i ∉ ts → σ'[i]? = σ[i]?) → Q σ' H') → XI w W P F L H E' → wg r ρ Q' E' → g v σ H Q
def SGs (w : World) (W : WX) (P : List V) (ts : List Nat) (g : TGs) (wg : Wgs) : Prop := ∀ (F : Hp) (L : Lbs) (H : Hp) (τ : List (R × V)) (ρ : Env) (σ : L2.St) (ds : List D) (vs : List V) (Q : L2.St → Hp → Prop) (Q' : Env → Prop) (E' : QE), NoLoc τ → St w P F L H τ ρ σ → Rps w F ds vs →
  (∀ ρ' σ' F' L' H', Q' ρ' → Step F L H F' L' H' → St w P F' L' H' τ ρ' σ' → σ'.length = σ.length → (∀ i, i ∉ ts → σ'[i]? = σ[i]?) → Q σ' H') → XI w W P F L H E' → wg ds ρ Q' E' → g vs σ H Q
structure FG (X : Cx) (W : WX) (P : List V) (ts : List Nat) (e : Expr) (g : TG) (wg : Wg) : Prop where
  pe : PG X e g
  se : SG X.w W P ts g wg
structure FGs (X : Cx) (W : WX) (P : List V) (ts : List Nat) (es : List Expr) (g : TGs) (wg : Wgs) : Prop where
  pe : PGs X es g
  se : SGs X.w W P ts g wg
@[reducible] def wName (i : Nat) : Wg := fun r ρ k _ => match r with
  | .new d => k (setA ρ i (.ow d))
  | r => wF ρ r fun d ρ1 => k (setA ρ1 i (.fz d))
theorem sg_name (i : Nat) : SG w W P [i] (gName i) (wName i) := by
  intro F L H τ ρ σ r v Q Q' E' n S hQ hE h
  have fr : ∀ (x : Option V) j, j ∉ [i] → (σ.set i x)[j]? = σ[j]? := fun x j hj => List.getElem?_set_ne fun z => hj (by simp [z])
  have go : ∀ {r : R}, St w P F L H ((r, v) :: τ) ρ σ → (wF ρ r fun d ρ1 => Q' (setA ρ1 i (.fz d))) → Q (σ.set i (some v)) H := fun {r} S h => by
    obtain ⟨d, ρ1, F1, L1, h1, s1, S1⟩ := S.wF h
    exact hQ _ _ _ _ _ h1 s1 (S1.setV n) (List.length_set) (fr _)
  unfold wName at h
  cases r with
  | new d => exact hQ _ _ _ _ _ h Step.rel (S.setN n) (List.length_set) (fr _)
  | val d => exact go S h
  | loc j => exact go S h
  | any => exact go S h
@[reducible] def wTupG (ws : Wgs) : Wg := fun r ρ k E => wF ρ r fun d ρ1 => match d with
  | .tup ds => ws ds ρ1 k E
  | _ => False
@[reducible] def wGNil : Wgs := fun ds ρ k _ => match ds with
  | [] => k ρ
  | _ => False
@[reducible] def wGCons (wg : Wg) (ws : Wgs) : Wgs := fun ds ρ k E => match ds with
  | d :: r => wg (.val d) ρ (fun ρ1 => ws r ρ1 k E) E
  | [] => False
theorem sgs_nil : SGs w W P [] gNil wGNil := by
  intro F L H τ ρ σ ds vs Q Q' E' n S rd hQ hE h
  unfold wGNil at h
  split at h
  · unfold Rps at rd
    exact ⟨rd, hQ _ _ _ _ _ h .refl S rfl fun _ _ => rfl⟩
  · exact h.elim
theorem sgs_cons {ts us : List Nat} {g : TG} {u : TGs} {wg : Wg} {ws : Wgs} (hg : SG w W P ts g wg) (hu : SGs w W P us u ws) : SGs w W P (ts ++ us) (gCons g u) (wGCons wg ws) := by
  intro F L H τ ρ σ ds vs Q Q' E' n S rd hQ hE h
  unfold wGCons at h
  split at h
  · unfold Rps at rd
    obtain ⟨v, r, rfl, r1, r2⟩ := rd
    refine ⟨v, r, rfl, hg F L H τ ρ σ _ v _ _ E' n (S.push r1) (fun ρ1 σ1 F1 L1 H1 h1 s1 S1 l1 f1 => ?_) hE h⟩
    refine hu F1 L1 H1 τ ρ1 σ1 _ r _ _ E' n S1 (r2.mono s1.mono) (fun ρ2 σ2 F2 L2 H2 h2 s2 S2 l2 f2 => ?_) (hE.step s1) h1
    refine hQ _ _ _ _ _ h2 (s1.trans s2) S2 (l2.trans l1) fun i hi => ?_
    rw [List.mem_append, not_or] at hi
    exact (f2 i hi.2).trans (f1 i hi.1)
  · exact h.elim
theorem sg_tup {K : PySem.W.Frag} {n : Nat} {ts : List Nat} {u : TGs} {ws : Wgs} (hu : SGs w W P ts u ws) (hl : ∀ vs σ H Q, u vs σ H Q → vs.length = n) : SG w W P ts (gTup K n u) (wTupG ws) := by
  intro F L H τ ρ σ r v Q Q' E' nl S hQ hE h
  obtain ⟨d, ρ1, F1, L1, h1, s1, S1⟩ := S.wF h
  cases d with
  | tup ds =>
    have rp : Rp w F1 (.tup ds) v := S1.tm.1
    unfold Rp at rp
    obtain ⟨a, vs, rfl, g1, g2⟩ := rp
    have z := hu F1 L1 H τ ρ1 σ ds vs Q Q' E' nl S1.pop g2 (fun ρ2 σ2 F2 L2 H2 h2 s2 S2 l2 f2 => hQ _ _ _ _ _ h2 (s1.trans s2) S2 l2 f2) (hE.step s1) h1
    exact ⟨a, vs, rfl, (S1.sub _ _ g1).sqT, hl _ _ _ _ z, z⟩
  | _ => exact h1.elim
/-! ### stores -/
def setI (xs : List D) (j : Int) (d : D) : Option (List D) := (ixN xs.length j).map fun n => xs.set n d
@[reducible] def stD (c i d : D) (k : D → Prop) : Prop := match c with
  | .lst xs => (match i with
    | .int j => ∃ ys, setI xs j d = some ys ∧ k (.lst ys)
    | _ => False)
  | .dic kvs => ∃ c, key? i = some c ∧ kvs.length < 1000000 ∧ k (.dic (putD kvs c d))
  | .dit kvs => (match i with
    | .tup is => ∃ c, keys? is = some c ∧ kvs.length < 1000000 ∧ k (.dit (putD kvs c d))
    | _ => False)
  | _ => False
theorem RpK.any {F : Hp} {k : Key} : ∀ {ks : List (Key × D)} {vs : List (Key × V)}, RpK w F ks vs → (ks.any fun kv => decide (kv.1 = k)) = vs.any fun kv => decide (kv.1 = k)
  | [], _, h => by unfold RpK at h; subst h; rfl
  | (j, d) :: ks, _, h => by
    unfold RpK at h
    obtain ⟨v, r, rfl, h1, h2⟩ := h
    rw [List.any_cons, List.any_cons, RpK.any h2]
theorem RpK.repl {F : Hp} {k : Key} {y : D} {u : V} (hy : Rp w F y u) : ∀ {ks : List (Key × D)} {vs : List (Key × V)}, RpK w F ks vs → RpK w F (ks.map fun kv => if kv.1 = k then (kv.1, y) else kv) (vs.map fun kv => if kv.1 = k then (kv.1, u) else kv)
  | [], _, h => by unfold RpK at h; subst h; unfold RpK; rfl
  | (j, d) :: ks, _, h => by
    unfold RpK at h
    obtain ⟨v, r, rfl, h1, h2⟩ := h
    rw [List.map_cons, List.map_cons]
    by_cases e : j = k
    · rw [if_pos e, if_pos e]
      unfold RpK
      exact ⟨u, _, rfl, hy, RpK.repl hy h2⟩
    · rw [if_neg e, if_neg e]
      unfold RpK
      exact ⟨v, _, rfl, h1, RpK.repl hy h2⟩
theorem RpK.app {F : Hp} {k : Key} {y : D} {u : V} (hy : Rp w F y u) : ∀ {ks : List (Key × D)} {vs : List (Key × V)}, RpK w F ks vs → RpK w F (ks ++ [(k, y)]) (vs ++ [(k, u)])
  | [], _, h => by
    unfold RpK at h; subst h
    show RpK w F [(k, y)] [(k, u)]
    unfold RpK
    exact ⟨u, [], rfl, hy, by unfold RpK; rfl⟩
  | (j, d) :: ks, _, h => by
    unfold RpK at h
    obtain ⟨v, r, rfl, h1, h2⟩ := h
    rw [List.cons_append, List.cons_append]
    unfold RpK
    exact ⟨v, _, rfl, h1, RpK.app hy h2⟩
theorem RpK.put {F : Hp} {k : Key} {y : D} {u : V} (hy : Rp w F y u) {ks : List (Key × D)} {vs : List (Key × V)} (h : RpK w F ks vs) : RpK w F (putD ks k y) (putK vs k u) := by
  unfold putD putK
  rw [h.any]
  split
  · exact h.repl hy
  · exact h.app hy
theorem RpT.any {F : Hp} {k : List Key} : ∀ {ks : List (List Key × D)} {vs : List (List Key × V)}, RpT w F ks vs → (ks.any fun kv => decide (kv.1 = k)) = vs.any fun kv => decide (kv.1 = k)
  | [], _, h => by unfold RpT at h; subst h; rfl
  | (j, d) :: ks, _, h => by
    unfold RpT at h
    obtain ⟨v, r, rfl, h1, h2⟩ := h
    rw [List.any_cons, List.any_cons, RpT.any h2]
theorem RpT.repl {F : Hp} {k : List Key} {y : D} {u : V} (hy : Rp w F y u) : ∀ {ks : List (List Key × D)} {vs : List (List Key × V)}, RpT w F ks vs → RpT w F (ks.map fun kv => if kv.1 = k then (kv.1, y) else kv) (vs.map fun kv => if kv.1 = k then (kv.1, u) else kv)
  | [], _, h => by unfold RpT at h; subst h; unfold RpT; rfl
  | (j, d) :: ks, _, h => by
    unfold RpT at h
    obtain ⟨v, r, rfl, h1, h2⟩ := h
    rw [List.map_cons, List.map_cons]
    by_cases e : j = k
    · rw [if_pos e, if_pos e]
      unfold RpT
      exact ⟨u, _, rfl, hy, RpT.repl hy h2⟩
    · rw [if_neg e, if_neg e]
      unfold RpT
      exact ⟨v, _, rfl, h1, RpT.repl hy h2⟩
theorem RpT.app {F : Hp} {k : List Key} {y : D} {u : V} (hy : Rp w F y u) : ∀ {ks : List (List Key × D)} {vs : List (List Key × V)}, RpT w F ks vs → RpT w F (ks ++ [(k, y)]) (vs ++ [(k, u)])
  | [], _, h => by
    unfold RpT at h; subst h
    show RpT w F [(k, y)] [(k, u)]
    unfold RpT
    exact ⟨u, [], rfl, hy, by unfold RpT; rfl⟩
  | (j, d) :: ks, _, h => by
    unfold RpT at h
    obtain ⟨v, r, rfl, h1, h2⟩ := h
    rw [List.cons_append, List.cons_append]
    unfold RpT
    exact ⟨v, _, rfl, h1, RpT.app hy h2⟩
theorem RpT.put {F : Hp} {k : List Key} {y : D} {u : V} (hy : Rp w F y u) {ks : List (List Key × D)} {vs : List (List Key × V)} (h : RpT w F ks vs) : RpT w F (putD ks k y) (putK vs k u) := by
  unfold putD putK
  rw [h.any]
  split
  · exact h.repl hy
  · exact h.app hy
def rSetAll : V → V → V → Hp → (Hp → Prop) → Prop := fun o i v H Q => rSetL o i v H Q ∨ ∃ a H4, o = .ref a ∧ DPut H a i v H4 ∧ Q H4
theorem set_all {X : Cx} (hu : X.A.units + 1 < cLine) : PSet X rSetAll := by
  intro pins s σ H o i v ov iv u Q I r1 r2 r3 h
  rcases h with h | ⟨a, H4, rfl, g, q⟩
  · exact set_list pins s σ H o i v ov iv u Q I r1 r2 r3 h
  · obtain rfl : ov = Value.ref a := r1
    exact d_setItem hu I g r2 r3 fun s' I' => ⟨H4, I', q⟩
@[reducible] def wSubG (wo wi : Wd) : Wg := fun r ρ k E => wF ρ r fun d ρ0 => wo ρ0 (fun ro ρ1 => wi ρ1 (fun ri ρ2 => wD ρ2 ri fun di => wMu ρ2 ro fun c put => stD c di d fun c' => k (put c')) E) E
theorem sg_sub {to ti : TE} {wo wi : Wd} (ho : SE w W P to wo) (hi : SE w W P ti wi) : SG w W P [] (gSub to ti rSetAll) (wSubG wo wi) := by
  intro F L H τ ρ σ r v Q Q' E' nl S hQ hE h
  obtain ⟨d, ρ0, F0, L0, h0, s0, S0⟩ := S.wF h
  refine ho F0 L0 H _ ρ0 σ _ _ E' S0 (fun ro ρ1 vo F1 L1 H1 h1 s1 S1 => ?_) (hE.step s0) h0
  refine hi F1 L1 H1 _ ρ1 σ _ _ E' S1 (fun ri ρ2 vi F2 L2 H2 h2 s2 S2 => ?_) (hE.step (s0.trans s1)) h1
  obtain ⟨di, e, h2⟩ := wD_ex h2
  have hx := S2.pk (p := (ri, vi)) (by simp) e
  obtain ⟨i, c, put, rfl, t, h3, ro', back⟩ := S2.pop.mu h2
  have rv : Rp w F2 d v := Rp.mono (s1.trans s2).mono S0.tm.1
  have fin : ∀ c' p o, L2 p = some (.sl i) → Q' (put c') → Ro w F2 (upd H2 p o) (fun b => L2 b = some (.sl i)) c' vo → Q σ (upd H2 p o) := fun c' p o hp q r2 =>
    hQ _ _ _ _ _ q (((s0.trans s1).trans s2).trans (Step.write hp)) (back c' p o hp r2).pop rfl fun _ _ => rfl
  unfold stD at h3
  split at h3
  · obtain ⟨a, vs, rfl, g1, g2, g3⟩ := ro'
    split at h3
    · cases hx.int
      obtain ⟨ys, ey, h3⟩ := h3
      unfold setI at ey
      cases en : ixN _ _ with
      | none => rw [en] at ey; cases ey
      | some n =>
        rw [en] at ey
        cases ey
        exact .inl ⟨a, vs, _, n, rfl, rfl, g2, by rw [g3.len]; exact en, fin _ a _ g1 h3 ⟨a, _, rfl, g1, upd_same, g3.set n rv⟩⟩
    · exact h3.elim
  · obtain ⟨a, vs, rfl, g1, g2, g3⟩ := ro'
    obtain ⟨k, ek, h3⟩ := h3
    exact .inr ⟨a, _, rfl, .inl ⟨vs, k, g2, key?_of ek hx, line_lt (by rw [g3.len]; exact h3.1), rfl⟩, fin _ a _ g1 h3.2 ⟨a, _, rfl, g1, upd_same, g3.put rv⟩⟩
  · obtain ⟨a, vs, rfl, g1, g2, g3⟩ := ro'
    split at h3
    · obtain ⟨k, ek, h3⟩ := h3
      obtain ⟨b, us, rfl, g4, g5⟩ := hx.tup
      rw [keys?_of ek g5] at g4
      have g6 : H2 b = some (.tup (k.map kV)) := (S2.sub _ _ g4).ex fun z => z
      exact .inr ⟨a, _, rfl, .inr ⟨vs, k, b, g2, rfl, g6, line_lt (by rw [g3.len]; exact h3.1), rfl⟩, fin _ a _ g1 h3.2 ⟨a, _, rfl, g1, upd_same, g3.put rv⟩⟩
    · exact h3.elim
  · exact h3.elim
end
end Fl

set_option Elab.async false
set_option linter.all false
set_option maxRecDepth 100000
set_option maxHeartbeats 400000
/-! FlK: statements, loops, comprehensions -/
namespace Fl
open PySem PySem.Spec PyProof.Rows L2
structure EndF where
  nx : Env → Prop
  rt : R → Env → Prop
  bk : Env → Prop
  ct : Env → Prop
  ex : QE
/-- another end of the row -/
@[reducible] def EndF.sn (Z : EndF) (f : Env → Prop) : EndF := ⟨f, Z.rt, Z.bk, Z.ct, Z.ex⟩
/-- the ends within a loop -/
@[reducible] def EndF.lp (Z : EndF) (f : Env → Prop) : EndF := ⟨f, Z.rt, Z.nx, f, Z.ex⟩
abbrev Ws := EndF → Env → Prop
/-- what is wanted behind a statement is served -/
structure Imp (w : World) (W : WX) (P : List V) (F : Hp) (L : Lbs) (H : Hp) (D : Ends) (D' : EndF) : Prop where
  nx : ∀ ρ' σ' F' L' H', D'.nx ρ' → Step F L H F' L' H' → St w P F' L' H' [] ρ' σ' → D.nx σ' H'
  rt : ∀ r ρ' v σ' F' L' H', D'.rt r ρ' → Step F L H F' L' H' → St w P F' L' H' [(r, v)] ρ' σ' → D.rt v H'
  bk : ∀ ρ' σ' F' L' H', D'.bk ρ' → Step F L H F' L' H' → St w P F' L' H' [] ρ' σ' → D.bk σ' H'
  ct : ∀ ρ' σ' F' L' H', D'.ct ρ' → Step F L H F' L' H' → St w P F' L' H' [] ρ' σ' → D.ct σ' H'
  ex : XI w W P F L H D'.ex
section
variable {w : World} {W : WX} {P : List V}
theorem Imp.step {F F1 : Hp} {L L1 : Lbs} {H H1 : Hp} {D : Ends} {D' : EndF} (i : Imp w W P F L H D D') (s : Step F L H F1 L1 H1) : Imp w W P F1 L1 H1 D D' :=
  ⟨fun a b c d e f g h => i.nx a b c d e f (s.trans g) h, fun a b c d e f g h k l => i.rt a b c d e f g h (s.trans k) l, fun a b c d e f g h => i.bk a b c d e f (s.trans g) h, fun a b c d e f g h => i.ct a b c d e f (s.trans g) h, i.ex.step s⟩
def SS (w : World) (W : WX) (P : List V) (t : TS) (ws : Ws) : Prop := ∀ (F : Hp) (L : Lbs) (H : Hp) (ρ : Env) (σ : L2.St) (D : Ends) (D' : EndF), St w P F L H [] ρ σ → Imp w W P F L H D D' → ws D' ρ → t D σ H
structure FS (X : Cx) (W : WX) (P : List V) (s : Stmt) (t : TS) (ws : Ws) : Prop where
  pe : PS X s t
  se : SS X.w W P t ws
structure FSs (X : Cx) (W : WX) (P : List V) (s : List Stmt) (t : TS) (ws : Ws) : Prop where
  pe : PSs X s t
  se : SS X.w W P t ws
@[reducible] def wNext : Ws := fun D ρ => D.nx ρ
@[reducible] def wSeq (a b : Ws) : Ws := fun Z ρ => a (Z.sn fun ρ1 => nfE ρ1 (b Z)) ρ
/-- behind the first statement a word is said: what follows is shown once, from it -/
@[reducible] def wCut (a b : Ws) : Ws := fun Z ρ => ∃ M : Env → Prop, a (Z.sn M) ρ ∧ ∀ ρ', M ρ' → b Z ρ'
theorem ss_next : SS w W P tNext wNext := fun F L H ρ σ D D' S I h => I.nx _ _ _ _ _ h .refl S
theorem ss_seq {t u : TS} {a b : Ws} (h1 : SS w W P t a) (h2 : SS w W P u b) : SS w W P (tSeq t u) (wSeq a b) := fun F L H ρ σ D D' S I h =>
  h1 F L H ρ σ { D with nx := u D } { D' with nx := fun ρ1 => nfE ρ1 (b D') } S ⟨fun ρ' σ' F' L' H' q s S' => h2 F' L' H' ρ' σ' D D' S' (I.step s) (of_nfE q), I.rt, I.bk, I.ct, I.ex⟩ h
theorem ss_cut {t u : TS} {a b : Ws} (h1 : SS w W P t a) (h2 : SS w W P u b) : SS w W P (tSeq t u) (wCut a b) := fun F L H ρ σ D D' S I h => by
  obtain ⟨M, ha, hb⟩ := h
  exact h1 F L H ρ σ { D with nx := u D } { D' with nx := M } S ⟨fun ρ' σ' F' L' H' q s S' => h2 F' L' H' ρ' σ' D D' S' (I.step s) (hb _ q), I.rt, I.bk, I.ct, I.ex⟩ ha
@[reducible] def wBreak : Ws := fun D ρ => D.bk ρ
@[reducible] def wCont : Ws := fun D ρ => D.ct ρ
theorem ss_break : SS w W P tBreak wBreak := fun F L H ρ σ D D' S I h => I.bk _ _ _ _ _ h .refl S
theorem ss_cont : SS w W P tCont wCont := fun F L H ρ σ D D' S I h => I.ct _ _ _ _ _ h .refl S
@[reducible] def wDrop (wa : Wd) : Ws := fun D ρ => wa ρ (fun _ ρ1 => D.nx ρ1) D.ex
theorem ss_drop {t : TE} {wa : Wd} (ha : SE w W P t wa) : SS w W P (tDrop t) (wDrop wa) := fun F L H ρ σ D D' S I h =>
  ha F L H [] ρ σ _ _ _ S (fun r ρ1 v F1 L1 H1 h1 s1 S1 => I.nx _ _ _ _ _ h1 s1 S1.pop) I.ex h
@[reducible] def wRet (wa : Wd) : Ws := fun D ρ => wa ρ D.rt D.ex
theorem ss_ret {t : TE} {wa : Wd} (ha : SE w W P t wa) : SS w W P (tRet t) (wRet wa) := fun F L H ρ σ D D' S I h =>
  ha F L H [] ρ σ _ _ _ S (fun r ρ1 v F1 L1 H1 h1 s1 S1 => I.rt _ _ _ _ _ _ _ h1 s1 S1) I.ex h
@[reducible] def wRetN : Ws := fun D ρ => D.rt (.val .non) ρ
theorem ss_retN : SS w W P tRetN wRetN := fun F L H ρ σ D D' S I h => I.rt _ _ _ _ _ _ _ h .refl (S.push rpNon)
@[reducible] def wIfS (t : Wt) (a b : Ws) : Ws := fun D ρ => t ρ (fun c ρ1 => if c = true then a D ρ1 else b D ρ1) D.ex
theorem ss_if {t : TT} {u v : TS} {wt : Wt} {a b : Ws} (ht : STt w W P t wt) (ha : SS w W P u a) (hb : SS w W P v b) : SS w W P (tIfS t u v) (wIfS wt a b) := fun F L H ρ σ D D' S I h =>
  ht F L H [] ρ σ _ _ _ S (fun c ρ1 F1 L1 H1 h1 s1 S1 => by
    cases c with
    | true => exact ha F1 L1 H1 ρ1 σ D D' S1 (I.step s1) h1
    | false => exact hb F1 L1 H1 ρ1 σ D D' S1 (I.step s1) h1) I.ex h
@[reducible] def wAsg (wa : Wd) (wg : Wg) : Ws := fun D ρ => wa ρ (fun r ρ1 => wg r ρ1 D.nx D.ex) D.ex
theorem ss_asg {t : TE} {g : TG} {wa : Wd} {wg : Wg} {ts : List Nat} (ha : SE w W P t wa) (hg : SG w W P ts g wg) : SS w W P (tAsg t g) (wAsg wa wg) := fun F L H ρ σ D D' S I h =>
  ha F L H [] ρ σ _ _ _ S (fun r ρ1 v F1 L1 H1 h1 s1 S1 => hg F1 L1 H1 [] ρ1 σ r v _ _ _ True.intro S1 (fun ρ2 σ2 F2 L2 H2 h2 s2 S2 _ _ => I.nx _ _ _ _ _ h2 (s1.trans s2) S2) (I.ex.step s1) h1) I.ex h
/-- a, b = x, y: what is stored is no name's object -/
@[reducible] def isLoc : R → Bool
  | .loc _ => true
  | .any => true
  | _ => false
theorem noLoc_of {r : R} (h : isLoc r = false) : ∀ i, r ≠ .loc i := by
  intro i e
  rw [e] at h
  cases h
@[reducible] def wPar (i j : Nat) (wa : Wa) : Ws := fun D ρ => wa ρ (fun rs ρ1 => match rs with
  | [r, s] => (isLoc r = false ∧ isLoc s = false) ∧ wName j s ρ1 (fun ρ2 => wName i r ρ2 D.nx D.ex) D.ex
  | _ => False) D.ex
theorem ss_par {i j : Nat} {ta : TA} {wa : Wa} (hij : i ≠ j) (ha : SAn w W P 2 ta wa) : SS w W P (tPar i j ta) (wPar i j wa) := fun F L H ρ σ D D' S I h =>
  ha F L H [] ρ σ _ _ _ S (fun ps ρ1 F1 L1 H1 en h1 s1 S1 => by
    match ps, en with
    | [p, q], _ =>
      obtain ⟨⟨n1, n2⟩, h1⟩ := h1
      have S1 : St w P F1 L1 H1 ((q.1, q.2) :: (p.1, p.2) :: []) ρ1 σ := S1
      refine ⟨p.2, q.2, rfl, ?_⟩
      rw [List.set_comm _ _ hij]
      refine sg_name j F1 L1 H1 [(p.1, p.2)] ρ1 σ q.1 q.2 (fun σ' H' => D.nx (σ'.set i (some p.2)) H') _ _ ⟨noLoc_of n1, True.intro⟩ S1 (fun ρ2 σ2 F2 L2 H2 h2 s2 S2 _ _ => ?_) (I.ex.step s1) h1
      exact sg_name i F2 L2 H2 [] ρ2 σ2 p.1 p.2 D.nx _ _ True.intro S2 (fun ρ3 σ3 F3 L3 H3 h3 s3 S3 _ _ => I.nx _ _ _ _ _ h3 ((s1.trans s2).trans s3) S3) (I.ex.step (s1.trans s2)) h2) I.ex h
@[reducible] def wPar3 (i j l : Nat) (wa : Wa) : Ws := fun D ρ => wa ρ (fun rs ρ1 => match rs with
  | [r, s, t] => (isLoc r = false ∧ isLoc s = false ∧ isLoc t = false) ∧ wName l t ρ1 (fun ρ2 => wName j s ρ2 (fun ρ3 => wName i r ρ3 D.nx D.ex) D.ex) D.ex
  | _ => False) D.ex
theorem ss_par3 {i j l : Nat} {ta : TA} {wa : Wa} (hij : i ≠ j) (hil : i ≠ l) (hjl : j ≠ l) (ha : SAn w W P 3 ta wa) : SS w W P (tPar3 i j l ta) (wPar3 i j l wa) := fun F L H ρ σ D D' S I h =>
  ha F L H [] ρ σ _ _ _ S (fun ps ρ1 F1 L1 H1 en h1 s1 S1 => by
    match ps, en with
    | [p, q, r], _ =>
      obtain ⟨⟨n1, n2, n3⟩, h1⟩ := h1
      have S1 : St w P F1 L1 H1 ((r.1, r.2) :: (q.1, q.2) :: (p.1, p.2) :: []) ρ1 σ := S1
      refine ⟨p.2, q.2, r.2, rfl, ?_⟩
      have e : ((σ.set i (some p.2)).set j (some q.2)).set l (some r.2) = ((σ.set l (some r.2)).set j (some q.2)).set i (some p.2) := by
        rw [List.set_comm _ _ hjl, List.set_comm _ _ hil, List.set_comm _ _ hij]
      rw [e]
      refine sg_name l F1 L1 H1 [(q.1, q.2), (p.1, p.2)] ρ1 σ r.1 r.2 (fun σ' H' => D.nx ((σ'.set j (some q.2)).set i (some p.2)) H') _ _ ⟨noLoc_of n2, noLoc_of n1, True.intro⟩ S1 (fun ρ2 σ2 F2 L2 H2 h2 s2 S2 _ _ => ?_) (I.ex.step s1) h1
      refine sg_name j F2 L2 H2 [(p.1, p.2)] ρ2 σ2 q.1 q.2 (fun σ' H' => D.nx (σ'.set i (some p.2)) H') _ _ ⟨noLoc_of n1, True.intro⟩ S2 (fun ρ3 σ3 F3 L3 H3 h3 s3 S3 _ _ => ?_) (I.ex.step (s1.trans s2)) h2
      exact sg_name i F3 L3 H3 [] ρ3 σ3 p.1 p.2 D.nx _ _ True.intro S3 (fun ρ4 σ4 F4 L4 H4 h4 s4 S4 _ _ => I.nx _ _ _ _ _ h4 (((s1.trans s2).trans s3).trans s4) S4) (I.ex.step ((s1.trans s2).trans s3)) h3) I.ex h
/-! ### what is walked -/
abbrev WI := Env → (List D → Env → Prop) → QE → Prop
/-- an iterator that yields the data ds -/
def ItOk (w : World) (F0 : Hp) (J : It) (ds : List D) : Prop := ∀ (P : List V) (F : Hp) (L : Lbs) (H : Hp) (τ : List (R × V)) (ρ : Env) (σ : L2.St) (i : Nat), (∀ a o, F0 a = some o → F a = some o) → St w P F L H τ ρ σ →
  (i < ds.length → J.go i H ∧ ∀ x H', J.yld i H x H' → ∃ d F' L', ds[i]? = some d ∧ Step F L H F' L' H' ∧ St w P F' L' H' ((.val d, x) :: τ) ρ σ) ∧ (ds.length ≤ i → J.stop i H)
def SI (w : World) (W : WX) (P : List V) (t : TI) (wi : WI) : Prop := ∀ (F : Hp) (L : Lbs) (H : Hp) (τ : List (R × V)) (ρ : Env) (σ : L2.St) (Q : It → Hp → Prop) (Q' : List D → Env → Prop) (E' : QE), St w P F L H τ ρ σ →
  (∀ J ds ρ' F' L' H', Q' ds ρ' → Step F L H F' L' H' → St w P F' L' H' τ ρ' σ → ItOk w F' J ds → Q J H') → XI w W P F L H E' → wi ρ Q' E' → t σ H Q
structure FI (X : Cx) (W : WX) (P : List V) (tg iter : Expr) (t : TI) (wi : WI) : Prop where
  pe : PI X tg iter t
  se : SI X.w W P t wi
/-- a list or a tuple -/
@[reducible] def wSeqI (wa : Wd) : WI := fun ρ Q E => wa ρ (fun r ρ1 => wF ρ1 r fun d ρ2 => match d with
  | .lst ds => Q ds ρ2
  | .tup ds => Q ds ρ2
  | _ => False) E
def iSeq (K : PySem.W.Frag) (tl : TE) : TI := fun σ H R => tl σ H fun x H1 => ∃ a, x = .ref a ∧ (((∃ xs, SqL K H1 a xs) ∧ R (Itl K a) H1) ∨ ((∃ xs, SqT K H1 a xs) ∧ R (Itt K a) H1))
theorem pi_seq {X : Cx} {tg l : Expr} {tl : TE} (hl : PE X l tl) : PI X tg l (iSeq X.K tl) := by
  refine ⟨fun pins s σ H R I h => ?_⟩
  refine thn (hl.run pins s σ H _ I h) fun v s1 ⟨x, H1, I1, r1, q1⟩ => ?_
  obtain ⟨a, e, q⟩ := q1
  subst e
  cases r1
  rcases q with ⟨⟨xs, hq⟩, q⟩ | ⟨⟨xs, hq⟩, q⟩
  · obtain ⟨its, rv, p, hz⟩ := I1.list hq
    refine wpAny_pyIter_list p.isList ?_
    refine ⟨s1.heap.objs.size, [s1.heap.objs.size], _, _, H1, rfl, I1.kept (t' := s1.toks) fun b o e => Heap.get?_push_of_some _ e, turn_list a _, ⟨_, Heap.get?_push_size _ rfl, rfl, rfl⟩, fun b hb => ?_, q⟩
    have e : b = s1.heap.objs.size := by simpa using hb
    subst e
    exact I1.fpOk (Nat.le_refl _) (I1.hok.fresh (Nat.le_refl _))
  · obtain ⟨its, rv, p, hz⟩ := I1.tuple hq
    refine wpAny_pyIter_tuple (show s1.heap.IsTuple a its.toArray from p) ?_
    refine ⟨s1.heap.objs.size, [s1.heap.objs.size], _, _, H1, rfl, I1.kept (t' := s1.toks) fun b o e => Heap.get?_push_of_some _ e, turn_tuple a _, ⟨_, Heap.get?_push_size _ rfl, rfl, rfl⟩, fun b hb => ?_, q⟩
    have e : b = s1.heap.objs.size := by simpa using hb
    subst e
    exact I1.fpOk (Nat.le_refl _) (I1.hok.fresh (Nat.le_refl _))
theorem it_list {K : PySem.W.Frag} {F0 : Hp} {a : Addr} {ds : List D} {vs : List V} (h : F0 a = some (.lst vs)) (r : Rps w F0 ds vs) : ItOk w F0 (Itl K a) ds := by
  intro P F L H τ ρ σ i m S
  have q : SqL K H a vs := (S.sub _ _ (m _ _ h)).sqL
  refine ⟨fun hi => ?_, fun hi => ⟨vs, q, by rw [r.len]; exact hi⟩⟩
  have e : ds[i]? = some ds[i] := List.getElem?_eq_getElem hi
  obtain ⟨v, ev, rv⟩ := r.get e
  refine ⟨⟨vs, v, q, ev⟩, fun x H' y => ?_⟩
  obtain ⟨rfl, y⟩ := y
  have z := y vs q
  rw [ev] at z
  cases z
  exact ⟨_, F, L, e, .refl, S.push (rv.mono m)⟩
theorem it_tup {K : PySem.W.Frag} {F0 : Hp} {a : Addr} {ds : List D} {vs : List V} (h : F0 a = some (.tup vs)) (r : Rps w F0 ds vs) : ItOk w F0 (Itt K a) ds := by
  intro P F L H τ ρ σ i m S
  have q : SqT K H a vs := (S.sub _ _ (m _ _ h)).sqT
  refine ⟨fun hi => ?_, fun hi => ⟨vs, q, by rw [r.len]; exact hi⟩⟩
  have e : ds[i]? = some ds[i] := List.getElem?_eq_getElem hi
  obtain ⟨v, ev, rv⟩ := r.get e
  refine ⟨⟨vs, v, q, ev⟩, fun x H' y => ?_⟩
  obtain ⟨rfl, y⟩ := y
  have z := y vs q
  rw [ev] at z
  cases z
  exact ⟨_, F, L, e, .refl, S.push (rv.mono m)⟩
theorem si_seq {K : PySem.W.Frag} {t : TE} {wa : Wd} (ha : SE w W P t wa) : SI w W P (iSeq K t) (wSeqI wa) := by
  intro F L H τ ρ σ Q Q' E' S hQ hE h
  refine ha F L H τ ρ σ _ _ _ S (fun r ρ1 v F1 L1 H1 h1 s1 S1 => ?_) hE h
  obtain ⟨d, ρ2, F2, L2, h2, s2, S2⟩ := S1.wF h1
  cases d with
  | lst ds =>
    have rp : Rp w F2 (.lst ds) v := S2.tm.1
    unfold Rp at rp
    obtain ⟨a, vs, rfl, g1, g2⟩ := rp
    exact ⟨a, rfl, .inl ⟨⟨vs, (S2.sub _ _ g1).sqL⟩, hQ _ ds _ _ _ _ h2 (s1.trans s2) S2.pop (it_list g1 g2)⟩⟩
  | tup ds =>
    have rp : Rp w F2 (.tup ds) v := S2.tm.1
    unfold Rp at rp
    obtain ⟨a, vs, rfl, g1, g2⟩ := rp
    exact ⟨a, rfl, .inr ⟨⟨vs, (S2.sub _ _ g1).sqT⟩, hQ _ ds _ _ _ _ h2 (s1.trans s2) S2.pop (it_tup g1 g2)⟩⟩
  | _ => exact h2.elim
/-- ranges -/
def ranD (lo : Int) (n : Nat) : List D := (List.range n).map fun i => .int (lo + (i : Nat))
theorem ranD_get {lo : Int} {n i : Nat} (h : i < n) : (ranD lo n)[i]? = some (.int (lo + i)) := by
  unfold ranD
  rw [List.getElem?_map, List.getElem?_range h]
  rfl
theorem it_ran {lo : Int} {n : Nat} {F0 : Hp} : ItOk w F0 (Itr lo n) (ranD lo n) := by
  intro P F L H τ ρ σ i m S
  have e : (ranD lo n).length = n := by unfold ranD; rw [List.length_map, List.length_range]
  rw [e]
  refine ⟨fun hi => ⟨hi, fun x H' y => ?_⟩, fun hi => hi⟩
  obtain ⟨rfl, rfl⟩ := y
  exact ⟨_, F, L, ranD_get hi, .refl, S.push rpInt⟩
@[reducible] def wRan1 (wa : Wa) : WI := fun ρ Q E => wa ρ (fun rs ρ1 => wDs ρ1 rs fun ds => match ds with
  | [.int n] => (-1000000 ≤ n ∧ n ≤ 1000000) ∧ Q (ranD 0 n.toNat) ρ1
  | _ => False) E
theorem si_ran1 {ta : TA} {wa : Wa} (ha : SA w W P ta wa) : SI w W P (iRng1 ta) (wRan1 wa) := by
  intro F L H τ ρ σ Q Q' E' S hQ hE h
  refine ha F L H τ ρ σ _ _ _ S (fun ps ρ1 F1 L1 H1 h1 s1 S1 => ?_) hE h
  obtain ⟨ds, e, h1⟩ := wDs_ex h1
  have pk := S1.pks (ps := ps) (fun p hp => by simp [hp]) e
  split at h1
  · obtain ⟨v, ev, hx⟩ := Pks.one pk
    rw [ev, hx.int]
    exact ⟨_, rfl, by omega, by omega, hQ _ _ _ _ _ _ h1.2 s1 S1.popN it_ran⟩
  · exact h1.elim
@[reducible] def wRan2 (wa : Wa) : WI := fun ρ Q E => wa ρ (fun rs ρ1 => wDs ρ1 rs fun ds => match ds with
  | [.int m, .int n] => (-1000000 ≤ m ∧ m ≤ 1000000 ∧ -1000000 ≤ n ∧ n ≤ 1000000) ∧ Q (ranD m (n - m).toNat) ρ1
  | _ => False) E
theorem si_ran2 {ta : TA} {wa : Wa} (ha : SA w W P ta wa) : SI w W P (iRng2 ta) (wRan2 wa) := by
  intro F L H τ ρ σ Q Q' E' S hQ hE h
  refine ha F L H τ ρ σ _ _ _ S (fun ps ρ1 F1 L1 H1 h1 s1 S1 => ?_) hE h
  obtain ⟨ds, e, h1⟩ := wDs_ex h1
  have pk := S1.pks (ps := ps) (fun p hp => by simp [hp]) e
  split at h1
  · obtain ⟨v, u, ev, hx, hy⟩ := Pks.two pk
    rw [ev, hx.int, hy.int]
    exact ⟨_, _, rfl, ⟨by omega, by omega, by omega, by omega⟩, hQ _ _ _ _ _ _ h1.2 s1 S1.popN it_ran⟩
  · exact h1.elim
/-! ### for -/
@[reducible] def wForL (g : Wg) (b : Ws) : List D → EndF → Env → Prop
  | [], D, ρ => D.nx ρ
  | d :: ds, D, ρ => g (.val d) ρ (fun ρ1 => b { D with nx := wForL g b ds D, ct := wForL g b ds D, bk := D.nx } ρ1) D.ex
@[reducible] def wFor (wi : WI) (g : Wg) (b : Ws) : Ws := fun D ρ => wi ρ (fun ds ρ1 => wForL g b ds D ρ1) D.ex
theorem ss_for {t : TI} {g : TG} {tb : TS} {wi : WI} {wg : Wg} {b : Ws} {ts : List Nat} (hi : SI w W P t wi) (hg : SG w W P ts g wg) (hb : SS w W P tb b) : SS w W P (tFor t g tb) (wFor wi wg b) := fun F L H ρ σ D D' S I h => by
  refine hi F L H [] ρ σ _ _ _ S (fun J ds ρ1 F1 L1 H1 h1 s1 S1 hJ => ?_) I.ex h
  refine ⟨fun i m σ' H' => m = ds.length - i ∧ i ≤ ds.length ∧ ∃ F' L' ρ', Step F L H F' L' H' ∧ (∀ a o, F1 a = some o → F' a = some o) ∧ St w P F' L' H' [] ρ' σ' ∧ wForL wg b (ds.drop i) D' ρ',
    ⟨ds.length, by simp, Nat.zero_le _, F1, L1, ρ1, s1, fun _ _ e => e, S1, h1⟩, ?_⟩
  rintro i m σ2 H2 ⟨rfl, hi2, F2, L2, ρ2, s2, m2, S2, h2⟩
  obtain ⟨go, stop⟩ := hJ P F2 L2 H2 [] ρ2 σ2 i m2 S2
  by_cases hlt : i < ds.length
  · obtain ⟨g1, g2⟩ := go hlt
    have ed : ds.drop i = ds[i] :: ds.drop (i + 1) := List.drop_eq_getElem_cons hlt
    refine .inr ⟨g1, fun σ' H' => ∃ F' L' ρ', Step F L H F' L' H' ∧ (∀ a o, F1 a = some o → F' a = some o) ∧ St w P F' L' H' [] ρ' σ' ∧ wForL wg b (ds.drop (i + 1)) D' ρ', fun σ' H' q => ⟨ds.length - (i + 1), by omega, rfl, hlt, q⟩, fun x H' y => ?_⟩
    obtain ⟨d, F3, L3, e3, s3, S3⟩ := g2 x H' y
    rw [ed] at h2
    have ed2 : ds[i] = d := by
      rw [List.getElem?_eq_getElem hlt] at e3
      exact Option.some.inj e3
    rw [ed2] at h2
    have s23 := s2.trans s3
    refine hg F3 L3 H' [] ρ2 σ2 _ x _ _ _ True.intro S3 (fun ρ4 σ4 F4 L4 H4 h4 s4 S4 _ _ => ?_) (I.ex.step s23) h2
    have s34 := s23.trans s4
    refine hb F4 L4 H4 ρ4 σ4 _ { D' with nx := wForL wg b (ds.drop (i + 1)) D', ct := wForL wg b (ds.drop (i + 1)) D', bk := D'.nx } S4 ⟨fun ρ5 σ5 F5 L5 H5 q s S5 => ⟨F5, L5, ρ5, s34.trans s, fun a o e => s.mono a o (s4.mono a o (s3.mono a o (m2 a o e))), S5, q⟩, (I.step s34).rt, (I.step s34).nx,
      fun ρ5 σ5 F5 L5 H5 q s S5 => ⟨F5, L5, ρ5, s34.trans s, fun a o e => s.mono a o (s4.mono a o (s3.mono a o (m2 a o e))), S5, q⟩, (I.step s34).ex⟩ h4
  · have e : ds.drop i = [] := List.drop_eq_nil_of_le (by omega)
    rw [e] at h2
    exact .inl ⟨stop (by omega), I.nx _ _ _ _ _ h2 s2 S2⟩
/-! ### while -/
@[reducible] def wWhile (c : Wt) (b : Ws) : Ws := fun Z ρ => ∃ I : Nat → Env → Prop, (∃ m, I m ρ) ∧ ∀ m ρ1, I m ρ1 → c ρ1 (fun t ρ2 => if t = true then b (Z.lp fun ρ3 => nfE ρ3 fun ρ4 => ∃ m', m' < m ∧ I m' ρ4) ρ2 else Z.nx ρ2) Z.ex
theorem ss_while {c : TT} {tb : TS} {wc : Wt} {b : Ws} (hc : STt w W P c wc) (hb : SS w W P tb b) : SS w W P (tWhile c tb) (wWhile wc b) := fun F L H ρ σ D D' S I h => by
  obtain ⟨Iv, ⟨m0, h0⟩, turn⟩ := h
  refine ⟨fun m σ' H' => ∃ F' L' ρ', Step F L H F' L' H' ∧ St w P F' L' H' [] ρ' σ' ∧ Iv m ρ', ⟨m0, F, L, ρ, .refl, S, h0⟩, ?_⟩
  rintro m σ1 H1 ⟨F1, L1, ρ1, s1, S1, h1⟩
  refine hc F1 L1 H1 [] ρ1 σ1 _ _ _ S1 (fun t ρ2 F2 L2 H2 h2 s2 S2 => ?_) (I.ex.step s1) (turn m ρ1 h1)
  have s12 := s1.trans s2
  cases t with
  | true =>
    refine ⟨fun σ' H' => ∃ F' L' ρ' m', Step F L H F' L' H' ∧ St w P F' L' H' [] ρ' σ' ∧ m' < m ∧ Iv m' ρ', fun σ' H' q => ?_, hb F2 L2 H2 ρ2 σ1 _ { D' with nx := fun ρ3 => nfE ρ3 fun ρ4 => ∃ m', m' < m ∧ Iv m' ρ4, ct := fun ρ3 => nfE ρ3 fun ρ4 => ∃ m', m' < m ∧ Iv m' ρ4, bk := D'.nx } S2 ⟨fun ρ5 σ5 F5 L5 H5 q s S5 => ?_, (I.step s12).rt, (I.step s12).nx, fun ρ5 σ5 F5 L5 H5 q s S5 => ?_, (I.step s12).ex⟩ h2⟩
    · obtain ⟨F', L', ρ', m', a, b, c, d⟩ := q
      exact ⟨m', c, F', L', ρ', a, b, d⟩
    · obtain ⟨m', c, d⟩ := of_nfE q
      exact ⟨F5, L5, ρ5, m', s12.trans s, S5, c, d⟩
    · obtain ⟨m', c, d⟩ := of_nfE q
      exact ⟨F5, L5, ρ5, m', s12.trans s, S5, c, d⟩
  | false => exact I.nx _ _ _ _ _ h2 s12 S2
end
end Fl

set_option Elab.async false
set_option linter.all false
set_option maxRecDepth 100000
set_option maxHeartbeats 400000
/-! FlL: comprehensions; more that is walked -/
namespace Fl
open PySem PySem.Spec PyProof.Rows L2
def dim : List (R × V) → List (R × V)
  | [] => []
  | (.loc _, v) :: τ => (.any, v) :: dim τ
  | p :: τ => p :: dim τ
theorem dim_len : ∀ τ : List (R × V), (dim τ).length = τ.length
  | [] => rfl
  | (.loc _, v) :: τ => congrArg (· + 1) (dim_len τ)
  | (.val _, v) :: τ => congrArg (· + 1) (dim_len τ)
  | (.new _, v) :: τ => congrArg (· + 1) (dim_len τ)
  | (.any, v) :: τ => congrArg (· + 1) (dim_len τ)
theorem dim_no : ∀ τ : List (R × V), NoLoc (dim τ)
  | [] => True.intro
  | (.loc _, v) :: τ => ⟨fun _ z => (by cases z), dim_no τ⟩
  | (.val _, v) :: τ => ⟨fun _ z => (by cases z), dim_no τ⟩
  | (.new _, v) :: τ => ⟨fun _ z => (by cases z), dim_no τ⟩
  | (.any, v) :: τ => ⟨fun _ z => (by cases z), dim_no τ⟩
section
variable {w : World} {W : WX} {P : List V} {F F' : Hp} {L L' : Lbs} {H H' : Hp} {ρ : Env} {σ σ' : L2.St}
theorem RTm.dim : ∀ {τ : List (R × V)}, RTm w F L H σ τ → RTm w F L H σ (Fl.dim τ)
  | [], _ => True.intro
  | (.loc i, v) :: τ, h => ⟨True.intro, RTm.dim h.2⟩
  | (.val d, v) :: τ, h => ⟨by have z := h.1; exact z, RTm.dim h.2⟩
  | (.new d, v) :: τ, h => ⟨by
      have z := h.1
      show Ro w F H (fun b => L b = some (.tm (Fl.dim τ).length)) d v
      rw [dim_len]
      exact z, RTm.dim h.2⟩
  | (.any, v) :: τ, h => ⟨True.intro, RTm.dim h.2⟩
theorem RTm.undim : ∀ {τ : List (R × V)}, RTm w F L H σ τ → RTm w F' L' H' σ' (Fl.dim τ) → RTm w F' L' H' σ τ
  | [], _, _ => True.intro
  | (.loc i, v) :: τ, h, q => ⟨by have z := h.1; exact z, RTm.undim h.2 q.2⟩
  | (.val d, v) :: τ, h, q => ⟨by have z := q.1; exact z, RTm.undim h.2 q.2⟩
  | (.new d, v) :: τ, h, q => ⟨by
      have z : Ro w F' H' (fun b => L' b = some (.tm (Fl.dim τ).length)) d v := q.1
      rw [dim_len] at z
      exact z, RTm.undim h.2 q.2⟩
  | (.any, v) :: τ, h, q => ⟨True.intro, RTm.undim h.2 q.2⟩
@[reducible] def wipeA (ρ : Env) : List Nat → Env
  | [] => ρ
  | v :: vs => setA (wipeA ρ vs) v .un
theorem wipeA_len (ρ : Env) : ∀ vs : List Nat, (wipeA ρ vs).length = ρ.length
  | [] => rfl
  | v :: vs => by
    show (setA (wipeA ρ vs) v .un).length = _
    rw [setA_eq, List.length_set, wipeA_len ρ vs]
theorem wipeA_at {i : Nat} {a : A} : ∀ {vs : List Nat}, (wipeA ρ vs)[i]? = some a → (i ∈ vs ∧ a = .un) ∨ (i ∉ vs ∧ ρ[i]? = some a)
  | [], h => .inr ⟨by simp, h⟩
  | v :: vs, h => by
    have h : (setA (wipeA ρ vs) v .un)[i]? = some a := h
    rw [setA_eq] at h
    by_cases z : i = v
    · subst z
      have hi : i < (wipeA ρ vs).length := by
        have := (List.getElem?_eq_some_iff.mp h).1
        rwa [List.length_set] at this
      rw [List.getElem?_set_self hi] at h
      exact .inl ⟨by simp, (Option.some.inj h).symm⟩
    · rw [List.getElem?_set_ne (Ne.symm z)] at h
      rcases wipeA_at h with ⟨h1, h2⟩ | ⟨h1, h2⟩
      · exact .inl ⟨List.mem_cons_of_mem _ h1, h2⟩
      · exact .inr ⟨fun q => by
          rcases List.mem_cons.mp q with q | q
          · exact z q
          · exact h1 q, h2⟩
/-- other slots, some of them forgotten -/
theorem St.forget {τ : List (R × V)} {vs : List Nat} (S : St w P F L H τ ρ σ) (n : NoLoc τ) (hl : σ'.length = σ.length) (hs : ∀ i, i ∉ vs → σ'[i]? = σ[i]?) : St w P F L H τ (wipeA ρ vs) σ' := by
  refine ⟨S.sub, S.apart, S.has, by rw [wipeA_len, hl]; exact S.len, fun i a e => ?_, S.tm.other n⟩
  rcases wipeA_at e with ⟨h1, h2⟩ | ⟨h1, h2⟩
  · rw [h2]; exact True.intro
  · rw [hs i h1]
    exact S.sl i a h2
theorem wipe_eq {vs : List Nat} (hl : σ'.length = σ.length) (hs : ∀ i, i ∉ vs → σ'[i]? = σ[i]?) : wipe σ' vs = wipe σ vs := by
  apply List.ext_getElem?
  intro i
  by_cases hi : i ∈ vs
  · have key : ∀ (ζ : L2.St) (us : List Nat), i ∈ us → i < ζ.length → (wipe ζ us)[i]? = some none := by
      intro ζ us
      induction us with
      | nil => intro h; cases h
      | cons u us ih =>
        intro h hz
        show ((wipe ζ us).set u none)[i]? = some none
        by_cases z : u = i
        · subst z
          rw [List.getElem?_set_self (by rw [wipe_length]; exact hz)]
        · rw [List.getElem?_set_ne z]
          exact ih ((List.mem_cons.mp h).resolve_left (Ne.symm z)) hz
    by_cases hz : i < σ.length
    · rw [key σ' vs hi (by rw [hl]; exact hz), key σ vs hi hz]
    · rw [List.getElem?_eq_none (by rw [wipe_length, hl]; omega), List.getElem?_eq_none (by rw [wipe_length]; omega)]
  · rw [wipe_out hi, wipe_out hi, hs i hi]
/-- what is on top is written -/
theorem St.writeT {τ : List (R × V)} {d d' : D} {v : V} {p : Addr} {o : HO} (S : St w P F L H ((.new d, v) :: τ) ρ σ) (hp : L p = some (.tm τ.length)) (ro : Ro w F (upd H p o) (fun b => L b = some (.tm τ.length)) d' v) :
    St w P F L (upd H p o) ((.new d', v) :: τ) ρ σ := by
  have fp := S.apart p _ hp
  have k : ∀ b l, l ≠ .tm τ.length → L b = some l → L b = some l ∧ upd H p o b = H b := fun b l n e => ⟨e, upd_ne fun z => by rw [z, hp] at e; exact n (Option.some.inj e).symm⟩
  refine ⟨fun a u e => ?_, S.apart, fun a l e => ?_, S.len, fun j a e => (S.sl j a e).keep (fun _ _ e => e) fun b q => k b _ (fun y => by cases y) q, ro, S.tm.2.keep (fun _ _ e => e) fun b n hn e => k b _ (fun z => by cases z; exact absurd hn (Nat.lt_irrefl _)) e⟩
  · have n : a ≠ p := fun z => by rw [z, fp] at e; cases e
    rcases S.sub a u e with q | ⟨l, ob, q⟩
    · exact .inl (by rw [upd_ne n]; exact q)
    · exact .inr ⟨l, ob, by rw [upd_ne n]; exact q⟩
  · by_cases z : a = p
    · rw [z]; exact ⟨o, upd_same⟩
    · rw [upd_ne z]; exact S.has a l e
/-! ### comprehensions -/
abbrev noX : WX := fun _ _ _ _ => False
def lcW (own : List Nat) (g : Wg) (tt : Wt) (te : Wd) : List D → List D → Env → (List D → Env → Prop) → Prop
  | [], acc, ρ, k => k acc ρ
  | d :: ds, acc, ρ, k => g (.val d) ρ (fun ρ1 => tt ρ1 (fun b ρ2 => if b = true then te ρ2 (fun r ρ3 => wF ρ3 r fun y ρ4 => lcW own g tt te ds (acc ++ [y]) (wipeA ρ4 own) k) (fun _ _ => False) else lcW own g tt te ds acc (wipeA ρ2 own) k) (fun _ _ => False)) (fun _ _ => False)
@[reducible] def isFz : A → Bool
  | .un => true
  | .fz _ => true
  | _ => false
@[reducible] def okOwn (ρ : Env) : List Nat → Prop
  | [] => True
  | v :: vs => isFz (getA ρ v) = true ∧ okOwn ρ vs
@[reducible] def memN (k : Nat) : List Nat → Bool
  | [] => false
  | v :: vs => match Nat.beq k v with
    | true => true
    | false => memN k vs
theorem memN_iff {k : Nat} : ∀ {vs : List Nat}, memN k vs = true ↔ k ∈ vs
  | [] => by simp [memN]
  | v :: vs => by
    unfold memN
    cases e : Nat.beq k v with
    | true => simp [Nat.eq_of_beq_eq_true e]
    | false => simp [memN_iff (vs := vs), Nat.ne_of_beq_eq_false e]
@[reducible] def restA : Nat → Env → Env → List Nat → Env
  | k, a :: r, b :: s, own => match memN k own with
    | true => a :: restA (k + 1) r s own
    | false => b :: restA (k + 1) r s own
  | _, _, s, _ => s
theorem restA_len : ∀ (k : Nat) (ρ1 ρ2 : Env) (vs : List Nat), (restA k ρ1 ρ2 vs).length = ρ2.length
  | k, a :: r, b :: s, own => by
    have ih := restA_len (k + 1) r s own
    unfold restA
    cases memN k own with
    | true => exact congrArg (· + 1) ih
    | false => exact congrArg (· + 1) ih
  | k, [], s, own => by unfold restA; rfl
  | k, a :: r, [], own => by unfold restA; rfl
theorem okOwn_mem {ρ : Env} : ∀ {vs : List Nat} {v : Nat}, okOwn ρ vs → v ∈ vs → isFz (getA ρ v) = true
  | u :: vs, v, h, m => by
    rcases List.mem_cons.mp m with rfl | m
    · exact h.1
    · exact okOwn_mem h.2 m
theorem restA_at {own : List Nat} {a : A} : ∀ {ρ1 ρ2 : Env} {k i : Nat}, ρ1.length = ρ2.length → (restA k ρ1 ρ2 own)[i]? = some a → (k + i ∈ own ∧ a = getA ρ1 i) ∨ (k + i ∉ own ∧ ρ2[i]? = some a)
  | [], [], k, i, _, h => by unfold restA at h; simp at h
  | [], b :: s, k, i, hl, _ => by simp at hl
  | x :: r, [], k, i, hl, _ => by simp at hl
  | x :: r, b :: s, k, i, hl, h => by
    unfold restA at h
    cases e : memN k own with
    | true =>
      rw [e] at h
      cases i with
      | zero => exact .inl ⟨memN_iff.mp e, (by simpa using h.symm)⟩
      | succ i =>
        have h : (restA (k + 1) r s own)[i]? = some a := h
        have z := restA_at (Nat.succ.inj hl) h
        rw [Nat.add_right_comm] at z
        exact z
    | false =>
      rw [e] at h
      cases i with
      | zero => exact .inr ⟨fun q => (by rw [Nat.add_zero] at q; rw [memN_iff.mpr q] at e; cases e), h⟩
      | succ i =>
        have h : (restA (k + 1) r s own)[i]? = some a := h
        have z := restA_at (Nat.succ.inj hl) h
        rw [Nat.add_right_comm] at z
        exact z
@[reducible] def wLc (own : List Nat) (wi : WI) (g : Wg) (tt : Wt) (te : Wd) : Wd := fun ρ Q E => wi ρ (fun ds ρ1 => (okOwn ρ1 own ∧ ds.length ≤ 1000000) ∧ lcW own g tt te ds [] (wipeA ρ1 own) fun res ρ2 => Q (.new (.lst res)) (restA 0 ρ1 ρ2 own)) E
theorem se_lc {own ts : List Nat} {wi : TI} {g : TG} {tt : TT} {te : TE} {wI : WI} {wg : Wg} {wtt : Wt} {we : Wd} (hi : SI w W P wi wI) (hg : SG w noX P ts g wg) (hts : ∀ i ∈ ts, i ∈ own) (ht : STt w noX P tt wtt) (he : SE w noX P te we) :
    SE w W P (tLc wi g tt te own) (wLc own wI wg wtt we) := by
  intro F L H τ ρ σ Q Q' E' S hQ hE h
  refine hi F L H τ ρ σ _ _ _ S (fun J ds ρ1 F1 L1 H1 h1 s1 S1 hJ => ?_) hE h
  intro D hD
  obtain ⟨⟨ok, hz⟩, h1⟩ := h1
  have xi : ∀ {F : Hp} {L : Lbs} {H : Hp}, XI w noX P F L H (fun _ _ => False) := fun _ _ _ _ _ _ _ _ q _ _ _ => q.elim
  -- the block's start
  have Sd : St w P F1 L1 H1 (dim τ) ρ1 σ := ⟨S1.sub, S1.apart, S1.has, S1.len, S1.sl, S1.tm.dim⟩
  have S2 : St w P F1 L1 H1 (dim τ) (wipeA ρ1 own) (wipe σ own) := Sd.forget (dim_no τ) (wipe_length σ own) fun i hi => wipe_out hi
  have S3 := S2.allocT (o := .lst []) (d := .lst []) hD ⟨D, [], rfl, rfl, upd_same, Rps.nil⟩
  refine ⟨fun i m H' => m = ds.length - i ∧ i ≤ ds.length ∧ ∃ F' L' ρ' acc, Step F L H F' L' H' ∧ (∀ a o, F1 a = some o → F' a = some o) ∧ acc.length ≤ i ∧ St w P F' L' H' ((.new (.lst acc), .ref D) :: dim τ) ρ' (wipe σ own) ∧
      lcW own wg wtt we (ds.drop i) acc ρ' (fun res ρ2 => Q' (.new (.lst res)) (restA 0 ρ1 ρ2 own)),
    ⟨ds.length, by simp, Nat.zero_le _, F1, _, _, [], s1.trans (Step.allocT S2 hD), fun _ _ e => e, Nat.le_refl _, S3, h1⟩, ?_⟩
  rintro i m H2 ⟨rfl, hi2, F2, L2, ρ2, acc, s2, m2, al, S4, h2⟩
  obtain ⟨go, stop⟩ := hJ P F2 L2 H2 _ ρ2 (wipe σ own) i m2 S4
  by_cases hlt : i < ds.length
  · obtain ⟨g1, g2⟩ := go hlt
    have ed : ds.drop i = ds[i] :: ds.drop (i + 1) := List.drop_eq_getElem_cons hlt
    refine .inr ⟨g1, fun H' => ∃ F' L' ρ' acc, Step F L H F' L' H' ∧ (∀ a o, F1 a = some o → F' a = some o) ∧ acc.length ≤ i + 1 ∧ St w P F' L' H' ((.new (.lst acc), .ref D) :: dim τ) ρ' (wipe σ own) ∧
      lcW own wg wtt we (ds.drop (i + 1)) acc ρ' (fun res ρ2 => Q' (.new (.lst res)) (restA 0 ρ1 ρ2 own)), fun H' q => ⟨ds.length - (i + 1), by omega, rfl, hlt, q⟩, fun x H' y => ?_⟩
    obtain ⟨d, F3, L3, e3, s3, S5⟩ := g2 x H' y
    rw [ed] at h2
    have ed2 : ds[i] = d := by
      rw [List.getElem?_eq_getElem hlt] at e3
      exact Option.some.inj e3
    rw [ed2] at h2
    have nl : NoLoc ((R.new (.lst acc), V.ref D) :: dim τ) := ⟨fun _ z => (by cases z), dim_no τ⟩
    have s23 := s2.trans s3
    refine hg F3 L3 H' _ ρ2 (wipe σ own) _ x _ _ _ nl S5 (fun ρ4 σ4 F4 L4 H4 h4 s4 S6 l4 f4 => ?_) xi h2
    have fw : ∀ i, i ∉ own → σ4[i]? = (wipe σ own)[i]? := fun i hi => f4 i fun q => hi (hts i q)
    have ew : wipe σ4 own = wipe σ own := by
      have e1 := wipe_eq (vs := own) l4 fw
      rw [e1]
      exact wipe_eq (wipe_length σ own) fun i hi => wipe_out hi
    refine ⟨ew, ht F4 L4 H4 _ ρ4 σ4 _ _ _ S6 (fun b ρ5 F5 L5 H5 h5 s5 S7 => ?_) xi h4⟩
    have s45 := s23.trans (s4.trans s5)
    have m5 : ∀ a o, F1 a = some o → F5 a = some o := fun a o e => s5.mono a o (s4.mono a o (s3.mono a o (m2 a o e)))
    cases b with
    | false => exact ⟨F5, L5, _, acc, s45, m5, Nat.le_succ_of_le al, S7.forget nl (by rw [l4]) fun i hi => (fw i hi).symm, h5⟩
    | true =>
      refine he F5 L5 H5 _ ρ5 σ4 _ _ _ S7 (fun r ρ6 v F6 L6 H6 h6 s6 S8 => ?_) xi h5
      obtain ⟨yd, ρ7, F7, L7, h7, s7, S9⟩ := S8.wF h6
      obtain ⟨a, vs, ea, g3, g4, g5⟩ := S9.tm.2.1
      cases ea
      have rv : Rp w F7 yd v := S9.tm.1
      have g3 : L7 D = some (.tm (dim τ).length) := g3
      refine ⟨vs, g4, line_lt (by rw [g5.len]; omega), F7, L7, _, acc ++ [yd], (s45.trans (s6.trans s7)).trans (Step.write g3), fun a o e => s7.mono a o (s6.mono a o (m5 a o e)), by rw [List.length_append]; exact Nat.succ_le_succ al, ?_, h7⟩
      refine St.forget ?_ ⟨fun _ z => (by cases z), dim_no τ⟩ (by rw [l4]) fun i hi => (fw i hi).symm
      exact S9.pop.writeT g3 ⟨D, _, rfl, g3, upd_same, g5.app (Rps.one rv)⟩
  · have e : ds.drop i = [] := List.drop_eq_nil_of_le (by omega)
    rw [e] at h2
    refine .inl ⟨stop (by omega), hQ _ _ _ F2 L2 H2 h2 s2 ?_⟩
    refine ⟨S4.sub, S4.apart, S4.has, ?_, fun j a e => ?_, ?_, S1.tm.undim S4.tm.2⟩
    · rw [restA_len, S4.len, wipe_length]
    · rcases restA_at (by rw [S1.len, S4.len, wipe_length]) e with ⟨h3, rfl⟩ | ⟨h3, h4⟩
      all_goals rw [Nat.zero_add] at h3
      · have q := okOwn_mem ok h3
        have z := S1.slot (i := j)
        cases ea : getA ρ1 j with
        | un => exact True.intro
        | fz d =>
          rw [ea] at z
          obtain ⟨v, e1, e2⟩ := z (fun y => by cases y)
          exact ⟨v, e1, e2.mono m2⟩
        | ow d => rw [ea] at q; cases q
        | pr k d => rw [ea] at q; cases q
      · have z := S4.sl j a h4
        rw [wipe_out h3] at z
        exact z
    · have z : Ro w F2 H2 (fun b => L2 b = some (.tm (dim τ).length)) (.lst acc) (.ref D) := S4.tm.1
      rw [dim_len] at z
      exact z
end
end Fl

set_option Elab.async false
set_option linter.all false
set_option maxRecDepth 100000
set_option maxHeartbeats 400000
/-! FlM: what a def promises over data; entering and leaving a def -/
namespace Fl
open PySem PySem.Spec PyProof.Rows L2
/-- an argument: data, or an object that the def may change -/
inductive AA where
  | dv (d : D) | ob (d : D)
inductive RV where
  | val (d : D) | new (d : D)
@[reducible] def RV.r : RV → R
  | .val d => .val d
  | .new d => .new d
abbrev FSp := List AA → (RV → List AA → Prop) → (Ex → List AA → Prop) → Prop
@[reducible] def A1 (k : Nat) : AA → A
  | .dv d => .fz d
  | .ob d => .pr k d
@[reducible] def argA : Nat → List AA → Env
  | _, [] => []
  | k, a :: r => A1 k a :: argA (k + 1) r
theorem argA_len : ∀ {k : Nat} {as : List AA}, (argA k as).length = as.length
  | _, [] => rfl
  | k, _ :: r => congrArg (· + 1) (argA_len (k := k + 1) (as := r))
theorem argA_get : ∀ {as : List AA} {j k : Nat}, (argA j as)[k]? = as[k]?.map (A1 (j + k))
  | [], j, k => by simp [argA]
  | a :: r, j, 0 => rfl
  | a :: r, j, k + 1 => by
    show (argA (j + 1) r)[k]? = _
    rw [argA_get (as := r), List.getElem?_cons_succ, Nat.add_right_comm, Nat.add_assoc]
def lift (w : World) (n : Nat) (sp : FSp) : Sp := fun vs H Q E => vs.length = n ∧ ∃ (as : List AA) (F : Hp) (L : Lbs) (Q' : RV → List AA → Prop) (E' : Ex → List AA → Prop), sp as Q' E' ∧ as.length = n ∧ St w vs F L H [] (argA 0 as) (vs.map some) ∧
  (∀ r as' v F' L' H', Q' r as' → Step F L H F' L' H' → St w vs F' L' H' [(r.r, v)] (argA 0 as') (vs.map some) → Q v H') ∧
  (∀ ex as' cls d F' L' H', E' ex as' → Step F L H F' L' H' → St w vs F' L' H' [] (argA 0 as') (vs.map some) → RX w F' ex cls d → E cls d H')
/-! ### leaving: from the body's names back to the arguments -/
@[reducible] def consO (a : AA) : Option (List AA) → Option (List AA)
  | some l => some (a :: l)
  | none => none
@[reducible] def finA : Nat → Env → List AA → Option (List AA)
  | _, _, [] => some []
  | k, ρ, .dv d :: r => consO (.dv d) (finA (k + 1) ρ r)
  | k, ρ, .ob _ :: r => match getA ρ k with
    | .pr j d => match Nat.beq j k with
      | true => consO (.ob d) (finA (k + 1) ρ r)
      | false => none
    | _ => none
@[reducible] def cRV (ρ : Env) : R → Option RV
  | .val d => some (.val d)
  | .new d => some (.new d)
  | .loc i => match getA ρ i with
    | .ow d => some (.new d)
    | .fz d => some (.val d)
    | _ => none
  | .any => none
theorem finA_get : ∀ {as as' : List AA} {k : Nat} {ρ : Env}, finA k ρ as = some as' → as'.length = as.length ∧ ∀ i, (∀ d, as[i]? = some (.dv d) → as'[i]? = some (.dv d)) ∧ ∀ d, as[i]? = some (.ob d) → ∃ d', as'[i]? = some (.ob d') ∧ getA ρ (k + i) = .pr (k + i) d'
  | [], as', k, ρ, h => by
    cases h
    exact ⟨rfl, fun i => ⟨fun d e => (by simp at e), fun d e => (by simp at e)⟩⟩
  | .dv d :: r, as', k, ρ, h => by
    have h : consO (.dv d) (finA (k + 1) ρ r) = some as' := h
    cases e : finA (k + 1) ρ r with
    | none => rw [e] at h; cases h
    | some bs =>
      rw [e] at h; cases h
      obtain ⟨h1, h2⟩ := finA_get e
      refine ⟨congrArg (· + 1) h1, fun i => ?_⟩
      cases i with
      | zero => exact ⟨fun d' e => e, fun d' e => (by cases e)⟩
      | succ i =>
        have e2 : k + 1 + i = k + (i + 1) := by omega
        rw [← e2]
        exact h2 i
  | .ob d :: r, as', k, ρ, h => by
    unfold finA at h
    split at h
    · rename_i j d' eg
      split at h
      · rename_i ej
        have ej := Nat.eq_of_beq_eq_true ej
        subst ej
        cases e : finA (j + 1) ρ r with
        | none => rw [e] at h; cases h
        | some bs =>
          rw [e] at h; cases h
          obtain ⟨h1, h2⟩ := finA_get e
          refine ⟨congrArg (· + 1) h1, fun i => ?_⟩
          cases i with
          | zero => exact ⟨fun d' e => (by cases e), fun d'' e => ⟨d', rfl, eg⟩⟩
          | succ i =>
            have e2 : j + 1 + i = j + (i + 1) := by omega
            rw [← e2]
            exact h2 i
      · cases h
    · cases h
section
variable {w : World} {vs : List V} {F F0 : Hp} {L L0 : Lbs} {H H0 : Hp} {ρ : Env} {σ : L2.St} {as as' : List AA}
theorem args_dv (S0 : St w vs F0 L0 H0 [] (argA 0 as) (vs.map some)) {i : Nat} {d : D} (e : as[i]? = some (.dv d)) : ∃ v, vs[i]? = some v ∧ Rp w F0 d v := by
  obtain ⟨v, e1, e2⟩ := S0.sl i (.fz d) (by rw [argA_get, e, Nat.zero_add]; rfl)
  rw [List.getElem?_map] at e1
  cases e3 : vs[i]? with
  | none => rw [e3] at e1; cases e1
  | some u => rw [e3] at e1; cases e1; exact ⟨_, rfl, e2⟩
theorem args_vs {w : World} (S0 : St w vs F0 L0 H0 [] (argA 0 as) (vs.map some)) : as.length = vs.length := by
  have := S0.len
  rwa [argA_len, List.length_map] at this
/-- the arguments as they lie when the def ends -/
theorem fin_args (S0 : St w vs F0 L0 H0 [] (argA 0 as) (vs.map some)) (m : ∀ a o, F0 a = some o → F a = some o) (e : finA 0 ρ as = some as') {L' : Lbs} (hl : ∀ i, i < as.length → (∃ d, getA ρ i = .pr i d) → ∀ b, L b = some (.sl i) → L' b = some (.sl i))
    {τ : List (R × V)} (S : St w vs F L H τ ρ σ) : ∀ i a, (argA 0 as')[i]? = some a → RA w vs F L' H i a (vs.map some)[i]? := by
  intro i a ea
  obtain ⟨h1, h2⟩ := finA_get e
  rw [argA_get, Nat.zero_add] at ea
  have hi : i < as.length := by
    have := args_vs S0
    cases q : as'[i]? with
    | none => rw [q] at ea; cases ea
    | some x => rw [← h1]; exact (List.getElem?_eq_some_iff.mp q).1
  cases q : as[i]? with
  | none => rw [List.getElem?_eq_none_iff] at q; omega
  | some x =>
    cases x with
    | dv d =>
      rw [(h2 i).1 d q] at ea
      cases ea
      obtain ⟨v, e1, e2⟩ := args_dv S0 q
      exact ⟨v, by rw [List.getElem?_map, e1]; rfl, e2.mono m⟩
    | ob d =>
      obtain ⟨d', e1, e2⟩ := (h2 i).2 d q
      rw [e1] at ea
      cases ea
      rw [Nat.zero_add] at e2
      obtain ⟨v, z1, z2, z3⟩ := S.slot (i := i) (by rw [e2]; exact fun z => by cases z) |> fun z => by rw [e2] at z; exact z
      exact ⟨v, by rw [List.getElem?_map, z2]; rfl, z2, z3.keep (fun _ _ e => e) fun b q => ⟨hl i hi ⟨d', e2⟩ b q, rfl⟩⟩
theorem fin_len (S0 : St w vs F0 L0 H0 [] (argA 0 as) (vs.map some)) (e : finA 0 ρ as = some as') : (argA 0 as').length = (vs.map some).length := by
  rw [argA_len, List.length_map, (finA_get e).1, args_vs S0]
theorem fin_ex (S0 : St w vs F0 L0 H0 [] (argA 0 as) (vs.map some)) (s : Step F0 L0 H0 F L H) (e : finA 0 ρ as = some as') (S : St w vs F L H [] ρ σ) : St w vs F L H [] (argA 0 as') (vs.map some) :=
  ⟨S.sub, S.apart, S.has, fin_len S0 e, fin_args S0 s.mono e (fun _ _ _ _ q => q) S, True.intro⟩
/-- the labels once more: what the i-th name owns comes on top -/
def topL (L : Lbs) (i : Nat) : Lbs := fun b => if L b = some (.sl i) then some (.tm 0) else L b
theorem topL_dom {i : Nat} {b : Addr} {l : Lb} (h : topL L i b = some l) : ∃ l', L b = some l' := by
  unfold topL at h
  by_cases z : L b = some (.sl i)
  · exact ⟨_, z⟩
  · rw [if_neg z] at h; exact ⟨_, h⟩
theorem fin_rt (S0 : St w vs F0 L0 H0 [] (argA 0 as) (vs.map some)) (s : Step F0 L0 H0 F L H) (e : finA 0 ρ as = some as') {r : R} {v : V} {rv : RV} (er : cRV ρ r = some rv) (S : St w vs F L H [(r, v)] ρ σ) :
    ∃ L', Step F0 L0 H0 F L' H ∧ St w vs F L' H [(rv.r, v)] (argA 0 as') (vs.map some) := by
  have keepSt : ∀ {r' : R}, (RT w F L H (vs.map some) 0 r' v) → St w vs F L H [(r', v)] (argA 0 as') (vs.map some) := fun h =>
    ⟨S.sub, S.apart, S.has, fin_len S0 e, fin_args S0 s.mono e (fun _ _ _ _ q => q) S, h, True.intro⟩
  cases r with
  | any => cases er
  | val d => cases er; exact ⟨L, s, keepSt S.tm.1⟩
  | new d => cases er; exact ⟨L, s, keepSt S.tm.1⟩
  | loc i =>
    have t : σ[i]? = some (some v) := S.tm.1
    unfold cRV at er
    cases q : getA ρ i with
    | un => simp only [q] at er; cases er
    | pr j d => simp only [q] at er; cases er
    | fz d =>
      simp only [q] at er; cases er
      have z := S.slot (i := i) (by rw [q]; exact fun z => by cases z)
      rw [q] at z
      obtain ⟨v', e1, z⟩ := z
      rw [t] at e1; cases e1
      exact ⟨L, s, keepSt z⟩
    | ow d =>
      simp only [q] at er; cases er
      have z := S.slot (i := i) (by rw [q]; exact fun z => by cases z)
      rw [q] at z
      obtain ⟨v', e1, z⟩ := z
      rw [t] at e1; cases e1
      refine ⟨topL L i, ⟨s.mono, s.keep, s.grow, s.fr, fun b h => ?_⟩, ⟨S.sub, fun a l h => ?_, fun a l h => ?_, fin_len S0 e, fin_args S0 s.mono e (fun j hj hp b h => ?_) S, ?_, True.intro⟩⟩
      · cases hq : topL L i b with
        | none => exact absurd hq h
        | some l =>
          obtain ⟨l', h'⟩ := topL_dom hq
          exact s.own b (by rw [h']; simp)
      · obtain ⟨l', h'⟩ := topL_dom h
        exact S.apart a l' h'
      · obtain ⟨l', h'⟩ := topL_dom h
        exact S.has a l' h'
      · unfold topL
        rw [if_neg fun y => by
          rw [h] at y
          cases y
          obtain ⟨d', y⟩ := hp
          rw [q] at y
          cases y]
        exact h
      · exact Ro.keep z (fun _ _ e => e) fun b h => ⟨by unfold topL; rw [if_pos h]; rfl, rfl⟩
end
/-- what a def's body must reach -/
@[reducible] def wEnd (as : List AA) (Q : RV → List AA → Prop) (E : Ex → List AA → Prop) : EndF where
  nx := fun ρ => match finA 0 ρ as with
    | some as' => Q (.val .non) as'
    | none => False
  rt := fun r ρ => match cRV ρ r with
    | some rv => match finA 0 ρ as with
      | some as' => Q rv as'
      | none => False
    | none => False
  bk := fun _ => False
  ct := fun _ => False
  ex := fun x ρ => match finA 0 ρ as with
    | some as' => E x as'
    | none => False
@[reducible] def uns : Nat → Env
  | 0 => []
  | n + 1 => .un :: uns n
theorem uns_eq : ∀ n, uns n = List.replicate n A.un
  | 0 => rfl
  | n + 1 => by rw [uns, uns_eq n, List.replicate_succ]
/-- the names when a def begins -/
@[reducible] def argU : Nat → List AA → Nat → Env
  | _, [], m => uns m
  | k, a :: r, m => A1 k a :: argU (k + 1) r m
theorem argU_eq : ∀ {as : List AA} {k m : Nat}, argU k as m = argA k as ++ uns m
  | [], _, _ => rfl
  | a :: r, k, m => by rw [argU, argU_eq (as := r)]; rfl
section
variable {P : Program} {w : World} {K : PySem.W.Frag} {mg : Str → Option Value} {base : Heap}
/-- a def by its body -/
theorem okF {x qual : Str} {st : Stmt} {f : Addr} {fd : FuncData} {N ps : List Str} {k : Nat} {sp : FSp} (FF : Fun K x qual st f fd) (S : FnScope N ps (defScope st)) (hN : ps.length ≤ N.length)
    (bd : ∀ (cdv : Value) (A : Around) (out : List PySem.Env) (s : Shared) (H : Hp) (vs : List V) (Q : VK) (E : XK), A.guards = some [] → Room k (A.deeper (envOfC qual (defScope st) s.heap.objs.size f cdv)) →
      ∃ t ws, FSs (cxOf (L2.CX P w) P w K mg base N qual (defScope st) f cdv A out s H E) (fun cls d _ H => E cls d H) vs (defBody st) t ws ∧ ∀ as Q' E', as.length = ps.length → sp as Q' E' → ws (wEnd as Q' E') (argU 0 as (N.length - ps.length))) :
    My.OkG P w K mg base (L2.CX P w) (k + 1) f fd ps (lift w ps.length sp) := by
  obtain ⟨oc, od, kV, dc, pm, an, cdv, ct, sl, rfl, lk, hcd⟩ := FF.ex
  refine My.fn_ofG lk hcd S (fun vs H Q E h => h.1) fun A out s H vs Q E hg hr hs => ?_
  obtain ⟨hv, as, F, L, Q', E', hsp, ha, S0, hQ, hE⟩ := hs
  obtain ⟨t, ws, ⟨h1, h2⟩, h3⟩ := bd cdv A out s H vs Q E hg hr
  refine ⟨t, h1, ?_⟩
  have S1 : St w vs F L H [] (argA 0 as ++ uns (N.length - ps.length)) (L2.start N vs) := by
    refine ⟨S0.sub, S0.apart, S0.has, ?_, fun i a e => ?_, True.intro⟩
    · unfold L2.start
      rw [uns_eq, List.length_append, List.length_append, S0.len, List.length_replicate, List.length_replicate, hv]
    · unfold L2.start
      by_cases hi : i < (argA 0 as).length
      · rw [List.getElem?_append_left hi] at e
        rw [List.getElem?_append_left (by rw [← S0.len]; exact hi)]
        exact S0.sl i a e
      · rw [List.getElem?_append_right (by omega), uns_eq] at e
        have : a = .un := by
          have := List.mem_of_getElem? e
          exact (List.mem_replicate.mp this).2
        rw [this]; exact True.intro
  refine h2 F L H _ _ { nx := fun _ H' => Q .non H', rt := Q } _ S1 ⟨fun ρ' σ' F' L' H' q s' S' => ?_, fun r ρ' v σ' F' L' H' q s' S' => ?_, fun _ _ _ _ _ q _ _ => False.elim q, fun _ _ _ _ _ q _ _ => False.elim q, fun ex ρ' cls d σ' F' L' H' q s' S' rx => ?_⟩ (by have z := h3 as Q' E' ha hsp; rw [argU_eq] at z; exact z)
  · have q : match finA 0 ρ' as with | some as' => Q' (.val .non) as' | none => False := q
    split at q
    · rename_i as' e
      obtain ⟨L'', s'', S''⟩ := fin_rt (r := .val .non) (v := .non) S0 s' e rfl (S'.push rpNon)
      exact hQ _ _ _ _ _ _ q s'' S''
    · exact q.elim
  · have q : match cRV ρ' r with | some rv => (match finA 0 ρ' as with | some as' => Q' rv as' | none => False) | none => False := q
    split at q
    · rename_i rv er
      split at q
      · rename_i as' e
        obtain ⟨L'', s'', S''⟩ := fin_rt S0 s' e er S'
        exact hQ _ _ _ _ _ _ q s'' S''
      · exact q.elim
    · exact q.elim
  · have q : match finA 0 ρ' as with | some as' => E' ex as' | none => False := q
    split at q
    · rename_i as' e
      exact hE _ _ _ _ _ _ _ q s' (fin_ex S0 s' e S') rx
    · exact q.elim
end
end Fl

set_option Elab.async false
set_option linter.all false
set_option maxRecDepth 100000
set_option maxHeartbeats 400000
/-! FlN: the call of a def, of a method, of a class -/
namespace Fl
open PySem PySem.Spec PyProof.Rows L2
def posL : List (Option Lb) → Lb → Option Nat
  | [], _ => none
  | o :: r, l => if o = some l then some 0 else (posL r l).map (· + 1)
theorem posL_at : ∀ {ls : List (Option Lb)} {l : Lb} {k : Nat}, posL ls l = some k → ls[k]? = some (some l)
  | [], l, k, h => by cases h
  | o :: r, l, k, h => by
    unfold posL at h
    by_cases z : o = some l
    · rw [if_pos z] at h
      cases h
      rw [z]; rfl
    · rw [if_neg z] at h
      cases q : posL r l with
      | none => rw [q] at h; cases h
      | some j =>
        rw [q] at h; cases h
        rw [List.getElem?_cons_succ]
        exact posL_at q
theorem posL_mem : ∀ {ls : List (Option Lb)} {l : Lb} {k : Nat}, ls[k]? = some (some l) → ∃ j, posL ls l = some j
  | [], l, k, h => by simp at h
  | o :: r, l, k, h => by
    unfold posL
    by_cases z : o = some l
    · exact ⟨0, if_pos z⟩
    · rw [if_neg z]
      cases k with
      | zero => rw [List.getElem?_cons_zero] at h; exact absurd (Option.some.inj h) z
      | succ k =>
        rw [List.getElem?_cons_succ] at h
        obtain ⟨j, e⟩ := posL_mem h
        exact ⟨j + 1, by rw [e]; rfl⟩
def Once (ls : List (Option Lb)) : Prop := ∀ (k j : Nat) (l : Lb), ls[k]? = some (some l) → ls[j]? = some (some l) → k = j
def inL (L : Lbs) (ls : List (Option Lb)) : Lbs := fun b => match L b with
  | none => none
  | some l => (posL ls l).map .sl
def outL (L L' : Lbs) (ls : List (Option Lb)) (n : Nat) : Lbs := fun b => match L' b with
  | some (.sl k) => ls[k]?.join
  | some (.tm _) => some (.tm n)
  | none => match L b with
    | none => none
    | some l => match posL ls l with
      | none => some l
      | some _ => none
theorem inL_some {L : Lbs} {ls : List (Option Lb)} {b : Addr} {m : Lb} (h : inL L ls b = some m) : ∃ l k, L b = some l ∧ posL ls l = some k ∧ m = .sl k := by
  unfold inL at h
  cases e : L b with
  | none => rw [e] at h; cases h
  | some l =>
    simp only [e] at h
    cases q : posL ls l with
    | none => rw [q] at h; cases h
    | some k => rw [q] at h; cases h; exact ⟨l, k, rfl, q, rfl⟩
theorem inL_ne {L : Lbs} {ls : List (Option Lb)} {b : Addr} (h : inL L ls b ≠ none) : ∃ l k, L b = some l ∧ posL ls l = some k := by
  cases e : inL L ls b with
  | none => exact absurd e h
  | some m =>
    obtain ⟨l, k, h1, h2, _⟩ := inL_some e
    exact ⟨l, k, h1, h2⟩
section
variable {w : World} {P vs : List V} {F F' : Hp} {L L' : Lbs} {H H' : Hp} {τ τ' : List (R × V)} {ρ : Env} {σ : L2.St} {as as' : List AA} {ls : List (Option Lb)}
theorem St.enter (S : St w P F L H τ ρ σ) (on : Once ls) (hl : as.length = vs.length) (hd : ∀ (k : Nat) (d : D), as[k]? = some (AA.dv d) → ∃ v, vs[k]? = some v ∧ Rp w F d v)
    (ho : ∀ (k : Nat) (d : D), as[k]? = some (AA.ob d) → ∃ v l, vs[k]? = some v ∧ ls[k]? = some (some l) ∧ Ro w F H (fun b => L b = some l) d v) :
    St w vs F (inL L ls) H [] (argA 0 as) (vs.map some) := by
  refine ⟨S.sub, fun a l e => ?_, fun a l e => ?_, by rw [argA_len, List.length_map, hl], fun i a e => ?_, True.intro⟩
  · obtain ⟨l', k, h1, _⟩ := inL_some e
    exact S.apart a l' h1
  · obtain ⟨l', k, h1, _⟩ := inL_some e
    exact S.has a l' h1
  · rw [argA_get, Nat.zero_add] at e
    cases q : as[i]? with
    | none => rw [q] at e; cases e
    | some x =>
      rw [q] at e
      cases x with
      | dv d =>
        cases e
        obtain ⟨v, h1, h2⟩ := hd i d q
        exact ⟨v, by rw [List.getElem?_map, h1]; rfl, h2⟩
      | ob d =>
        cases e
        obtain ⟨v, l, h1, h2, h3⟩ := ho i d q
        refine ⟨v, by rw [List.getElem?_map, h1]; rfl, h1, h3.keep (fun _ _ e => e) fun b hb => ⟨?_, rfl⟩⟩
        obtain ⟨j, hj⟩ := posL_mem h2
        have e := on _ _ _ (posL_at hj) h2
        subst e
        unfold inL
        rw [hb]
        show (posL ls l).map Lb.sl = _
        rw [hj]
        rfl
/-- what a call leaves: all but what was handed over -/
structure Left (w : World) (P vs : List V) (F F' : Hp) (L L' L'' : Lbs) (H H' : Hp) (ls : List (Option Lb)) : Prop where
  step : Step F L H F' L'' H'
  sub : ∀ a o, F' a = some o → Sb H' a o
  apart : ∀ a l, L'' a = some l → F' a = none
  has : ∀ a l, L'' a = some l → ∃ o, H' a = some o
  kept : ∀ b l, posL ls l = none → L b = some l → L'' b = some l ∧ H' b = H b
theorem St.left (n : Nat) (S : St w P F L H τ ρ σ) (s : Step F (inL L ls) H F' L' H') (S' : St w vs F' L' H' τ' (argA 0 as') (vs.map some)) : Left w P vs F F' L L' (outL L L' ls n) H H' ls := by
  have inN : ∀ {b l}, L b = some l → posL ls l = none → inL L ls b = none := fun {b l} h1 h2 => by
    unfold inL; rw [h1]; show (posL ls l).map Lb.sl = none; rw [h2]; rfl
  have fresh : ∀ {b l}, L b = some l → posL ls l = none → L' b = none := fun {b l} h1 h2 => by
    cases e : L' b with
    | none => rfl
    | some m =>
      rcases s.own b (by rw [e]; simp) with q | q
      · exact absurd (inN h1 h2) q
      · obtain ⟨o, ho⟩ := S.has b l h1
        rw [q] at ho; cases ho
  have dom : ∀ {b l}, outL L L' ls n b = some l → (∃ m, L' b = some m) ∨ (L' b = none ∧ L b = some l ∧ posL ls l = none) := fun {b l} h => by
    unfold outL at h
    cases e : L' b with
    | some m => exact .inl ⟨m, rfl⟩
    | none =>
      simp only [e] at h
      cases e2 : L b with
      | none => simp only [e2] at h; cases h
      | some l2 =>
        simp only [e2] at h
        cases e3 : posL ls l2 with
        | some j => simp only [e3] at h; cases h
        | none => simp only [e3] at h; cases h; exact .inr ⟨rfl, rfl, e3⟩
  refine ⟨⟨s.mono, fun b o hn hb => ?_, s.grow, fun b hb => ?_, fun b hb => ?_⟩, S'.sub, fun a l h => ?_, fun a l h => ?_, fun b l h1 h2 => ⟨?_, ?_⟩⟩
  · exact s.keep b o (by unfold inL; rw [hn]) hb
  · rcases s.fr b hb with q | q | q
    · exact .inl q
    · obtain ⟨l, k, h1, _⟩ := inL_ne q
      exact .inr (.inl (by rw [h1]; simp))
    · exact .inr (.inr q)
  · cases e : outL L L' ls n b with
    | none => exact absurd e hb
    | some l =>
      rcases dom e with ⟨m, q⟩ | ⟨_, q, _⟩
      · rcases s.own b (by rw [q]; simp) with z | z
        · obtain ⟨l, k, h1, _⟩ := inL_ne z
          exact .inl (by rw [h1]; simp)
        · exact .inr z
      · exact .inl (by rw [q]; simp)
  · rcases dom h with ⟨m, q⟩ | ⟨q0, q, q2⟩
    · exact S'.apart a m q
    · cases e : F' a with
      | none => rfl
      | some o =>
        rcases s.fr a (by rw [e]; simp) with z | z | z
        · exact absurd (S.apart a l q) z
        · exact absurd (inN q q2) z
        · obtain ⟨o, ho⟩ := S.has a l q
          rw [z] at ho; cases ho
  · rcases dom h with ⟨m, q⟩ | ⟨q0, q, q2⟩
    · exact S'.has a m q
    · obtain ⟨o, ho⟩ := S.has a l q
      exact ⟨o, s.keep a o (inN q q2) ho⟩
  · unfold outL
    rw [fresh h2 h1]
    simp only [h2, h1]
  · obtain ⟨o, ho⟩ := S.has b l h2
    rw [ho]
    exact s.keep b o (inN h2 h1) ho
/-- what was handed over comes back -/
theorem back_ob (n : Nat) (S' : St w vs F' L' H' τ' (argA 0 as') (vs.map some)) {k : Nat} {d : D} {l : Lb} {v : V} (e : as'[k]? = some (.ob d)) (hl : ls[k]? = some (some l)) (hv : vs[k]? = some v) : Ro w F' H' (fun b => outL L L' ls n b = some l) d v := by
  obtain ⟨u, h1, h2, h3⟩ := S'.sl k (.pr k d) (by rw [argA_get, e, Nat.zero_add]; rfl)
  rw [hv] at h2
  cases h2
  refine h3.keep (fun _ _ e => e) fun b hb => ⟨?_, rfl⟩
  unfold outL
  rw [hb]
  show ls[k]?.join = _
  rw [hl]
  rfl
theorem back_new (n : Nat) {d : D} {v : V} (h : Ro w F' H' (fun b => L' b = some (.tm 0)) d v) : Ro w F' H' (fun b => outL L L' ls n b = some (.tm n)) d v :=
  h.keep (fun _ _ e => e) fun b hb => ⟨by unfold outL; rw [hb], rfl⟩
theorem St.put {i : Nat} {a : A} (S : St w P F L H τ ρ σ) (h : RA w P F L H i a σ[i]?) : St w P F L H τ (setA ρ i a) σ := by
  refine ⟨S.sub, S.apart, S.has, by rw [setA_eq, List.length_set]; exact S.len, fun j b e => ?_, S.tm⟩
  rw [setA_eq] at e
  by_cases z : j = i
  · subst z
    have hj : j < ρ.length := by
      have := (List.getElem?_eq_some_iff.mp e).1
      rwa [List.length_set] at this
    rw [List.getElem?_set_self hj] at e
    cases e
    exact h
  · rw [List.getElem?_set_ne (Ne.symm z)] at e
    exact S.sl j b e
end
/-! ### the arguments of a call -/
inductive Ag where
  | dv (d : D) | sl (i : Nat)
@[reducible] def tlB : List Bool → List Bool
  | [] => []
  | _ :: r => r
@[reducible] def wFz : List Bool → Env → List R → (List Ag → Env → Prop) → Prop
  | _, ρ, [], k => k [] ρ
  | m, ρ, r :: rs, k => wFz (tlB m) ρ rs fun gs ρ1 => match m with
    | true :: _ => match r with
      | .loc i => k (.sl i :: gs) ρ1
      | _ => False
    | _ => wF ρ1 r fun d ρ2 => k (.dv d :: gs) ρ2
@[reducible] def agA (ρ : Env) : List Ag → Option (List AA)
  | [] => some []
  | .dv d :: r => consO (.dv d) (agA ρ r)
  | .sl i :: r => match getA ρ i with
    | .ow d => consO (.ob d) (agA ρ r)
    | .pr _ d => consO (.ob d) (agA ρ r)
    | _ => none
@[reducible] def slots : List Ag → List Nat
  | [] => []
  | .dv _ :: r => slots r
  | .sl i :: r => i :: slots r
def onceB : List Nat → Bool
  | [] => true
  | i :: r => !r.contains i && onceB r
def agL : List Ag → List (Option Lb)
  | [] => []
  | .dv _ :: r => none :: agL r
  | .sl i :: r => some (.sl i) :: agL r
@[reducible] def reA : A → D → A
  | .ow _, d => .ow d
  | .pr j _, d => .pr j d
  | _, _ => .un
@[reducible] def putA (ρ0 : Env) (i : Nat) (a : A) (d : D) : Env := match a with
  | .ow _ => setA ρ0 i (.ow d)
  | .pr j _ => setA ρ0 i (.pr j d)
  | .un => setA ρ0 i .un
  | .fz _ => setA ρ0 i .un
theorem putA_eq {ρ0 : Env} {i : Nat} {a : A} {d : D} : putA ρ0 i a d = setA ρ0 i (reA a d) := by cases a <;> rfl
@[reducible] def putB (ρ0 ρ : Env) : List Ag → List AA → Env
  | .sl i :: gs, .ob d :: as => putA (putB ρ0 ρ gs as) i (getA ρ i) d
  | _ :: gs, _ :: as => putB ρ0 ρ gs as
  | _, _ => ρ0
@[reducible] def back (ρ : Env) (gs : List Ag) (as : List AA) : Env := putB (wipeA ρ (slots gs)) ρ gs as
@[reducible] def dvs : List D → List Ag
  | [] => []
  | d :: r => .dv d :: dvs r
theorem dvs_eq : ∀ dd : List D, dvs dd = dd.map .dv
  | [] => rfl
  | d :: r => congrArg (Ag.dv d :: ·) (dvs_eq r)
@[reducible] def agD : List Ag → List D → List Ag
  | [], dd => dvs dd
  | g :: gs, dd => g :: agD gs dd
theorem agD_eq : ∀ {gs : List Ag} {dd : List D}, agD gs dd = gs ++ dd.map .dv
  | [], dd => dvs_eq dd
  | g :: gs, dd => congrArg (g :: ·) (agD_eq (gs := gs))
def AgOk (w : World) (F : Hp) (σ : L2.St) : List Ag → List V → Prop
  | [], vs => vs = []
  | .dv d :: r, vs => ∃ v us, vs = v :: us ∧ Rp w F d v ∧ AgOk w F σ r us
  | .sl i :: r, vs => ∃ v us, vs = v :: us ∧ σ[i]? = some (some v) ∧ AgOk w F σ r us
section
variable {w : World} {P vs : List V} {F F' : Hp} {L L' : Lbs} {H H' : Hp} {τ τ' : List (R × V)} {ρ : Env} {σ : L2.St} {as as' : List AA} {ls : List (Option Lb)}
theorem AgOk.mono (m : ∀ a o, F a = some o → F' a = some o) : ∀ {gs : List Ag} {vs : List V}, AgOk w F σ gs vs → AgOk w F' σ gs vs
  | [], _, h => h
  | .dv d :: r, _, h => by obtain ⟨v, us, e, h1, h2⟩ := h; exact ⟨v, us, e, h1.mono m, AgOk.mono m h2⟩
  | .sl i :: r, _, h => by obtain ⟨v, us, e, h1, h2⟩ := h; exact ⟨v, us, e, h1, AgOk.mono m h2⟩
theorem AgOk.len : ∀ {gs : List Ag} {vs : List V}, AgOk w F σ gs vs → gs.length = vs.length
  | [], _, h => by cases h; rfl
  | .dv d :: r, _, h => by obtain ⟨v, us, rfl, h1, h2⟩ := h; exact congrArg (· + 1) h2.len
  | .sl i :: r, _, h => by obtain ⟨v, us, rfl, h1, h2⟩ := h; exact congrArg (· + 1) h2.len
theorem AgOk.app {us : List V} {dd : List D} (r : Rps w F dd us) : ∀ {gs : List Ag} {vs : List V}, AgOk w F σ gs vs → AgOk w F σ (gs ++ dd.map .dv) (vs ++ us)
  | [], _, h => by
    cases h
    show AgOk w F σ (dd.map .dv) us
    induction dd generalizing us with
    | nil => unfold Rps at r; exact r
    | cons d dd ih =>
      unfold Rps at r
      obtain ⟨v, us', rfl, h1, h2⟩ := r
      exact ⟨v, us', rfl, h1, ih h2⟩
  | .dv d :: r', _, h => by obtain ⟨v, us, rfl, h1, h2⟩ := h; exact ⟨v, _, rfl, h1, AgOk.app r h2⟩
  | .sl i :: r', _, h => by obtain ⟨v, us, rfl, h1, h2⟩ := h; exact ⟨v, _, rfl, h1, AgOk.app r h2⟩
theorem St.wFz : ∀ {m : List Bool} {ps : List (R × V)} {τ : List (R × V)} {F : Hp} {L : Lbs} {ρ : Env} {k : List Ag → Env → Prop}, St w P F L H (ps.reverse ++ τ) ρ σ → Fl.wFz m ρ (ps.map (·.1)) k →
    ∃ gs ρ' F' L', k gs ρ' ∧ Step F L H F' L' H ∧ St w P F' L' H τ ρ' σ ∧ AgOk w F' σ gs (ps.map (·.2))
  | m, [], τ, F, L, ρ, k, S, h => ⟨[], ρ, F, L, h, .refl, S, rfl⟩
  | m, p :: ps, τ, F, L, ρ, k, S, h => by
    rw [List.reverse_cons, List.append_assoc] at S
    obtain ⟨gs, ρ1, F1, L1, h1, s1, S1, r1⟩ := St.wFz (m := tlB m) (ps := ps) (τ := p :: τ) S h
    have frz : (Fl.wF ρ1 p.1 fun d ρ2 => k (.dv d :: gs) ρ2) → ∃ gs ρ' F' L', k gs ρ' ∧ Step F L H F' L' H ∧ St w P F' L' H τ ρ' σ ∧ AgOk w F' σ gs ((p :: ps).map (·.2)) := fun h1 => by
      obtain ⟨d, ρ2, F2, L2, h2, s2, S2⟩ := S1.wF h1
      exact ⟨_, ρ2, F2, L2, h2, s1.trans s2, S2.pop, _, _, rfl, S2.tm.1, r1.mono s2.mono⟩
    match m, h1 with
    | [], h1 => exact frz h1
    | false :: _, h1 => exact frz h1
    | true :: _, h1 =>
      obtain ⟨pr, pv⟩ := p
      cases pr with
      | loc i => exact ⟨_, ρ1, F1, L1, h1, s1, S1.pop, _, _, rfl, S1.tm.1, r1⟩
      | val d => exact h1.elim
      | new d => exact h1.elim
      | any => exact h1.elim
theorem agL_slot : ∀ {gs : List Ag} {k : Nat} {l : Lb}, (agL gs)[k]? = some (some l) → ∃ i, l = .sl i ∧ gs[k]? = some (Ag.sl i) ∧ i ∈ slots gs
  | [], k, l, h => by simp [agL] at h
  | .dv d :: r, k, l, h => by
    cases k with
    | zero => simp [agL] at h
    | succ k =>
      obtain ⟨i, h1, h2, h3⟩ := agL_slot (gs := r) (k := k) (l := l) h
      exact ⟨i, h1, h2, h3⟩
  | .sl j :: r, k, l, h => by
    cases k with
    | zero => simp [agL] at h; exact ⟨j, h.symm, rfl, by simp [slots]⟩
    | succ k =>
      obtain ⟨i, h1, h2, h3⟩ := agL_slot (gs := r) (k := k) (l := l) h
      exact ⟨i, h1, h2, List.mem_cons_of_mem _ h3⟩
theorem agL_of : ∀ {gs : List Ag} {k i : Nat}, gs[k]? = some (Ag.sl i) → (agL gs)[k]? = some (some (.sl i))
  | [], k, i, h => by simp at h
  | .dv d :: r, k, i, h => by
    cases k with
    | zero => simp at h
    | succ k => exact agL_of (gs := r) (k := k) h
  | .sl j :: r, k, i, h => by
    cases k with
    | zero => simp at h; rw [h]; rfl
    | succ k => exact agL_of (gs := r) (k := k) h
theorem slots_mem : ∀ {gs : List Ag} {i : Nat}, i ∈ slots gs → ∃ k : Nat, gs[k]? = some (Ag.sl i)
  | [], i, h => by cases h
  | .dv d :: r, i, h => by
    obtain ⟨k, e⟩ := slots_mem (gs := r) h
    exact ⟨k + 1, e⟩
  | .sl j :: r, i, h => by
    rcases List.mem_cons.mp h with rfl | h
    · exact ⟨0, rfl⟩
    · obtain ⟨k, e⟩ := slots_mem (gs := r) h
      exact ⟨k + 1, e⟩
theorem agL_once : ∀ {gs : List Ag}, onceB (slots gs) = true → Once (agL gs)
  | [], _ => fun k j l h _ => (by simp [agL] at h)
  | .dv d :: r, ho => fun k j l h1 h2 => by
    cases k with
    | zero => simp [agL] at h1
    | succ k =>
      cases j with
      | zero => simp [agL] at h2
      | succ j => exact congrArg (· + 1) (agL_once (gs := r) ho k j l h1 h2)
  | .sl i :: r, ho => fun k j l h1 h2 => by
    have ho : (!(slots r).contains i && onceB (slots r)) = true := ho
    rw [Bool.and_eq_true, Bool.not_eq_true'] at ho
    have no : ∀ {k}, (agL r)[k]? = some (some (Lb.sl i)) → False := fun {k} h => by
      obtain ⟨i', e, _, hm⟩ := agL_slot h
      cases e
      have := List.contains_iff_mem.mpr hm
      rw [ho.1] at this; cases this
    cases k with
    | zero =>
      cases j with
      | zero => rfl
      | succ j =>
        have e : l = Lb.sl i := by simp [agL] at h1; exact h1.symm
        subst e
        exact (no (k := j) h2).elim
    | succ k =>
      cases j with
      | zero =>
        have e : l = Lb.sl i := by simp [agL] at h2; exact h2.symm
        subst e
        exact (no (k := k) h1).elim
      | succ j => exact congrArg (· + 1) (agL_once (gs := r) ho.2 k j l h1 h2)
theorem agA_len : ∀ {gs : List Ag} {as : List AA}, agA ρ gs = some as → as.length = gs.length
  | [], as, h => by cases h; rfl
  | .dv d :: r, as, h => by
    have h : consO (.dv d) (agA ρ r) = some as := h
    cases e : agA ρ r with
    | none => rw [e] at h; cases h
    | some bs => rw [e] at h; cases h; exact congrArg (· + 1) (agA_len e)
  | .sl i :: r, as, h => by
    unfold agA at h
    split at h
    · cases e : agA ρ r with
      | none => rw [e] at h; cases h
      | some bs => rw [e] at h; cases h; exact congrArg (· + 1) (agA_len e)
    · cases e : agA ρ r with
      | none => rw [e] at h; cases h
      | some bs => rw [e] at h; cases h; exact congrArg (· + 1) (agA_len e)
    · cases h
/-- what an argument is, by its place -/
theorem agA_at (S : St w P F L H τ ρ σ) : ∀ {gs : List Ag} {as : List AA} {vs : List V}, agA ρ gs = some as → AgOk w F σ gs vs → ∀ k : Nat,
    (∀ d, as[k]? = some (AA.dv d) → ∃ v, vs[k]? = some v ∧ Rp w F d v) ∧ ∀ d, as[k]? = some (AA.ob d) → ∃ v i, vs[k]? = some v ∧ gs[k]? = some (Ag.sl i) ∧ Ro w F H (fun b => L b = some (.sl i)) d v
  | [], as, vs, h, _, k => by
    cases h
    exact ⟨fun d e => (by simp at e), fun d e => (by simp at e)⟩
  | .dv d :: r, as, vs, h, q, k => by
    obtain ⟨v, us, rfl, h1, h2⟩ := q
    have h : consO (.dv d) (agA ρ r) = some as := h
    cases e : agA ρ r with
    | none => rw [e] at h; cases h
    | some bs =>
      rw [e] at h; cases h
      cases k with
      | zero => exact ⟨fun d' e => (by cases e; exact ⟨v, rfl, h1⟩), fun d' e => (by cases e)⟩
      | succ k => exact agA_at S e h2 k
  | .sl i :: r, as, vs, h, q, k => by
    obtain ⟨v, us, rfl, h1, h2⟩ := q
    have key : ∀ {d : D} {bs : List AA}, agA ρ r = some bs → Ro w F H (fun b => L b = some (.sl i)) d v → (∀ d', (AA.ob d :: bs)[k]? = some (.dv d') → ∃ v', (v :: us)[k]? = some v' ∧ Rp w F d' v') ∧
        ∀ d', (AA.ob d :: bs)[k]? = some (.ob d') → ∃ v' i', (v :: us)[k]? = some v' ∧ (Ag.sl i :: r)[k]? = some (Ag.sl i') ∧ Ro w F H (fun b => L b = some (.sl i')) d' v' := fun {d bs} e ro => by
      cases k with
      | zero => exact ⟨fun d' e => (by cases e), fun d' e => (by cases e; exact ⟨v, i, rfl, rfl, ro⟩)⟩
      | succ k => exact agA_at S e h2 k
    have z := S.slot (i := i)
    unfold agA at h
    split at h
    · rename_i d eg
      rw [eg] at z
      obtain ⟨v', e1, ro⟩ := z (fun y => by cases y)
      rw [h1] at e1; cases e1
      cases e : agA ρ r with
      | none => rw [e] at h; cases h
      | some bs => rw [e] at h; cases h; exact key e ro
    · rename_i j d eg
      rw [eg] at z
      obtain ⟨v', e1, _, ro⟩ := z (fun y => by cases y)
      rw [h1] at e1; cases e1
      cases e : agA ρ r with
      | none => rw [e] at h; cases h
      | some bs => rw [e] at h; cases h; exact key e ro
    · cases h
/-- the names behind a call -/
theorem St.back {L'' : Lbs} (S : St w P F L H τ ρ σ) (Z : Left w P vs F F' L L' L'' H H' ls) {τ0 : List (R × V)} (ht : RTm w F' L'' H' σ τ0) {gs : List Ag} (hp : ∀ i, i ∉ slots gs → posL ls (.sl i) = none) {as' : List AA} {us : List V} (hv : AgOk w F σ gs us)
    (hb : ∀ (k : Nat) (d : D) (i : Nat) (v : V), as'[k]? = some (AA.ob d) → gs[k]? = some (Ag.sl i) → us[k]? = some v → Ro w F' H' (fun b => L'' b = some (.sl i)) d v) : St w P F' L'' H' τ0 (back ρ gs as') σ := by
  have S0 : St w P F' L'' H' τ0 (wipeA ρ (slots gs)) σ := by
    refine ⟨Z.sub, Z.apart, Z.has, by rw [wipeA_len]; exact S.len, fun i a e => ?_, ht⟩
    rcases wipeA_at e with ⟨h1, h2⟩ | ⟨h1, h2⟩
    · rw [h2]; exact True.intro
    · exact (S.sl i a h2).keep Z.step.mono fun b q => Z.kept b _ (hp i h1) q
  unfold Fl.back
  suffices h : ∀ (hs : List Ag) (bs : List AA) (us : List V), AgOk w F σ hs us → (∀ (k : Nat) (d : D) (i : Nat) (v : V), bs[k]? = some (AA.ob d) → hs[k]? = some (Ag.sl i) → us[k]? = some v → Ro w F' H' (fun b => L'' b = some (.sl i)) d v) → St w P F' L'' H' τ0 (putB (wipeA ρ (slots gs)) ρ hs bs) σ by
    exact h gs as' us hv hb
  intro hs
  induction hs with
  | nil => intro bs us _ _; cases bs <;> exact S0
  | cons g hs ih =>
    intro bs us hu hb
    cases bs with
    | nil => cases g <;> exact S0
    | cons x bs =>
      have rec' : ∀ us', us.tail = us' → AgOk w F σ hs us' → St w P F' L'' H' τ0 (putB (wipeA ρ (slots gs)) ρ hs bs) σ := fun us' e h => ih bs us' h fun k d i v h1 h2 h3 => by
        refine hb (k + 1) d i v h1 h2 ?_
        cases us with
        | nil => rw [← e] at h3; simp at h3
        | cons a us => rw [← e] at h3; exact h3
      cases g with
      | dv d =>
        obtain ⟨v, us', rfl, h1, h2⟩ := hu
        exact rec' us' rfl h2
      | sl i =>
        obtain ⟨v, us', rfl, h1, h2⟩ := hu
        have S1 := rec' us' rfl h2
        cases x with
        | dv d => exact S1
        | ob d =>
          show St w P F' L'' H' τ0 (putA (putB (wipeA ρ (slots gs)) ρ hs bs) i (getA ρ i) d) σ
          rw [putA_eq]
          refine S1.put ?_
          have ro := hb 0 d i v rfl rfl rfl
          have z := S.slot (i := i)
          cases eg : getA ρ i with
          | un => exact True.intro
          | fz d' => exact True.intro
          | ow d' => exact ⟨v, h1, ro⟩
          | pr j d' =>
            rw [eg] at z
            obtain ⟨v', e1, e2, _⟩ := z (fun y => by cases y)
            rw [h1] at e1; cases e1
            exact ⟨v, h1, e2, ro⟩
end
@[reducible] def wGo (sp : FSp) (gs : List Ag) (ρ : Env) (Q : RV → Env → Prop) (E : QE) : Prop := match agA ρ gs with
  | none => False
  | some as => onceB (slots gs) = true ∧ sp as (fun r as' => Q r (back ρ gs as')) (fun x as' => E x (back ρ gs as'))
section
variable {w : World} {W : WX} {P : List V}
theorem agL_none {gs : List Ag} {l : Lb} (h : ∀ i, l = .sl i → i ∉ slots gs) : posL (agL gs) l = none := by
  cases e : posL (agL gs) l with
  | none => rfl
  | some k =>
    obtain ⟨i, h1, _, h3⟩ := agL_slot (posL_at e)
    exact absurd h3 (h i h1)
/-- a def is called -/
theorem go_call {F : Hp} {L : Lbs} {H : Hp} {τ : List (R × V)} {ρ : Env} {σ : L2.St} {gs : List Ag} {vs : List V} {n : Nat} {sp : FSp} {Q : VK} {Q' : RV → Env → Prop} {E' : QE} (S : St w P F L H τ ρ σ) (ok : AgOk w F σ gs vs) (hn : gs.length = n)
    (h : wGo sp gs ρ Q' E') (hQ : ∀ r ρ' v F' L' H', Q' r ρ' → Step F L H F' L' H' → St w P F' L' H' ((r.r, v) :: τ) ρ' σ → Q v H') (hE : XI w W P F L H E') : lift w n sp vs H Q (WE W σ) := by
  unfold wGo at h
  cases e : agA ρ gs with
  | none => rw [e] at h; exact h.elim
  | some as =>
    simp only [e] at h
    obtain ⟨ho, h⟩ := h
    have at' := agA_at S e ok
    have al := agA_len e
    have tmN : ∀ {b k}, L b = some (.tm k) → posL (agL gs) (.tm k) = none := fun {b k} _ => agL_none fun i z => by cases z
    have SE0 : St w vs F (inL L (agL gs)) H [] (argA 0 as) (vs.map some) := S.enter (agL_once ho) (by rw [al, ok.len]) (fun k d q => (at' k).1 d q) fun k d q => by
      obtain ⟨v, i, h1, h2, h3⟩ := (at' k).2 d q
      exact ⟨v, .sl i, h1, agL_of h2, h3⟩
    refine ⟨by rw [← ok.len, hn], as, F, inL L (agL gs), _, _, h, by rw [al, hn], SE0, fun r as' v F' L' H' q s S' => ?_, fun ex as' cls d F' L' H' q s S' rx => ?_⟩
    · have Z := S.left τ.length s S'
      refine hQ r _ v F' _ H' q Z.step (S.back Z ?_ (fun i hi => agL_none fun j z => by cases z; exact hi) ok fun k d i v h1 h2 h3 => back_ob _ S' h1 (agL_of h2) h3)
      have hτ : RTm w F' (outL L L' (agL gs) τ.length) H' σ τ := S.tm.keep s.mono fun b k _ q => Z.kept b _ (tmN q) q
      cases r with
      | val d => exact ⟨S'.tm.1, hτ⟩
      | new d => exact ⟨back_new _ S'.tm.1, hτ⟩
    · have Z := S.left τ.length s S'
      exact hE ex _ cls d σ F' _ H' q Z.step (S.back (τ0 := []) Z True.intro (fun i hi => agL_none fun j z => by cases z; exact hi) ok fun k d i v h1 h2 h3 => back_ob _ S' h1 (agL_of h2) h3) rx
@[reducible] def wCall (m : List Bool) (sp : FSp) (dd : List D) (wa : Wa) : Wd := fun ρ Q E => wa ρ (fun rs ρ1 => wFz m ρ1 rs fun gs ρ2 => wGo sp (agD gs dd) ρ2 (fun r ρ3 => Q r.r ρ3) E) E
def tCallD (sp : Sp) (dvs : List V) (E : L2.St → XK) (t : TA) : TE := fun σ H Q => t σ H fun vs H1 => sp (vs ++ dvs) H1 Q (E σ)
theorem se_call {n n0 : Nat} {m : List Bool} {sp : FSp} {dd : List D} {dvs : List V} {t : TA} {wa : Wa} (hd : ∀ F, Rps w F dd dvs) (ha : SAn w W P n0 t wa) (hn : n0 + dd.length = n) : SE w W P (tCallD (lift w n sp) dvs (WE W) t) (wCall m sp dd wa) := by
  intro F L H τ ρ σ Q Q' E' S hQ hE h
  refine ha F L H τ ρ σ _ _ _ S (fun ps ρ1 F1 L1 H1 en h1 s1 S1 => ?_) hE h
  obtain ⟨gs, ρ2, F2, L2, h2, s2, S2, ok⟩ := S1.wFz h1
  have gl := ok.len
  rw [List.length_map] at gl
  rw [agD_eq] at h2
  refine go_call S2 (ok.app (hd F2)) (by rw [List.length_append, List.length_map]; omega) h2 (fun r ρ' v F' L' H' q s S' => hQ _ _ _ _ _ _ q ((s1.trans s2).trans s) S') (hE.step (s1.trans s2))
end
end Fl

set_option Elab.async false
set_option linter.all false
set_option maxRecDepth 100000
set_option maxHeartbeats 400000
/-! FlO: calls, methods, classes: their rules -/
namespace Fl
open PySem PySem.Spec PyProof.Rows L2
section
variable {X : Cx} {W : WX} {P : List V}
/-! ### what is never reached -/
def tNoE : TE := fun _ _ _ => False
@[reducible] def wNoE : Wd := fun _ _ _ => False
theorem fe_no {e : Expr} : FE X W P e tNoE wNoE := ⟨⟨fun _ _ _ _ _ _ h => False.elim h⟩, fun _ _ _ _ _ _ _ _ _ _ _ _ h => False.elim h⟩
def tNoS : TS := fun _ _ _ => False
@[reducible] def wNoS : Ws := fun _ _ => False
theorem fs_no {s : Stmt} : FS X W P s tNoS wNoS := ⟨⟨fun _ _ _ _ _ _ h => False.elim h⟩, fun _ _ _ _ _ _ _ _ _ h => False.elim h⟩
/-! ### calls -/
variable {CX : CXT} {k : Nat} {f C : Addr} {fd : FuncData} {ps : List Str} {sp : Sp} {dvs : List V} {ds : List Value} {E : L2.St → XK} {x m : Str} {p pos apos : Pos} {e o : Expr} {es : List Expr} {ta : TE} {t : TA}
theorem run_fnG {pins : List (Addr × Obj)} {σ : L2.St} {H : Hp} {s : Shared} {Q : VK} {us : List Value} {vs : List V} (F : My.OkG X.prog X.w X.K X.mg X.base CX k f fd ps sp) (hG : X.A.guards = some []) (hr : Room k X.A) (hb : Binds X.K fd ps ds) (hd : Vals dvs ds) (hx : PassesAt CX X σ (E σ))
    (I : Inv X pins σ H s) (r : Vals vs us) (h : sp (vs ++ dvs) H Q (E σ)) : wpAny (model X.prog X.w) X.A (call (.ref f) us) (EP X pins σ Q) X.xe s := by
  have r2 : Vals (vs ++ dvs) (us ++ ds) := r.append hd
  have hl : (us ++ ds).length = ps.length := by rw [← r2.length]; exact F.len _ _ _ _ h
  refine wpAny_call (codeAny_mono (F.run X.A X.stack s H ⟨us, []⟩ (us ++ ds) (vs ++ dvs) Q (E σ) hG hr I.env0 (hb s us I.kIn hl) r2 h) fun r s' hq => ?_)
  cases r with
  | error e => exact hx pins H s e s' I hq
  | ok fl =>
    cases fl with
    | ret u => exact I.after hq
    | next => exact False.elim hq
    | brk => exact False.elim hq
    | cont => exact False.elim hq
theorem pe_callD (F : My.OkG X.prog X.w X.K X.mg X.base CX k f fd ps sp) (hG : X.A.guards = some []) (hr : Room k X.A) (hg : Gl X x) (hm : X.mg x = some (.ref f)) (hk : PySem.W.keepIn X.K (.ref f) = true) (hb : Binds X.K fd ps ds) (hd : Vals dvs ds) (hx : ∀ σ, PassesAt CX X σ (E σ))
    (ha : PA X (e :: es) t) (hdb : (x == ("__debug__" : Str)) = false := by decide) (he : starEach (e :: es) X.env = (false, eval e X.env) :: starEach es X.env := by rfl) (hpl : (backTo pos (starEach es X.env)).any (·.1) = false := by rfl) :
    PE X (.Call (.Name x p) (e :: es) [] pos) (tCallD sp dvs E t) := by
  refine ⟨fun pins s σ H Q I h => ?_⟩
  refine wpAny_Call_Name_kw (ld_glob I hg hm ?_ hdb)
  refine PySem.W.callWith_K (h₀ := X.base) I.ok.mod.kin hk (thn (ha.run pos pins s σ H _ I h) fun us s1 ⟨vs, H1, I1, r, q⟩ => ⟨I1.kIn, ?_⟩) he hpl
  exact run_fnG F hG hr hb hd (hx σ) I1 r q
theorem pe_callD0 (F : My.OkG X.prog X.w X.K X.mg X.base CX k f fd ps sp) (hG : X.A.guards = some []) (hr : Room k X.A) (hg : Gl X x) (hm : X.mg x = some (.ref f)) (hk : PySem.W.keepIn X.K (.ref f) = true) (hb : Binds X.K fd ps ds) (hd : Vals dvs ds) (hx : ∀ σ, PassesAt CX X σ (E σ))
    (hdb : (x == ("__debug__" : Str)) = false := by decide) : PE X (.Call (.Name x p) [] [] pos) (tCallD sp dvs E tNil) := by
  refine ⟨fun pins s σ H Q I h => ?_⟩
  refine wpAny_Call_Name_kw (ld_glob I hg hm ?_ hdb)
  exact PySem.W.callWith_K0 I.kIn hk (run_fnG (us := []) F hG hr hb hd (hx σ) I .nil h)
def tMethD (C : Addr) (m : Str) (sp : Sp) (dvs : List V) (E : L2.St → XK) (ta : TE) (t : TA) : TE := fun σ H Q => ta σ H fun x H1 => (∃ a dx fs, x = .ref a ∧ H1 a = some (.ins C dx fs) ∧ fs.lookup m = none) ∧
  t σ H1 fun vs H2 => sp (x :: (vs ++ dvs)) H2 Q (E σ)
theorem pe_methD {pl : Sem Bool} (he : PE X o ta) (c : Cls X.K C) (hm : Meth X.K C m f) (F : My.OkG X.prog X.w X.K X.mg X.base CX k f fd ps sp) (hG : X.A.guards = some []) (hr : Room k X.A) (hb : Binds X.K fd ps ds) (hd : Vals dvs ds) (hx : ∀ σ, PassesAt CX X σ (E σ)) (ha : PA X (e :: es) t)
    (hst : starEach (e :: es) X.env = (false, eval e X.env) :: starEach es X.env := by rfl) (hpl : (backTo pos (starEach es X.env)).any (·.1) = false := by rfl)
    (ht : eval (.Call (.Attribute o m apos) (e :: es) [] pos) X.env = (do
      let ov ← eval o X.env
      standAt apos.atName
      let (f, first) ← holding [ov] (getMethod ov m pl)
      callWith pos f first (backTo pos (starEach (e :: es) X.env)) (backToKw pos (keywordEach [] X.env))) := by rfl) :
    PE X (.Call (.Attribute o m apos) (e :: es) [] pos) (tMethD C m sp dvs E ta t) := by
  refine ⟨fun pins s σ H Q I h => ?_⟩
  refine PySem.W.methodCall_KW (pl := pl) (thn (he.run pins s σ H _ I h) fun u s1 ⟨x, H1, I1, rx, ⟨a, dx, fs, ex, ea, l⟩, q⟩ => ?_) ht
  subst ex
  obtain rfl : u = Value.ref a := rx
  refine getmeth_ok I1 ea c hm l ?_
  refine PySem.W.callWith_K (first := [.ref a]) (h₀ := X.base) I.ok.mod.kin hm.kp (thn (ha.run pos pins s1 σ H1 _ I1 q) fun us s2 ⟨vs, H2, I2, r, q2⟩ => ⟨I2.kIn, ?_⟩) hst hpl
  exact run_fnG (us := .ref a :: us) (vs := .ref a :: vs) F hG hr hb hd (hx σ) I2 (.cons rfl r) q2
theorem pe_methD0 {pl : Sem Bool} (he : PE X o ta) (c : Cls X.K C) (hm : Meth X.K C m f) (F : My.OkG X.prog X.w X.K X.mg X.base CX k f fd ps sp) (hG : X.A.guards = some []) (hr : Room k X.A) (hb : Binds X.K fd ps ds) (hd : Vals dvs ds) (hx : ∀ σ, PassesAt CX X σ (E σ))
    (ht : eval (.Call (.Attribute o m apos) [] [] pos) X.env = (do
      let ov ← eval o X.env
      standAt apos.atName
      let (f, first) ← holding [ov] (getMethod ov m pl)
      callWith pos f first (backTo pos (starEach [] X.env)) (backToKw pos (keywordEach [] X.env))) := by rfl) :
    PE X (.Call (.Attribute o m apos) [] [] pos) (tMethD C m sp dvs E ta tNil) := by
  refine ⟨fun pins s σ H Q I h => ?_⟩
  refine PySem.W.methodCall_KW (pl := pl) (thn (he.run pins s σ H _ I h) fun u s1 ⟨x, H1, I1, rx, ⟨a, dx, fs, ex, ea, l⟩, q⟩ => ?_) ht
  subst ex
  obtain rfl : u = Value.ref a := rx
  refine getmeth_ok I1 ea c hm l ?_
  exact PySem.W.callWith_K0 (first := [.ref a]) I1.kIn hm.kp (run_fnG (us := [.ref a]) (vs := [.ref a]) F hG hr hb hd (hx σ) I1 (.cons rfl .nil) q)
def tMakeD (C : Addr) (sp : Sp) (dvs : List V) (E : L2.St → XK) (t : TA) : TE := fun σ H Q => t σ H fun vs H1 => ∀ x dx, H1 x = none → H1 dx = none → dx ≠ x →
  sp (.ref x :: (vs ++ dvs)) (upd (upd H1 dx (.own x)) x (.ins C dx [])) (fun v H2 => v = .non ∧ Q (.ref x) H2) (E σ)
theorem run_makeG {pins : List (Addr × Obj)} {σ : L2.St} {H : Hp} {s : Shared} {Q : VK} {us : List Value} {vs : List V} (M : Mk X.K C f) (F : My.OkG X.prog X.w X.K X.mg X.base CX k f fd ps sp) (hG : X.A.guards = some []) (hr : Room (k + 1) X.A) (hb : Binds X.K fd ps ds) (hd : Vals dvs ds)
    (hx : PassesAt CX X σ (E σ)) (I : Inv X pins σ H s) (r : Vals vs us)
    (h : ∀ x dx, H x = none → H dx = none → dx ≠ x → sp (.ref x :: (vs ++ dvs)) (upd (upd H dx (.own x)) x (.ins C dx [])) (fun v H2 => v = .non ∧ Q (.ref x) H2) (E σ)) :
    wpAny (model X.prog X.w) X.A (call (.ref C) us) (EP X pins σ Q) X.xe s := by
  have hq := h (s.heap.objs.size + 1) s.heap.objs.size (I.hok.fresh (Nat.le_succ _)) (I.hok.fresh (Nat.le_refl _)) (Nat.ne_of_lt (Nat.lt_succ_self _))
  have I2 := Inv.made (C := C) I
  have r2 : Vals (V.ref (s.heap.objs.size + 1) :: (vs ++ dvs)) (Value.ref (s.heap.objs.size + 1) :: (us ++ ds)) := .cons rfl (r.append hd)
  have hl : (Value.ref (s.heap.objs.size + 1) :: us ++ ds).length = ps.length := by
    have e := r2.length
    rw [F.len _ _ _ _ hq] at e
    exact e.symm
  refine wpAny_call (make_map (f := f) I.kIn M.makes M.init (beq_iff_eq.mp M.fn) (codeAny_mono (F.run _ X.stack _ _ ⟨Value.ref (s.heap.objs.size + 1) :: us, []⟩ (Value.ref (s.heap.objs.size + 1) :: (us ++ ds)) _ _ (E σ) hG (hr.make C us [])
    (I2.env0.make C us []) (hb _ (Value.ref (s.heap.objs.size + 1) :: us) I2.kIn hl) r2 hq) fun r s' hq' => ?_))
  cases r with
  | error e => exact hx pins _ _ e s' I2 hq'
  | ok fl =>
    cases fl with
    | ret u =>
      obtain ⟨v, H', I3, rv, ev, q3⟩ := I2.after hq'
      subst ev
      exact ⟨rv, ⟨V.ref (s.heap.objs.size + 1), H', I3, rfl, q3⟩⟩
    | next => exact False.elim hq'
    | brk => exact False.elim hq'
    | cont => exact False.elim hq'
theorem pe_makeD (M : Mk X.K C f) (F : My.OkG X.prog X.w X.K X.mg X.base CX k f fd ps sp) (hG : X.A.guards = some []) (hr : Room (k + 1) X.A) (hg : Gl X x) (hm : X.mg x = some (.ref C)) (hb : Binds X.K fd ps ds) (hd : Vals dvs ds) (hx : ∀ σ, PassesAt CX X σ (E σ))
    (ha : PA X (e :: es) t) (hdb : (x == ("__debug__" : Str)) = false := by decide) (he : starEach (e :: es) X.env = (false, eval e X.env) :: starEach es X.env := by rfl) (hpl : (backTo pos (starEach es X.env)).any (·.1) = false := by rfl) :
    PE X (.Call (.Name x p) (e :: es) [] pos) (tMakeD C sp dvs E t) := by
  refine ⟨fun pins s σ H Q I h => ?_⟩
  refine wpAny_Call_Name_kw (ld_glob I hg hm ?_ hdb)
  refine PySem.W.callWith_K (h₀ := X.base) I.ok.mod.kin M.kp (thn (ha.run pos pins s σ H _ I h) fun us s1 ⟨vs, H1, I1, r, q⟩ => ⟨I1.kIn, ?_⟩) he hpl
  exact run_makeG M F hG hr hb hd (hx σ) I1 r q
theorem pe_makeD0 (M : Mk X.K C f) (F : My.OkG X.prog X.w X.K X.mg X.base CX k f fd ps sp) (hG : X.A.guards = some []) (hr : Room (k + 1) X.A) (hg : Gl X x) (hm : X.mg x = some (.ref C)) (hb : Binds X.K fd ps ds) (hd : Vals dvs ds) (hx : ∀ σ, PassesAt CX X σ (E σ))
    (hdb : (x == ("__debug__" : Str)) = false := by decide) : PE X (.Call (.Name x p) [] [] pos) (tMakeD C sp dvs E tNil) := by
  refine ⟨fun pins s σ H Q I h => ?_⟩
  refine wpAny_Call_Name_kw (ld_glob I hg hm ?_ hdb)
  exact PySem.W.callWith_K0 I.kIn M.kp (run_makeG (us := []) M F hG hr hb hd (hx σ) I .nil h)
end
/-! ### their readings -/
section
variable {w : World} {W : WX} {P : List V}
/-- o.m(..), o data or a name's object -/
@[reducible] def noFld (C : Addr) (m : Str) : D → Prop
  | .ins C' fs => C' = C ∧ fs.lookup m = none
  | _ => False
theorem RpF.lookN {F : Hp} {m : Str} : ∀ {fs : List (Str × D)} {vs : List (Str × V)}, RpF w F fs vs → fs.lookup m = none → vs.lookup m = none
  | [], _, h, _ => by unfold RpF at h; rw [h]; rfl
  | (k, d) :: fs, _, h, e => by
    unfold RpF at h
    obtain ⟨v, r, rfl, h1, h2⟩ := h
    rw [List.lookup_cons] at e ⊢
    cases z : m == k with
    | true => rw [z] at e; cases e
    | false => rw [z] at e; exact h2.lookN e
@[reducible] def wMeth (C : Addr) (mn : Str) (m : List Bool) (sp : FSp) (dd : List D) (wo : Wd) (wa : Wa) : Wd := fun ρ Q E => wo ρ (fun r ρ0 => wD ρ0 r (noFld C mn) ∧ wa ρ0 (fun rs ρ1 => wFz m ρ1 (r :: rs) fun gs ρ2 => wGo sp (agD gs dd) ρ2 (fun r ρ3 => Q r.r ρ3) E) E) E
theorem se_meth {C : Addr} {mn : Str} {n n0 : Nat} {m : List Bool} {sp : FSp} {dd : List D} {dvs : List V} {to : TE} {t : TA} {wo : Wd} {wa : Wa} (hd : ∀ F, Rps w F dd dvs) (ho : SE w W P to wo) (ha : SAn w W P n0 t wa) (hn : n0 + 1 + dd.length = n) :
    SE w W P (tMethD C mn (lift w n sp) dvs (WE W) to t) (wMeth C mn m sp dd wo wa) := by
  intro F L H τ ρ σ Q Q' E' S hQ hE h
  refine ho F L H τ ρ σ _ _ _ S (fun r ρ0 v F0 L0 H0 h0 s0 S0 => ?_) hE h
  obtain ⟨d, ed, nf⟩ := wD_ex h0.1
  have pk := S0.pk (p := (r, v)) (by simp) ed
  refine ⟨?_, ?_⟩
  · cases d with
    | ins C' fs =>
      obtain ⟨a, dx, us, e1, e2, e3, e4⟩ := pk
      obtain ⟨rfl, nl⟩ := nf
      exact ⟨a, dx, us, e1, e2, e4.lookN nl⟩
    | _ => exact nf.elim
  · refine ha F0 L0 H0 _ ρ0 σ _ _ _ S0 (fun ps ρ1 F1 L1 H1 en h1 s1 S1 => ?_) (hE.step s0) h0.2
    have S1' : St w P F1 L1 H1 (((r, v) :: ps).reverse ++ τ) ρ1 σ := by
      rw [List.reverse_cons, List.append_assoc]; exact S1
    obtain ⟨gs, ρ2, F2, L2, h2, s2, S2, ok⟩ := S1'.wFz (ps := (r, v) :: ps) h1
    have gl := ok.len
    rw [List.length_map, List.length_cons] at gl
    have s02 := s0.trans (s1.trans s2)
    rw [agD_eq] at h2
    exact go_call S2 (ok.app (hd F2)) (by rw [List.length_append, List.length_map]; omega) h2 (fun r ρ' v F' L' H' q s S' => hQ _ _ _ _ _ _ q (s02.trans s) S') (hE.step s02)
/-- C(..) -/
@[reducible] def wMk (sp : FSp) (C : Addr) (gs : List Ag) (ρ : Env) (Q : R → Env → Prop) (E : QE) : Prop := match agA ρ gs with
  | none => False
  | some as => onceB (slots gs) = true ∧ sp (.ob (.ins C []) :: as) (fun r as' => match r, as' with
    | .val .non, .ob d :: as'' => Q (.new d) (back ρ gs as'')
    | _, _ => False) (fun x as' => E x (back ρ gs as'.tail))
@[reducible] def wMake (C : Addr) (m : List Bool) (sp : FSp) (dd : List D) (wa : Wa) : Wd := fun ρ Q E => wa ρ (fun rs ρ1 => wFz m ρ1 rs fun gs ρ2 => wMk sp C (agD gs dd) ρ2 Q E) E
theorem St.allocL {F : Hp} {L : Lbs} {H : Hp} {τ : List (R × V)} {ρ : Env} {σ : L2.St} {p : Addr} {o : HO} {l : Lb} (S : St w P F L H τ ρ σ) (hp : H p = none) : St w P F (updL L p l) (upd H p o) τ ρ σ := by
  obtain ⟨fp, lp⟩ := S.free hp
  refine S.keep (fun a u e => e) (fun b l e => ?_) (fun a u e => (S.sub a u e).upd hp) (fun a l e => ?_) (fun a l e => ?_)
  · have n : b ≠ p := fun z => by rw [z, lp] at e; cases e
    exact ⟨by rw [updL_ne n]; exact e, upd_ne n⟩
  · by_cases z : a = p
    · rw [z]; exact fp
    · rw [updL_ne z] at e; exact S.apart a l e
  · by_cases z : a = p
    · rw [z]; exact ⟨o, upd_same⟩
    · rw [updL_ne z] at e
      rw [upd_ne z]
      exact S.has a l e
theorem se_make {C : Addr} {n n0 : Nat} {m : List Bool} {sp : FSp} {dd : List D} {dvs : List V} {t : TA} {wa : Wa} (hd : ∀ F, Rps w F dd dvs) (ha : SAn w W P n0 t wa) (hn : n0 + 1 + dd.length = n) : SE w W P (tMakeD C (lift w n sp) dvs (WE W) t) (wMake C m sp dd wa) := by
  intro F L H τ ρ σ Q Q' E' S hQ hE h
  refine ha F L H τ ρ σ _ _ _ S (fun ps ρ1 F1 L1 H1 en h1 s1 S1 => ?_) hE h
  obtain ⟨gs0, ρ2, F2, L2, h2, s2, S2, ok0⟩ := S1.wFz h1
  intro x dx hx hdx ndx
  have s12 := s1.trans s2
  have ok := ok0.app (hd F2)
  have gl := ok0.len
  rw [List.length_map] at gl
  rw [agD_eq] at h2
  generalize hgs : gs0 ++ dd.map Ag.dv = gs at ok h2
  have gn : gs.length + 1 = n := by rw [← hgs, List.length_append, List.length_map]; omega
  unfold wMk at h2
  cases e : agA ρ2 gs with
  | none => rw [e] at h2; exact h2.elim
  | some as =>
    simp only [e] at h2
    obtain ⟨ho, h2⟩ := h2
    have SA := S2.allocL (p := dx) (o := .own x) (l := .tm τ.length) hdx
    have sA := Step.allocT (l := .tm τ.length) (o := .own x) S2 hdx
    have hx2 : upd H1 dx (.own x) x = none := by rw [upd_ne (Ne.symm ndx)]; exact hx
    have SB := SA.allocL (p := x) (o := .ins C dx []) (l := .tm τ.length) hx2
    have sB := Step.allocT (l := .tm τ.length) (o := .ins C dx []) SA hx2
    have sAB := s12.trans (sA.trans sB)
    have at' := agA_at SB e ok
    have al := agA_len e
    have hls : ∀ {l}, (∀ i, l = Lb.sl i → i ∉ slots gs) → l ≠ .tm τ.length → posL (some (.tm τ.length) :: agL gs) l = none := fun {l} h1 h2 => by
      unfold posL
      rw [if_neg fun z => h2 (Option.some.inj z).symm, agL_none h1]
      rfl
    have lx : (updL (updL L2 dx (Lb.tm τ.length)) x (Lb.tm τ.length)) x = some (.tm τ.length) := updL_same
    have ld : (updL (updL L2 dx (Lb.tm τ.length)) x (Lb.tm τ.length)) dx = some (.tm τ.length) := by rw [updL_ne ndx]; exact updL_same
    have SE0 := SB.enter (vs := V.ref x :: (ps.map (·.2) ++ dvs)) (as := .ob (.ins C []) :: as) (ls := some (.tm τ.length) :: agL gs) (fun k j l h1 h2 => by
        cases k with
        | zero =>
          cases j with
          | zero => rfl
          | succ j =>
            have e : l = .tm τ.length := by
              rw [List.getElem?_cons_zero] at h1
              exact (Option.some.inj (Option.some.inj h1)).symm
            subst e
            obtain ⟨i, z, _⟩ := agL_slot (gs := gs) (k := j) h2
            cases z
        | succ k =>
          cases j with
          | zero =>
            have e : l = .tm τ.length := by
              rw [List.getElem?_cons_zero] at h2
              exact (Option.some.inj (Option.some.inj h2)).symm
            subst e
            obtain ⟨i, z, _⟩ := agL_slot (gs := gs) (k := k) h1
            cases z
          | succ j => exact congrArg (· + 1) (agL_once ho k j l h1 h2))
      (by rw [List.length_cons, List.length_cons, al, ok.len])
      (fun k d q => by
        cases k with
        | zero => cases q
        | succ k => exact (at' k).1 d q)
      (fun k d q => by
        cases k with
        | zero =>
          cases q
          exact ⟨_, _, rfl, rfl, x, dx, [], rfl, lx, ld, upd_same, by rw [upd_ne ndx]; exact upd_same, by unfold RpF; rfl⟩
        | succ k =>
          obtain ⟨v, i, h1, h2, h3⟩ := (at' k).2 d q
          exact ⟨v, .sl i, h1, agL_of h2, h3⟩)
    have kτ : ∀ {k : Nat}, k < τ.length → posL (some (.tm τ.length) :: agL gs) (.tm k) = none := fun {k} hk => hls (fun i z => by cases z) (fun z => by cases z; exact absurd hk (Nat.lt_irrefl _))
    refine ⟨by rw [List.length_cons, ← ok.len, gn], _, F2, _, _, _, h2, by rw [List.length_cons, al, gn], SE0, fun r as' v F' L' H' q s S' => ?_, fun ex as' cls d F' L' H' q s S' rx => ?_⟩
    · have Z := SB.left τ.length s S'
      cases r with
      | new d => exact q.elim
      | val d =>
        cases d with
        | non =>
          cases as' with
          | nil => exact q.elim
          | cons a0 as'' =>
            cases a0 with
            | dv d => exact q.elim
            | ob d =>
              have ev : v = .non := by have z : Rp w F' .non v := S'.tm.1; unfold Rp at z; exact z
              refine ⟨ev, hQ _ _ _ F' _ H' q (sAB.trans Z.step) (SB.back Z ?_ (fun i hi => hls (fun j z => by cases z; exact hi) (fun z => by cases z)) ok fun k d i v h1 h2 h3 => back_ob (as' := .ob _ :: as'') (k := k + 1) _ S' h1 (agL_of h2) h3)⟩
              exact ⟨back_ob (as' := .ob d :: as'') (k := 0) _ S' rfl rfl rfl, SB.tm.keep s.mono fun b k hk q => Z.kept b _ (kτ hk) q⟩
        | _ => exact q.elim
    · have Z := SB.left τ.length s S'
      refine (hE.step sAB) ex _ cls d σ F' _ H' q Z.step (SB.back (τ0 := []) Z True.intro (fun i hi => hls (fun j z => by cases z; exact hi) (fun z => by cases z)) ok fun k d i v h1 h2 h3 => ?_) rx
      refine back_ob (as' := as') (k := k + 1) _ S' ?_ (agL_of h2) h3
      cases as' with
      | nil => simp at h1
      | cons a0 as'' => exact h1
end
/-! ### as they are used -/
section
variable {X : Cx} {W : WX} {P : List V} {k n n0 : Nat} {f C : Addr} {fd : FuncData} {ps : List Str} {sp : FSp} {x mn : Str} {p pos apos : Pos} {e o : Expr} {es : List Expr} {to : TE} {t : TA} {wo : Wd} {wa : Wa}
theorem fe_call (m : List Bool) (F : My.OkG X.prog X.w X.K X.mg X.base (L2.CX X.prog X.w) k f fd ps (lift X.w n sp)) (hG : X.A.guards = some []) (hr : Room k X.A) (hg : Gl X x) (hm : X.mg x = some (.ref f)) (hk : PySem.W.keepIn X.K (.ref f) = true) (hb : Binds X.K fd ps []) (tk : Takes X W)
    (ha : FA X W P n (e :: es) t wa) (hdb : (x == ("__debug__" : Str)) = false := by decide) (he : starEach (e :: es) X.env = (false, eval e X.env) :: starEach es X.env := by rfl) (hpl : (backTo pos (starEach es X.env)).any (·.1) = false := by rfl) :
    FE X W P (.Call (.Name x p) (e :: es) [] pos) (tCallD (lift X.w n sp) [] (WE W) t) (wCall m sp [] wa) :=
  ⟨pe_callD F hG hr hg hm hk hb .nil (fun σ => passAt tk σ) ha.pe hdb he hpl, se_call (fun F => Rps.nil) ha.se (by simp)⟩
theorem fe_call0 (F : My.OkG X.prog X.w X.K X.mg X.base (L2.CX X.prog X.w) k f fd ps (lift X.w 0 sp)) (hG : X.A.guards = some []) (hr : Room k X.A) (hg : Gl X x) (hm : X.mg x = some (.ref f)) (hk : PySem.W.keepIn X.K (.ref f) = true) (hb : Binds X.K fd ps []) (tk : Takes X W)
    (hdb : (x == ("__debug__" : Str)) = false := by decide) : FE X W P (.Call (.Name x p) [] [] pos) (tCallD (lift X.w 0 sp) [] (WE W) tNil) (wCall [] sp [] wNil) :=
  ⟨pe_callD0 F hG hr hg hm hk hb .nil (fun σ => passAt tk σ) hdb, se_call (fun F => Rps.nil) sn_nil (by simp)⟩
theorem fe_meth (m : List Bool) {pl : Sem Bool} (F : My.OkG X.prog X.w X.K X.mg X.base (L2.CX X.prog X.w) k f fd ps (lift X.w (n + 1) sp)) (hG : X.A.guards = some []) (hr : Room k X.A) (c : Cls X.K C) (hm : Meth X.K C mn f) (hb : Binds X.K fd ps []) (tk : Takes X W)
    (ho : FE X W P o to wo) (ha : FA X W P n (e :: es) t wa)
    (hst : starEach (e :: es) X.env = (false, eval e X.env) :: starEach es X.env := by rfl) (hpl : (backTo pos (starEach es X.env)).any (·.1) = false := by rfl)
    (ht : eval (.Call (.Attribute o mn apos) (e :: es) [] pos) X.env = (do
      let ov ← eval o X.env
      standAt apos.atName
      let (f, first) ← holding [ov] (getMethod ov mn pl)
      callWith pos f first (backTo pos (starEach (e :: es) X.env)) (backToKw pos (keywordEach [] X.env))) := by rfl) :
    FE X W P (.Call (.Attribute o mn apos) (e :: es) [] pos) (tMethD C mn (lift X.w (n + 1) sp) [] (WE W) to t) (wMeth C mn m sp [] wo wa) :=
  ⟨pe_methD (pl := pl) ho.pe c hm F hG hr hb .nil (fun σ => passAt tk σ) ha.pe hst hpl ht, se_meth (fun F => Rps.nil) ho.se ha.se (by simp)⟩
theorem fe_meth0 (m : List Bool) {pl : Sem Bool} (F : My.OkG X.prog X.w X.K X.mg X.base (L2.CX X.prog X.w) k f fd ps (lift X.w 1 sp)) (hG : X.A.guards = some []) (hr : Room k X.A) (c : Cls X.K C) (hm : Meth X.K C mn f) (hb : Binds X.K fd ps []) (tk : Takes X W)
    (ho : FE X W P o to wo)
    (ht : eval (.Call (.Attribute o mn apos) [] [] pos) X.env = (do
      let ov ← eval o X.env
      standAt apos.atName
      let (f, first) ← holding [ov] (getMethod ov mn pl)
      callWith pos f first (backTo pos (starEach [] X.env)) (backToKw pos (keywordEach [] X.env))) := by rfl) :
    FE X W P (.Call (.Attribute o mn apos) [] [] pos) (tMethD C mn (lift X.w 1 sp) [] (WE W) to tNil) (wMeth C mn m sp [] wo wNil) :=
  ⟨pe_methD0 (pl := pl) ho.pe c hm F hG hr hb .nil (fun σ => passAt tk σ) ht, se_meth (fun F => Rps.nil) ho.se sn_nil (by simp)⟩
theorem fe_make (m : List Bool) (M : Mk X.K C f) (F : My.OkG X.prog X.w X.K X.mg X.base (L2.CX X.prog X.w) k f fd ps (lift X.w (n + 1) sp)) (hG : X.A.guards = some []) (hr : Room (k + 1) X.A) (hg : Gl X x) (hm : X.mg x = some (.ref C)) (hb : Binds X.K fd ps []) (tk : Takes X W)
    (ha : FA X W P n (e :: es) t wa) (hdb : (x == ("__debug__" : Str)) = false := by decide) (he : starEach (e :: es) X.env = (false, eval e X.env) :: starEach es X.env := by rfl) (hpl : (backTo pos (starEach es X.env)).any (·.1) = false := by rfl) :
    FE X W P (.Call (.Name x p) (e :: es) [] pos) (tMakeD C (lift X.w (n + 1) sp) [] (WE W) t) (wMake C m sp [] wa) :=
  ⟨pe_makeD M F hG hr hg hm hb .nil (fun σ => passAt tk σ) ha.pe hdb he hpl, se_make (fun F => Rps.nil) ha.se (by simp)⟩
end
end Fl

set_option Elab.async false
set_option linter.all false
set_option maxRecDepth 100000
set_option maxHeartbeats 400000
/-! FlP: x[::-1] of a list or of a tuple -/
namespace HT
open PySem PySem.Spec PyProof.Rows
section
variable {prog : Program} {w : World} {A : Around} {E : Value → Shared → Prop} {s : Shared}
theorem adjust_back (n : Nat) : Builtin.Slice.sliceAdjust none none (-1) (n : Int) = ((n : Int) - 1, -1) := by
  unfold Builtin.Slice.sliceAdjust
  have h1 : ((-1 : Int) < 0) := by decide
  simp [h1]
theorem places_back (n : Nat) : Builtin.Slice.slicePlaces ((n : Int) - 1) (-1) (-1) = n := by
  unfold Builtin.Slice.slicePlaces
  have h1 : ¬ ((-1 : Int) > 0) := by decide
  simp only [h1, if_false]
  split
  · rw [show (-(-1) : Int) = 1 by decide, Int.ediv_one]; omega
  · omega
theorem sliceApplied_back {sl : Addr} {vl vu vs : Value} {n : Nat} {Q : Int × Int × Nat → Shared → Prop} (hs : s.heap.IsSliceOf sl vl vu vs) (pl : IsPart vl none) (pu : IsPart vu none) (ps : IsPart vs (some (-1)))
    (h : Q ((n : Int) - 1, -1, n) s) : wpAny (model prog w) A (Builtin.Slice.sliceApplied (.ref sl) (pure (n : Int))) Q E s := by
  obtain ⟨os, hos, hcs, hds⟩ := id hs
  unfold Builtin.Slice.sliceApplied Builtin.Slice.sliceFields
  refine wpAny_bind (wpAny_bind (wpAny_field hos hds (x := vl) rfl (wpAny_bind (wpAny_field hos hds (x := vu) rfl (wpAny_bind (wpAny_field hos hds (x := vs) rfl (wpAny_pure ?_)))))))
  refine wpAny_bind (slicePart_ ps ?_)
  show wpAny _ _ (if ((-1 : Int) == 0) = true then _ else _) _ _ s
  rw [if_neg (by decide)]
  refine wpAny_bind (slicePart_ pl (wpAny_bind (slicePart_ pu (wpAny_bind (wpAny_pure ?_)))))
  show wpAny _ _ (match Builtin.Slice.sliceAdjust none none (-1) (n : Int) with | (lo, hi) => pure (lo, (-1 : Int), Builtin.Slice.slicePlaces lo hi (-1))) _ _ s
  rw [adjust_back n]
  show wpAny _ _ (pure ((n : Int) - 1, (-1 : Int), Builtin.Slice.slicePlaces ((n : Int) - 1) (-1) (-1))) _ _ s
  rw [places_back]
  exact wpAny_pure h
theorem fm_congr {α β : Type} {f g : α → Option β} : ∀ {l : List α}, (∀ x ∈ l, f x = g x) → l.filterMap f = l.filterMap g
  | [], _ => rfl
  | a :: l, h => by
    rw [List.filterMap_cons, List.filterMap_cons, h a (by simp), fm_congr fun x hx => h x (List.mem_cons_of_mem _ hx)]
theorem pick_back (xs : Array Value) : ((List.range xs.size).filterMap fun (m : Nat) => xs[((xs.size : Int) - 1 + (m : Int) * -1).toNat]?).toArray = xs.toList.reverse.toArray := by
  have e : ((List.range xs.size).filterMap fun (m : Nat) => xs[((xs.size : Int) - 1 + (m : Int) * -1).toNat]?) = (List.range xs.size).filterMap fun (m : Nat) => xs.toList.reverse[m]? := by
    refine fm_congr fun m hm => ?_
    have hm := List.mem_range.mp hm
    rw [List.getElem?_reverse (by rw [Array.length_toList]; exact hm), Array.length_toList, Array.getElem?_toList]
    congr 1
    omega
  rw [e]
  congr 1
  have := PySem.W.krv_all xs.toList.reverse.toArray
  simp at this
  exact this
theorem getItem_tuple_back {t sl : Addr} {items : Array Value} {vl vu vs : Value} {Q : Value → Shared → Prop} (ht : IsTup s.heap t items) (hs : s.heap.IsSliceOf sl vl vu vs) (pl : IsPart vl none) (pu : IsPart vu none) (ps : IsPart vs (some (-1)))
    (h : Q (.ref s.heap.objs.size) { s with heap := s.heap.push { cls := .type "tuple", data := .seq items.toList.reverse.toArray } })
    (hsz : items.size ≤ sizeLine) : wpAny (model prog w) A (getItem (.ref t) (.ref sl)) Q E s := by
  have htake : sizeOk (.seq items.toList.reverse.toArray) := by
    show items.toList.reverse.toArray.size ≤ sizeLine
    rw [List.size_toArray, List.length_reverse, Array.length_toList]
    exact hsz
  obtain ⟨os, hos, hcs, hds⟩ := id hs
  have hTs : s.TypeIs (.ref sl) "slice" := ⟨os, hos, hcs⟩
  unfold getItem
  try with_reducible refine wpAny_holding ?_
  first | refine wpAny_bind (wpAny_pure ?_) | skip
  refine wpAny_bind (wpAny_sequenceKey ht.typeIs (by decide) ?_)
  refine wpAny_bind (wpAny_callSpecial?_slot (name := Str.ofString "__getitem__") ht.typeIs PyProof.Rows.slot_tuple_getitem
    (wpAny_call_entry PyProof.Rows.slot_tuple_getitem ht.typeIs entry_tuple_getitem ?_ (args_tuple_getitem _ _)))
  show wpAny _ _ (Builtin.Tuple.tupleItemsOf (.ref t) >>= _) _ _ s
  refine wpAny_bind (tupleItemsOf_ ht ?_)
  refine wpAny_bind (wpAny_typeOf hTs ?_)
  rw [if_pos (by decide)]
  refine wpAny_bind (sliceApplied_back hs pl pu ps ?_)
  have hno : ¬ ((((items.size : Int) - 1) == 0 && (-1 : Int) == 1 && items.size == items.size) = true) := by
    intro q
    rw [Bool.and_eq_true, Bool.and_eq_true] at q
    exact absurd q.1.2 (by decide)
  show wpAny _ _ (if (((items.size : Int) - 1) == 0 && (-1 : Int) == 1 && items.size == items.size) = true then _ else _) _ _ s
  rw [if_neg hno, pick_back]
  first
    | exact wpAny_bind (m := Builtin.Tuple.tupleExact _) (wpAny_newObj_type (wpAny_pure ⟨_, rfl, wpAny_pure h⟩) htake)
    | exact wpAny_bind (m := Builtin.Tuple.tupleExact _) (wpAny_newObj_type (wpAny_bind (wpAny_pure (wpAny_pure ⟨_, rfl, wpAny_pure h⟩))) htake)
    | exact wpAny_bind (wpAny_bind (m := Builtin.Tuple.tupleExact _) (wpAny_newObj_type (wpAny_pure (wpAny_pure ⟨_, rfl, wpAny_pure h⟩)) htake))
    | exact wpAny_bind (wpAny_bind (m := Builtin.Tuple.tupleExact _) (wpAny_newObj_type (wpAny_pure ⟨_, rfl, wpAny_pure h⟩) htake))
end
end HT
namespace Fl
open PySem PySem.Spec PyProof.Rows L2
section
variable {X : Cx} {W : WX} {P : List V}
def tRevA (K : PySem.W.Frag) (te : TE) : TE := fun σ H Q => te σ H fun x H1 => ∃ a xs, x = .ref a ∧ ((SqL K H1 a xs ∧ ∀ p, H1 p = none → Q (.ref p) (upd H1 p (.lst xs.reverse))) ∨ (SqT K H1 a xs ∧ ∀ p, H1 p = none → Q (.ref p) (upd H1 p (.tup xs.reverse))))
theorem pe_revA {e : Expr} {te : TE} {k : Nat} {p1 p2 p3 pos : Pos} (he : PE X e te) : PE X (.Subscript e (.Slice none none (some (.UnaryOp .USub (.Constant (.int 1) k p1) p2)) p3) pos) (tRevA X.K te) := by
  refine ⟨fun pins s σ H Q I h => ?_⟩
  refine Subscript_ (thn (he.run pins s σ H _ I h) fun v s1 ⟨x, H1, I1, r1, q1⟩ => ?_)
  obtain ⟨a, xs, ex, q⟩ := q1
  subst ex
  cases r1
  have hst : PO X (some (.UnaryOp .USub (.Constant (.int 1) k p1) p2)) (tPart (tUn (rU fun i => .int (-i)) (tC (.int 1)))) := po_some (pe_un un_neg pe_int)
  refine wpAny_Slice (thn (po_none.run pins s1 σ H1 (fun o H2 => o = none ∧ H2 = H1) I1 ⟨rfl, rfl⟩) fun vl s2 ⟨l, H2, I2, pl, el, e2⟩ => ?_)
  subst el e2
  refine thn (po_none.run pins s2 σ H2 (fun o H3 => o = none ∧ H3 = H2) I2 ⟨rfl, rfl⟩) fun vu s3 ⟨u, H3, I3, pu, eu, e3⟩ => ?_
  subst eu e3
  refine thn (hst.run pins s3 σ H3 (fun o H4 => o = some (-1) ∧ H4 = H3) I3 ⟨1, rfl, -1, rfl, rfl, rfl⟩) fun vs s4 ⟨o, H4, I4, ps, eo, e4⟩ => ?_
  subst eo e4
  have I5 : Inv X pins σ H4 { s4 with heap := s4.heap.push { cls := .type "slice", data := .fields #[vl, vu, vs] } } := I4.kept (t' := s4.toks) fun b ob q => Heap.get?_push_of_some _ q
  show wpAny (model X.prog X.w) X.A (subscriptTail e (.Slice none none (some (.UnaryOp .USub (.Constant (.int 1) k p1) p2)) p3) (.ref a) (.ref s4.heap.objs.size)) (EP X pins σ Q) X.xe { s4 with heap := s4.heap.push { cls := .type "slice", data := .fields #[vl, vu, vs] } }
  rcases q with ⟨hx, q⟩ | ⟨hx, q⟩
  · obtain ⟨its, r, ht, hz⟩ := I5.list hx
    have hlen := r.length
    refine tail_any (ops := [.ref a, .ref s4.heap.objs.size]) ht.isList.typeIs (PySem.slot_list_getitem.lookup) ?_ (by with_unfolding_all rfl)
    refine wpAny_getItem_list_slice ht.isList (Heap.IsSliceOf.new _ vl vu vs) pl pu ps (by decide) ?_ (by rw [List.size_toArray]; omega)
    rw [PySem.W.krv_pick]
    refine ⟨.ref _, _, I5.laid (t' := s4.toks) (o := .lst xs.reverse) (fun b ob q => Heap.get?_push_of_some _ q) (Nat.le_refl _) ?_, rfl, q _ (I5.hok.fresh (Nat.le_refl _))⟩
    exact ⟨by rw [List.length_reverse]; exact hz, _, 0, r.reverse, Heap.get?_push_size _ rfl⟩
  · obtain ⟨its, r, ht, hz⟩ := I5.tuple hx
    have hlen := r.length
    have ht : IsTup (s4.heap.push { cls := .type "slice", data := .fields #[vl, vu, vs] }) a its.toArray := ht
    refine tail_any (ops := [.ref a, .ref s4.heap.objs.size]) ht.typeIs (PyProof.Rows.slot_tuple_getitem.lookup) ?_ (by with_unfolding_all rfl)
    refine HT.getItem_tuple_back ht (Heap.IsSliceOf.new _ vl vu vs) pl pu ps ?_ (by rw [List.size_toArray]; omega)
    refine ⟨.ref _, _, I5.laid (t' := s4.toks) (o := .tup xs.reverse) (fun b ob q => Heap.get?_push_of_some _ q) (Nat.le_refl _) ?_, rfl, q _ (I5.hok.fresh (Nat.le_refl _))⟩
    exact ⟨by rw [List.length_reverse]; exact hz, its.reverse, r.reverse, _, Heap.get?_push_size _ rfl, rfl, _, rfl⟩
@[reducible] def wRev (wa : Wd) : Wd := fun ρ Q E => wa ρ (fun r ρ1 => wD ρ1 r fun d => match d with
  | .lst ds => Q (.new (.lst ds.reverse)) ρ1
  | .tup ds => Q (.val (.tup ds.reverse)) ρ1
  | _ => False) E
theorem se_rev {w : World} {K : PySem.W.Frag} {t : TE} {wa : Wd} (ha : SE w W P t wa) : SE w W P (tRevA K t) (wRev wa) := by
  intro F L H τ ρ σ Q Q' E' S hQ hE h
  refine ha F L H τ ρ σ _ _ E' S (fun r ρ1 v F1 L1 H1 h1 s1 S1 => ?_) hE h
  obtain ⟨d, e, h1⟩ := wD_ex h1
  have hx := S1.pk (p := (r, v)) (by simp) e
  have k : Kon w F1 H1 Q fun z => Q' z ρ1 := Kon.of S1.pop fun r v F' L' H' q s S' => hQ _ _ _ _ _ _ q (s1.trans s) S'
  split at h1
  · obtain ⟨a, us, rfl, g1, g2⟩ := hx
    exact ⟨a, us, rfl, .inl ⟨.inl g1, fun p hp => k.hl _ _ p h1 g2.rev hp⟩⟩
  · obtain ⟨a, us, rfl, g1, g2⟩ := hx.tup
    exact ⟨a, us, rfl, .inr ⟨(S1.sub _ _ g1).sqT, fun p hp => k.ht _ _ p h1 g2.rev hp⟩⟩
  · exact h1.elim
end
end Fl

set_option Elab.async false
set_option linter.all false
set_option maxRecDepth 100000
set_option maxHeartbeats 400000
/-! FlQ: isinstance, repr, enumerate, d.get, list(range(..)), dict displays -/
namespace Fl
open PySem PySem.Spec PyProof.Rows L2
/-! ### isinstance -/
def isiN : List String := ["int", "bool", "tuple", "list", "dict", "str", "set"]
def isiB : D → String → Bool
  | .bl _, n => n == "bool" || n == "int"
  | .int _, n => n == "int"
  | .str _, n => n == "str"
  | .tup _, n => n == "tuple"
  | .lst _, n => n == "list"
  | .dic _, n => n == "dict"
  | .set _, n => n == "set"
  | _, _ => false
/-- an own class of which there are instances -/
structure InsK (K : PySem.W.Frag) (C : Addr) : Prop where
  cl : Cls K C
  ha : PySem.W.findIn K (.ref C) "__class__" = some (some (.builtin "object.__class__"))
  hn : PySem.W.specialIn K (.builtin "object.__class__") "__get__" = some (some (.builtin "getset_descriptor.__get__"))
  htk : PySem.W.takesIn K (.builtin "object.__class__") = some true
  hm : PySem.W.mroIn K C (.type "object") = some true
  no : ∀ n ∈ isiN, PySem.W.kitOne K (.ref C) (.type n) = some false
/-- no built-in kind is of the class C -/
def NotB (K : PySem.W.Frag) (C : Addr) : Prop := ∀ n ∈ ["NoneType", "int", "bool", "tuple", "list", "dict", "str", "set"], PySem.W.kitOne K (.type n) (.ref C) = some false
def opIsi (K : PySem.W.Frag) : OpN := fun ds k => match ds with
  | [d, .ty n] => n ∈ isiN ∧ (match d with
    | .ins C _ => InsK K C ∧ k (.val (.bl false))
    | .ty _ => False
    | .adr _ => False
    | .dit _ => False
    | .set _ => False
    | d => k (.val (.bl (isiB d n))))
  | [d, .adr C] => (match d with
    | .ins D _ => InsK K D ∧ ∃ b, PySem.W.kitOne K (.ref D) (.ref C) = some b ∧ k (.val (.bl b))
    | .ty _ => False
    | .adr _ => False
    | .dit _ => False
    | .set _ => False
    | _ => NotB K C ∧ k (.val (.bl false)))
  | _ => False
section
variable {w : World} {K : PySem.W.Frag}
theorem Rd.tyL {H : Hp} {a : Addr} {vs : List V} (h : Rd H a (.lst vs)) : TyX K H (.ref a) (.type "list") := by
  rcases h with h | ⟨ob, h⟩
  · exact .base (.lst h)
  · exact .base (.frz h)
theorem Rd.tyD {H : Hp} {a : Addr} {vs : List (Key × V)} (h : Rd H a (.dK vs)) : TyX K H (.ref a) (.type "dict") := by
  rcases h with h | ⟨ob, h⟩
  · exact .base (.dK h)
  · exact .fDict h
/-- the type of data of a built-in kind -/
def tyB : D → Option String
  | .non => some "NoneType"
  | .bl _ => some "bool"
  | .int _ => some "int"
  | .str _ => some "str"
  | .tup _ => some "tuple"
  | .lst _ => some "list"
  | .dic _ => some "dict"
  | _ => none
theorem tyB_ok {F H : Hp} (sub : ∀ a o, F a = some o → Sb H a o) {d : D} {v : V} {t : String} (h : Pk w F H d v) (e : tyB d = some t) : TyX K H v (.type t) := by
  cases d with
  | non => cases e; rw [h.non]; exact .base .non
  | bl b => cases e; rw [h.bl]; exact .base (.bl b)
  | int b => cases e; rw [h.int]; exact .base (.int b)
  | str b => cases e; rw [h.str]; exact .base (.str b)
  | tup ds => cases e; obtain ⟨a, vs, rfl, h1, _⟩ := h.tup; exact .base (.tup ((sub _ _ h1).ex fun z => z))
  | lst ds => cases e; obtain ⟨a, vs, rfl, h1, _⟩ := h; exact Rd.tyL h1
  | dic ds => cases e; obtain ⟨a, vs, rfl, h1, _⟩ := h; exact Rd.tyD h1
  | set ns => cases e
  | dit ds => cases e
  | ins C fs => cases e
  | ty n => cases e
  | adr a => cases e
theorem isiB_ok {d : D} {t n : String} (e : tyB d = some t) (hn : n ∈ isiN) : PySem.W.kitOne K (.type t) (.type n) = some (isiB d n) := by
  cases d with
  | non => cases e; exact kit_ty (by revert hn; revert n; decide +kernel)
  | bl b => cases e; exact kit_ty (show kitB "bool" n = some (n == "bool" || n == "int") by revert hn; revert n; decide +kernel)
  | int b => cases e; exact kit_ty (show kitB "int" n = some (n == "int") by revert hn; revert n; decide +kernel)
  | str b => cases e; exact kit_ty (show kitB "str" n = some (n == "str") by revert hn; revert n; decide +kernel)
  | tup b => cases e; exact kit_ty (show kitB "tuple" n = some (n == "tuple") by revert hn; revert n; decide +kernel)
  | lst b => cases e; exact kit_ty (show kitB "list" n = some (n == "list") by revert hn; revert n; decide +kernel)
  | dic b => cases e; exact kit_ty (show kitB "dict" n = some (n == "dict") by revert hn; revert n; decide +kernel)
  | set b => cases e
  | dit ds => cases e
  | ins C fs => cases e
  | ty n => cases e
  | adr a => cases e
theorem tyB_mem {d : D} {t : String} (e : tyB d = some t) : t ∈ ["NoneType", "int", "bool", "tuple", "list", "dict", "str", "set"] := by
  cases d <;> cases e <;> decide
theorem pn_isi : PON w (rIsi K) (opIsi K) := by
  intro F H vs ds Q Q' sub hp k h
  unfold opIsi at h
  split at h
  · rename_i d n
    obtain ⟨v, u, rfl, hx, hy⟩ := Pks.two hp
    obtain ⟨hn, h⟩ := h
    have hu : u = .ty n := hy.ty
    subst hu
    have blt : ∀ {t}, tyB d = some t → Q' (.val (.bl (isiB d n))) → rIsi K [v, .ty n] H Q := fun {t} e q =>
      ⟨v, .ty n, .type t, .type n, _, rfl, .ty n, tyB_ok sub hx e, isiB_ok e hn, k.hv _ _ q rpBl⟩
    cases d with
    | ins C fs =>
      obtain ⟨I, q⟩ := h
      obtain ⟨a, dx, us, rfl, h1, _⟩ := hx
      exact ⟨.ref a, .ty n, .ref C, .type n, false, rfl, .ty n, .base (.ins h1 I.cl I.ha I.hn I.htk I.hm), I.no n hn, k.hv _ _ q rpBl⟩
    | ty _ => exact h.elim
    | adr _ => exact h.elim
    | dit _ => exact h.elim
    | non => exact blt rfl h
    | bl b => exact blt rfl h
    | int b => exact blt rfl h
    | str b => exact blt rfl h
    | tup b => exact blt rfl h
    | lst b => exact blt rfl h
    | dic b => exact blt rfl h
    | set b => exact h.elim
  · rename_i d C
    obtain ⟨v, u, rfl, hx, hy⟩ := Pks.two hp
    have hu : u = .ref C := hy.adr
    subst hu
    have blt : ∀ {t}, tyB d = some t → NotB K C ∧ Q' (.val (.bl false)) → rIsi K [v, .ref C] H Q := fun {t} e q =>
      ⟨v, .ref C, .type t, .ref C, _, rfl, .own C, tyB_ok sub hx e, q.1 t (tyB_mem e), k.hv _ _ q.2 rpBl⟩
    cases d with
    | ins D fs =>
      obtain ⟨I, b, hb, q⟩ := h
      obtain ⟨a, dx, us, rfl, h1, _⟩ := hx
      exact ⟨.ref a, .ref C, .ref D, .ref C, b, rfl, .own C, .base (.ins h1 I.cl I.ha I.hn I.htk I.hm), hb, k.hv _ _ q rpBl⟩
    | ty _ => exact h.elim
    | adr _ => exact h.elim
    | dit _ => exact h.elim
    | non => exact blt rfl h
    | bl b => exact blt rfl h
    | int b => exact blt rfl h
    | str b => exact blt rfl h
    | tup b => exact blt rfl h
    | lst b => exact blt rfl h
    | dic b => exact blt rfl h
    | set b => exact h.elim
  · exact h.elim
end
/-! ### repr -/
/-- data with lists (m) or with dicts of ints (not m), for what is shown -/
def int2? : List (Key × D) → Option (List (Int × Int))
  | [] => some []
  | (.inl i, .int j) :: r => (int2? r).map ((i, j) :: ·)
  | _ => none
mutual
def D.sh (m : Bool) : D → Option PyData
  | .non => some .none
  | .bl b => some (.bool b)
  | .int i => some (.int i)
  | .str z => some (.str z)
  | .tup xs => (shs m xs).map .tuple
  | .lst xs => if m = true then (shs m xs).map .list else none
  | .dic kvs => if m = true then none else (int2? kvs).map fun ps => .dict (ps.map fun p => (.int p.1, .int p.2))
  | _ => none
def shs (m : Bool) : List D → Option (List PyData)
  | [] => some []
  | x :: xs => match x.sh m with
    | some y => (shs m xs).map (y :: ·)
    | none => none
end
theorem int2?_of {w : World} {F : Hp} : ∀ {kvs : List (Key × D)} {ps : List (Int × Int)} {vs : List (Key × V)}, int2? kvs = some ps → RpK w F kvs vs → vs = ps.map fun p => ((Sum.inl p.1 : Key), V.int p.2)
  | [], ps, vs, e, h => by
    cases e
    unfold RpK at h
    exact h
  | (k, d) :: r, ps, vs, e, h => by
    unfold RpK at h
    obtain ⟨v, us, rfl, h1, h2⟩ := h
    cases k with
    | inr z => simp [int2?] at e
    | inl i =>
      cases d with
      | int j =>
        have e : (int2? r).map ((i, j) :: ·) = some ps := e
        cases q : int2? r with
        | none => rw [q] at e; cases e
        | some qs =>
          rw [q] at e; cases e
          rw [int2?_of q h2]
          have : v = .int j := by unfold Rp at h1; exact h1
          rw [this]
          rfl
      | _ => simp [int2?] at e
section
variable {w : World} {F H : Hp} {K : PySem.W.Frag} {m : Bool}
mutual
theorem Rp.dq (sub : ∀ a o, F a = some o → Sb H a o) : ∀ {d : D} {v : V} {y : PyData}, Rp w F d v → d.sh m = some y → My.Dq K H m v y
  | .non, _, _, h, e => by unfold Rp at h; subst h; unfold D.sh at e; cases e; exact .non
  | .bl b, _, _, h, e => by unfold Rp at h; subst h; unfold D.sh at e; cases e; exact .bl b
  | .int b, _, _, h, e => by unfold Rp at h; subst h; unfold D.sh at e; cases e; exact .int b
  | .str b, _, _, h, e => by unfold Rp at h; subst h; unfold D.sh at e; cases e; exact .str b
  | .tup ds, _, y, h, e => by
    unfold Rp at h
    obtain ⟨a, vs, rfl, h1, h2⟩ := h
    unfold D.sh at e
    cases q : shs m ds with
    | none => rw [q] at e; cases e
    | some ys => rw [q] at e; cases e; exact .tup (sub _ _ h1).sqT (Rps.dq sub h2 q)
  | .lst ds, _, y, h, e => by
    unfold Rp at h
    obtain ⟨a, vs, rfl, h1, h2⟩ := h
    unfold D.sh at e
    split at e
    · rename_i hm
      cases q : shs m ds with
      | none => rw [q] at e; cases e
      | some ys => rw [q] at e; cases e; exact .lst hm (sub _ _ h1).sqL (Rps.dq sub h2 q)
    · cases e
  | .dic kvs, _, y, h, e => by
    unfold D.sh at e
    split at e
    · cases e
    · rename_i hm
      cases q : int2? kvs with
      | none => rw [q] at e; cases e
      | some ps =>
        rw [q] at e; cases e
        unfold Rp at h
        obtain ⟨a, vs, rfl, h1, h2⟩ := h
        rw [int2?_of q h2] at h1
        exact .dic (by simpa using hm) (sub _ _ h1).rd
  | .ty _, _, _, _, e => by unfold D.sh at e; cases e
  | .adr _, _, _, _, e => by unfold D.sh at e; cases e
  | .dit _, _, _, _, e => by unfold D.sh at e; cases e
  | .set _, _, _, _, e => by unfold D.sh at e; cases e
  | .ins _ _, _, _, _, e => by unfold D.sh at e; cases e
theorem Rps.dq (sub : ∀ a o, F a = some o → Sb H a o) : ∀ {ds : List D} {vs : List V} {ys : List PyData}, Rps w F ds vs → shs m ds = some ys → My.DqAll K H m vs ys
  | [], _, _, h, e => by unfold Rps at h; subst h; unfold shs at e; cases e; exact .nil
  | d :: ds, _, ys, h, e => by
    unfold Rps at h
    obtain ⟨v, r, rfl, h1, h2⟩ := h
    unfold shs at e
    cases q : d.sh m with
    | none => simp only [q] at e; cases e
    | some y =>
      simp only [q] at e
      cases q2 : shs m ds with
      | none => rw [q2] at e; cases e
      | some zs => rw [q2] at e; cases e; exact .cons (Rp.dq sub h1 q) (Rps.dq sub h2 q2)
end
end
end Fl

set_option Elab.async false
set_option linter.all false
set_option maxRecDepth 100000
set_option maxHeartbeats 400000
/-! FlR: repr, enumerate, d.get, list(range(..)), dict displays -/
namespace Fl
open PySem PySem.Spec PyProof.Rows L2
section
variable {w : World} {W : WX} {P : List V} {K : PySem.W.Frag}
theorem Pk.dq {F H : Hp} {m : Bool} (sub : ∀ a o, F a = some o → Sb H a o) {d : D} {v : V} {y : PyData} (h : Pk w F H d v) (e : d.sh m = some y) : My.Dq K H m v y := by
  cases d with
  | lst ds =>
    obtain ⟨a, vs, rfl, h1, h2⟩ := h
    unfold D.sh at e
    split at e
    · rename_i hm
      cases q : shs m ds with
      | none => rw [q] at e; cases e
      | some ys => rw [q] at e; cases e; exact .lst hm (.inl h1) (Rps.dq sub h2 q)
    · cases e
  | dic kvs =>
    obtain ⟨a, vs, rfl, h1, h2⟩ := h
    unfold D.sh at e
    split at e
    · cases e
    · rename_i hm
      cases q : int2? kvs with
      | none => rw [q] at e; cases e
      | some ps =>
        rw [q] at e; cases e
        rw [int2?_of q h2] at h1
        exact .dic (by simpa using hm) h1
  | tup ds => exact Rp.dq (w := w) sub (d := .tup ds) h e
  | non => exact Rp.dq (w := w) sub (d := .non) h e
  | bl b => exact Rp.dq (w := w) sub (d := .bl b) h e
  | int b => exact Rp.dq (w := w) sub (d := .int b) h e
  | str b => exact Rp.dq (w := w) sub (d := .str b) h e
  | ty _ => unfold D.sh at e; cases e
  | adr _ => unfold D.sh at e; cases e
  | dit _ => unfold D.sh at e; cases e
  | set _ => unfold D.sh at e; cases e
  | ins _ _ => unfold D.sh at e; cases e
@[reducible] def opRepr : OpN := fun ds k => match ds with
  | [d] => ∃ m y, d.sh m = some y ∧ y.showable = true ∧ My.dcost y ≤ 10000000 ∧ y.depth ≤ 50 ∧ k (.val (.str y.shown))
  | _ => False
theorem pn_repr : PON w (My.rRepr K) opRepr := by
  intro F H vs ds Q Q' sub hp k h
  unfold opRepr at h
  split at h
  · obtain ⟨v, rfl, hx⟩ := Pks.one hp
    obtain ⟨m, y, e, h1, h2, h3, q⟩ := h
    exact ⟨v, m, y, rfl, hx.dq sub e, h1, h2, h3, k.hv _ _ q rpStr⟩
  · exact h.elim
/-! ### enumerate -/
def iEnA (K : PySem.W.Frag) (ta : TA) : TI := fun σ H R => ta σ H fun vs H1 => ∃ a xs, vs = [.ref a] ∧ ((SqL K H1 a xs ∧ R (Ite K a) H1) ∨ (SqT K H1 a xs ∧ R (My.IteT K a) H1))
theorem pi_enA {X : Cx} {e : Expr} {ta : TA} {p pos tpos : Pos} {elts : List Expr} {kk : Nat} (hg : Gl X "enumerate") (hm : X.mg "enumerate" = none) (ha : PA X [e] ta) (hs : starEach [e] X.env = [(false, eval e X.env)] := by rfl) :
    PI X (.Tuple elts kk tpos) (.Call (.Name "enumerate" p) [e] [] pos) (iEnA X.K ta) := by
  refine ⟨fun pins s σ H R I h => Call_ (ld_blt I hg hm boot_enumerate (PyProof.Rows.callWith_type1 (thn (ha.run pos pins s σ H _ I h) fun us s1 ⟨vs, H1, I1, r1, q1⟩ => ?_) hs rfl))⟩
  obtain ⟨a, xs, ex, q⟩ := q1
  subst ex
  cases r1 with
  | cons r rr =>
    cases rr
    cases r
    have fpo : ∀ b, b ∈ [s1.heap.objs.size + 1, s1.heap.objs.size] → s1.heap.objs.size ≤ b := fun b hb => by
      rcases (show b = s1.heap.objs.size + 1 ∨ b = s1.heap.objs.size by simpa using hb) with z | z
      · rw [z]
        exact Nat.le_succ _
      · exact Nat.le_of_eq z.symm
    rcases q with ⟨hq, q⟩ | ⟨hq, q⟩
    · obtain ⟨its, rv, p', hz⟩ := I1.list hq
      refine call_enumerate_list p'.isList fun h' he hit hsz hk => wpAny_pyIter_enum he ?_
      have I2 : Inv X pins σ H1 { s1 with heap := h' } := I1.kept (t' := s1.toks) hk
      refine ⟨s1.heap.objs.size + 1, [s1.heap.objs.size + 1, s1.heap.objs.size], _, _, H1, rfl, I2, turn_enum a (s1.heap.objs.size + 1) s1.heap.objs.size, ⟨⟨.none, he⟩, hit, Nat.succ_ne_self _⟩, fun b hb => ?_, q⟩
      exact I1.fpOk (fpo b hb) (I1.hok.fresh (fpo b hb))
    · obtain ⟨its, rv, pt, hz⟩ := I1.tuple hq
      refine My.enum_one (begins_tuple a its.toArray) pt fun g he hit hk => wpAny_pyIter_enum he ?_
      have hal : a < s1.heap.objs.size := pt.lt
      have I2 : Inv X pins σ H1 { s1 with heap := g } := I1.kept (t' := s1.toks) hk
      refine ⟨s1.heap.objs.size + 1, [s1.heap.objs.size + 1, s1.heap.objs.size], _, _, H1, rfl, I2, My.turn_enumT a (s1.heap.objs.size + 1) s1.heap.objs.size, ⟨⟨.none, he⟩, ⟨_, hit, rfl, rfl⟩, Nat.succ_ne_self _, Nat.ne_of_lt hal, Nat.ne_of_lt (Nat.lt_succ_of_lt hal)⟩, fun b hb => ?_, q⟩
      exact I1.fpOk (fpo b hb) (I1.hok.fresh (fpo b hb))
def enumD : Nat → List D → List D
  | _, [] => []
  | i, d :: ds => .tup [.int (i : Nat), d] :: enumD (i + 1) ds
theorem enumD_len : ∀ {i : Nat} {ds : List D}, (enumD i ds).length = ds.length
  | _, [] => rfl
  | i, d :: ds => congrArg (· + 1) (enumD_len (i := i + 1) (ds := ds))
theorem enumD_get : ∀ {i j : Nat} {ds : List D} {d : D}, ds[j]? = some d → (enumD i ds)[j]? = some (.tup [.int ((i + j : Nat) : Int), d])
  | i, j, [], d, h => by simp at h
  | i, 0, e :: ds, d, h => by
    simp at h
    subst h
    rfl
  | i, j + 1, e :: ds, d, h => by
    rw [List.getElem?_cons_succ] at h
    show (enumD (i + 1) ds)[j]? = _
    rw [enumD_get h]
    congr 4
    omega
theorem it_en {F0 : Hp} {J : It} {ds : List D} {vs : List V} (hgo : ∀ (F : Hp) (H : Hp), (∀ a o, F0 a = some o → F a = some o) → (∀ a o, F a = some o → Sb H a o) → ∀ i, (i < vs.length → ∀ x, vs[i]? = some x → J.go i H ∧ ∀ v H', J.yld i H v H' → ∃ T, v = .ref T ∧ H T = none ∧ H' = upd H T (.tup [.int (i : Nat), x])) ∧ (vs.length ≤ i → J.stop i H))
    (r : Rps w F0 ds vs) : ItOk w F0 J (enumD 0 ds) := by
  intro P F L H τ ρ σ i m S
  rw [enumD_len, ← r.len]
  obtain ⟨g1, g2⟩ := hgo F H m S.sub i
  refine ⟨fun hi => ?_, g2⟩
  have e : ds[i]? = some (ds[i]'(by rw [← r.len]; exact hi)) := List.getElem?_eq_getElem _
  obtain ⟨v, ev, rv⟩ := r.get e
  obtain ⟨h1, h2⟩ := g1 hi v ev
  refine ⟨h1, fun x H' y => ?_⟩
  obtain ⟨T, rfl, hT, rfl⟩ := h2 x H' y
  obtain ⟨fp, lp⟩ := S.free hT
  refine ⟨_, _, L, enumD_get e, Step.allocF S hT, (S.allocF hT).push ?_⟩
  unfold Rp
  refine ⟨T, _, rfl, upd_same, ?_⟩
  rw [Nat.zero_add]
  exact Rps.cons rpInt (Rps.one ((rv.mono m).mono (Rp.new (w := w) fp)))
@[reducible] def wEn (wa : Wa) : WI := fun ρ Q E => wa ρ (fun rs ρ1 => match rs with
  | [r] => wF ρ1 r fun d ρ2 => match d with
    | .lst ds => Q (enumD 0 ds) ρ2
    | .tup ds => Q (enumD 0 ds) ρ2
    | _ => False
  | _ => False) E
theorem si_en {t : TA} {wa : Wa} (ha : SAn w W P 1 t wa) : SI w W P (iEnA K t) (wEn wa) := by
  intro F L H τ ρ σ Q Q' E' S hQ hE h
  refine ha F L H τ ρ σ _ _ _ S (fun ps ρ1 F1 L1 H1 en h1 s1 S1 => ?_) hE h
  match ps, en with
  | [p], _ =>
    have S1 : St w P F1 L1 H1 ((p.1, p.2) :: τ) ρ1 σ := S1
    obtain ⟨d, ρ2, F2, L2, h2, s2, S2⟩ := S1.wF h1
    cases d with
    | lst ds =>
      have rp : Rp w F2 (.lst ds) p.2 := S2.tm.1
      unfold Rp at rp
      obtain ⟨a, vs, ep, g1, g2⟩ := rp
      refine ⟨a, vs, by rw [List.map_cons, ep]; rfl, .inl ⟨(S2.sub _ _ g1).sqL, hQ _ _ _ _ _ _ h2 (s1.trans s2) S2.pop (it_en (vs := vs) (fun F H m sub i => ?_) g2)⟩⟩
      have q : SqL K H a vs := (sub _ _ (m _ _ g1)).sqL
      refine ⟨fun hi x ex => ⟨⟨vs, x, q, ex⟩, fun v H' y => ?_⟩, fun hi => ⟨vs, q, hi⟩⟩
      obtain ⟨T, x', rfl, hT, rfl, hx⟩ := y
      have z := hx vs q
      rw [ex] at z; cases z
      exact ⟨T, rfl, hT, rfl⟩
    | tup ds =>
      have rp : Rp w F2 (.tup ds) p.2 := S2.tm.1
      unfold Rp at rp
      obtain ⟨a, vs, ep, g1, g2⟩ := rp
      refine ⟨a, vs, by rw [List.map_cons, ep]; rfl, .inr ⟨(S2.sub _ _ g1).sqT, hQ _ _ _ _ _ _ h2 (s1.trans s2) S2.pop (it_en (vs := vs) (fun F H m sub i => ?_) g2)⟩⟩
      have q : SqT K H a vs := (sub _ _ (m _ _ g1)).sqT
      refine ⟨fun hi x ex => ⟨⟨vs, x, q, ex⟩, fun v H' y => ?_⟩, fun hi => ⟨vs, q, hi⟩⟩
      obtain ⟨T, x', rfl, hT, rfl, hx⟩ := y
      have z := hx vs q
      rw [ex] at z; cases z
      exact ⟨T, rfl, hT, rfl⟩
    | _ => exact h2.elim
/-! ### d.get(k, x) -/
/-- the entry of a key -/
@[reducible] def getD (d e : D) (k : Option D → Prop) : Prop := match d with
  | .dic kvs => (match key? e with
    | some c => k (lookK kvs c)
    | none => False)
  | .dit kvs => (match e with
    | .tup es => (match keys? es with
      | some c => k (lookK kvs c)
      | none => False)
    | _ => False)
  | _ => False
theorem getD_ok {F H : Hp} (sub : ∀ a o, F a = some o → Sb H a o) {d e : D} {x y : V} {k : Option D → Prop} (hx : Pk w F H d x) (hy : Pk w F H e y) (h : getD d e k) :
    ∃ a, x = .ref a ∧ IsD H a ∧ ((∃ v d, DGet H a y (some v) ∧ Rp w F d v ∧ k (some d)) ∨ (DGet H a y none ∧ k none)) := by
  unfold getD at h
  split at h
  · obtain ⟨a, vs, rfl, h1, h2⟩ := hx
    split at h
    · rename_i c ec
      have ey := key?_of ec hy
      refine ⟨a, rfl, .inl ⟨vs, h1⟩, ?_⟩
      rcases RpK.look c h2 with ⟨e1, e2⟩ | ⟨d, v, e1, e2, e3⟩
      · rw [e1] at h; exact .inr ⟨.inl ⟨vs, c, h1, ey, e2.symm⟩, h⟩
      · rw [e1] at h; exact .inl ⟨v, d, .inl ⟨vs, c, h1, ey, e2.symm⟩, e3, h⟩
    · exact h.elim
  · obtain ⟨a, vs, rfl, h1, h2⟩ := hx
    split at h
    · obtain ⟨b, us, rfl, h3, h4⟩ := hy.tup
      split at h
      · rename_i c ec
        have ey := keys?_of ec h4
        rw [ey] at h3
        have h5 : H b = some (.tup (c.map kV)) := (sub _ _ h3).ex fun z => z
        refine ⟨a, rfl, .inr ⟨vs, h1⟩, ?_⟩
        rcases RpT.look c h2 with ⟨e1, e2⟩ | ⟨d, v, e1, e2, e3⟩
        · rw [e1] at h; exact .inr ⟨.inr ⟨vs, c, b, h1, rfl, h5, e2.symm⟩, h⟩
        · rw [e1] at h; exact .inl ⟨v, d, .inr ⟨vs, c, b, h1, rfl, h5, e2.symm⟩, e3, h⟩
      · exact h.elim
    · exact h.elim
  · exact h.elim
@[reducible] def isDic : D → Prop
  | .dic _ => True
  | .dit _ => True
  | _ => False
@[reducible] def wGet2 (wd wy wx : Wd) : Wd := fun ρ Q E => wd ρ (fun r ρ0 => wD ρ0 r isDic ∧ wy ρ0 (fun ry ρ1 => wx ρ1 (fun rz ρ2 => wF ρ2 rz fun z ρ3 => wD ρ3 r fun d => wD ρ3 ry fun e => getD d e fun o => match o with
  | some x => Q (.val x) ρ3
  | none => Q (.val z) ρ3) E) E) E
theorem se_get2 {td ty tx : TE} {wd wy wx : Wd} (hd : SE w W P td wd) (hy : SE w W P ty wy) (hx : SE w W P tx wx) : SE w W P (tDGet2 td ty tx) (wGet2 wd wy wx) := by
  intro F L H τ ρ σ Q Q' E' S hQ hE h
  refine hd F L H τ ρ σ _ _ _ S (fun r ρ0 v F0 L0 H0 h0 s0 S0 => ?_) hE h
  obtain ⟨d0, ed0, isd⟩ := wD_ex h0.1
  have pk0 := S0.pk (p := (r, v)) (by simp) ed0
  obtain ⟨a, ea, ha⟩ : ∃ a, v = .ref a ∧ IsD H0 a := by
    cases d0 with
    | dic kvs => obtain ⟨a, vs, e, h1, _⟩ := pk0; exact ⟨a, e, .inl ⟨vs, h1⟩⟩
    | dit kvs => obtain ⟨a, vs, e, h1, _⟩ := pk0; exact ⟨a, e, .inr ⟨vs, h1⟩⟩
    | _ => exact isd.elim
  refine ⟨a, ea, ha, ?_⟩
  refine hy F0 L0 H0 _ ρ0 σ _ _ _ S0 (fun ry ρ1 y F1 L1 H1 h1 s1 S1 => ?_) (hE.step s0) h0.2
  refine hx F1 L1 H1 _ ρ1 σ _ _ _ S1 (fun rz ρ2 z F2 L2 H2 h2 s2 S2 => ?_) (hE.step (s0.trans s1)) h1
  obtain ⟨dz, ρ3, F3, L3, h3, s3, S3⟩ := S2.wF h2
  have s03 := (s0.trans s1).trans (s2.trans s3)
  obtain ⟨d, e1, h3⟩ := wD_ex h3
  obtain ⟨e, e2, h3⟩ := wD_ex h3
  have rz : Rp w F3 dz z := S3.tm.1
  obtain ⟨a', ea', _, q⟩ := getD_ok S3.sub (S3.pk (p := (r, v)) (by simp) e1) (S3.pk (p := (ry, y)) (by simp) e2) h3
  rw [ea] at ea'
  cases ea'
  rcases q with ⟨u, x, g, ru, q⟩ | ⟨g, q⟩
  · exact ⟨_, g, hQ _ _ _ _ _ _ q s03 (S3.pop.pop.pop.push ru)⟩
  · exact ⟨_, g, hQ _ _ _ _ _ _ q s03 (S3.pop.pop.pop.push rz)⟩
/-! ### list(range(..)) -/
theorem rps_ran {F : Hp} {lo : Int} {n : Nat} : Rps w F (ranD lo n) ((List.range n).map fun i => V.int (lo + (i : Nat))) := by
  unfold ranD
  induction List.range n with
  | nil => exact Rps.nil
  | cons i l ih => exact Rps.cons rpInt ih
@[reducible] def wLr1 (wa : Wd) : Wd := fun ρ Q E => wa ρ (fun r ρ1 => wD ρ1 r fun d => iD d fun n => (-1000000 ≤ n ∧ n ≤ 1000000) ∧ Q (.new (.lst (ranD 0 n.toNat))) ρ1) E
@[reducible] def wLr2 (wa wb : Wd) : Wd := fun ρ Q E => wa ρ (fun r ρ1 => wb ρ1 (fun r2 ρ2 => wD ρ2 r fun d => iD d fun m => wD ρ2 r2 fun e => iD e fun n => (-1000000 ≤ m ∧ m ≤ 1000000 ∧ -1000000 ≤ n ∧ n ≤ 1000000) ∧ Q (.new (.lst (ranD m (n - m).toNat))) ρ2) E) E
theorem iD_ex {F H : Hp} {d : D} {v : V} {k : Int → Prop} (hx : Pk w F H d v) (h : iD d k) : ∃ i, v = .int i ∧ k i := by
  unfold iD at h
  split at h
  · exact ⟨_, hx.int, h⟩
  · exact h.elim
theorem se_lr1 {t : TE} {wa : Wd} (ha : SE w W P t wa) : SE w W P (tLstRg (tRg1 t)) (wLr1 wa) := by
  intro F L H τ ρ σ Q Q' E' S hQ hE h
  refine ha F L H τ ρ σ _ _ _ S (fun r ρ1 v F1 L1 H1 h1 s1 S1 => ?_) hE h
  obtain ⟨d, e, h1⟩ := wD_ex h1
  obtain ⟨n, ev, h1⟩ := iD_ex (S1.pk (p := (r, v)) (by simp) e) h1
  refine ⟨n, ev, ⟨by omega, by omega, by omega, by omega, by omega⟩, fun p hp => ?_⟩
  have q := (Kon.of (Q' := fun r => Q' r ρ1) S1.pop fun r v F' L' H' q s S' => hQ _ _ _ _ _ _ q (s1.trans s) S').hl _ _ p h1.2 rps_ran hp
  unfold rgV
  rw [Int.sub_zero]
  exact q
theorem se_lr2 {t u : TE} {wa wb : Wd} (ha : SE w W P t wa) (hb : SE w W P u wb) : SE w W P (tLstRg (tRg2 t u)) (wLr2 wa wb) := by
  intro F L H τ ρ σ Q Q' E' S hQ hE h
  refine ha F L H τ ρ σ _ _ _ S (fun r ρ1 v F1 L1 H1 h1 s1 S1 => ?_) hE h
  refine hb F1 L1 H1 _ ρ1 σ _ _ _ S1 (fun r2 ρ2 v2 F2 L2 H2 h2 s2 S2 => ?_) (hE.step s1) h1
  obtain ⟨d, e, h2⟩ := wD_ex h2
  obtain ⟨m, ev, h2⟩ := iD_ex (S2.pk (p := (r, v)) (by simp) e) h2
  obtain ⟨d2, e2, h2⟩ := wD_ex h2
  obtain ⟨n, ev2, h2⟩ := iD_ex (S2.pk (p := (r2, v2)) (by simp) e2) h2
  refine ⟨m, n, ev, ev2, ⟨by omega, by omega, by omega, by omega, by omega⟩, fun p hp => ?_⟩
  exact (Kon.of (Q' := fun r => Q' r ρ2) S2.pop.pop fun r v F' L' H' q s S' => hQ _ _ _ _ _ _ q ((s1.trans s2).trans s) S').hl _ _ p h2.2 rps_ran hp
/-! ### {k: v, ..} -/
@[reducible] def wPairs : List (Wd × Wd) → Env → (List (R × R) → Env → Prop) → QE → Prop
  | [], ρ, Q, _ => Q [] ρ
  | (a, b) :: r, ρ, Q, E => a ρ (fun x ρ1 => b ρ1 (fun y ρ2 => wPairs r ρ2 (fun ps ρ3 => Q ((x, y) :: ps) ρ3) E) E) E
@[reducible] def wKvs : Env → List (R × R) → (List (Key × D) → Env → Prop) → Prop
  | ρ, [], k => k [] ρ
  | ρ, (x, y) :: r, k => wKvs ρ r fun kvs ρ1 => wF ρ1 y fun d ρ2 => wD ρ2 x fun e => match key? e with
    | some c => k ((c, d) :: kvs) ρ2
    | none => False
def mergeD (kvs more : List (Key × D)) : List (Key × D) := more.foldl (fun acc kv => putD acc kv.1 kv.2) kvs
theorem RpK.merge {F : Hp} : ∀ {more : List (Key × D)} {ws : List (Key × V)} {kvs : List (Key × D)} {vs : List (Key × V)}, RpK w F more ws → RpK w F kvs vs → RpK w F (mergeD kvs more) (mergeK vs ws)
  | [], ws, kvs, vs, h, g => by unfold RpK at h; subst h; exact g
  | (k, d) :: more, ws, kvs, vs, h, g => by
    unfold RpK at h
    obtain ⟨v, r, rfl, h1, h2⟩ := h
    exact RpK.merge (kvs := putD kvs k d) (vs := putK vs k v) h2 (RpK.put h1 g)
inductive SPs (w : World) (W : WX) (P : List V) : List (TE × TE) → List (Wd × Wd) → Prop
  | nil : SPs w W P [] []
  | cons {tk tv : TE} {wk wv : Wd} {ts : List (TE × TE)} {ws : List (Wd × Wd)} (hk : SE w W P tk wk) (hv : SE w W P tv wv) (hr : SPs w W P ts ws) : SPs w W P ((tk, tv) :: ts) ((wk, wv) :: ws)
def flat2 : List ((R × V) × (R × V)) → List (R × V)
  | [] => []
  | (a, b) :: r => a :: b :: flat2 r
theorem SPs.run {ts : List (TE × TE)} {ws : List (Wd × Wd)} (h : SPs w W P ts ws) : ∀ (F : Hp) (L : Lbs) (H : Hp) (τ : List (R × V)) (ρ : Env) (σ : L2.St) (Q : List (V × V) → Hp → Prop) (Q' : List (R × R) → Env → Prop) (E' : QE), St w P F L H τ ρ σ →
    (∀ (ps : List ((R × V) × (R × V))) ρ' F' L' H', ps.length = ts.length → Q' (ps.map fun p => (p.1.1, p.2.1)) ρ' → Step F L H F' L' H' → St w P F' L' H' ((flat2 ps).reverse ++ τ) ρ' σ → Q (ps.map fun p => (p.1.2, p.2.2)) H') → XI w W P F L H E' → wPairs ws ρ Q' E' → tPairs ts σ H Q := by
  induction h with
  | nil =>
    intro F L H τ ρ σ Q Q' E' S hQ hE h
    exact hQ [] ρ F L H rfl h .refl S
  | cons hk hv hr ih =>
    intro F L H τ ρ σ Q Q' E' S hQ hE h
    refine hk F L H τ ρ σ _ _ _ S (fun x ρ1 v F1 L1 H1 h1 s1 S1 => ?_) hE h
    refine hv F1 L1 H1 _ ρ1 σ _ _ _ S1 (fun y ρ2 u F2 L2 H2 h2 s2 S2 => ?_) (hE.step s1) h1
    refine ih F2 L2 H2 _ ρ2 σ _ _ _ S2 (fun ps ρ3 F3 L3 H3 en h3 s3 S3 => ?_) (hE.step (s1.trans s2)) h2
    refine hQ (((x, v), (y, u)) :: ps) ρ3 F3 L3 H3 (by rw [List.length_cons, List.length_cons, en]) h3 ((s1.trans s2).trans s3) ?_
    show St w P F3 L3 H3 (((x, v) :: (y, u) :: flat2 ps).reverse ++ τ) ρ3 σ
    rw [List.reverse_cons, List.reverse_cons, List.append_assoc, List.append_assoc]
    exact S3
theorem St.wKvs {σ : L2.St} {H : Hp} : ∀ {ps : List ((R × V) × (R × V))} {τ : List (R × V)} {F : Hp} {L : Lbs} {ρ : Env} {k : List (Key × D) → Env → Prop}, St w P F L H ((flat2 ps).reverse ++ τ) ρ σ → Fl.wKvs ρ (ps.map fun p => (p.1.1, p.2.1)) k →
    ∃ kvs ρ' F' L' vs, k kvs ρ' ∧ Step F L H F' L' H ∧ St w P F' L' H τ ρ' σ ∧ RpK w F' kvs vs ∧ (ps.map fun p => (p.1.2, p.2.2)) = vs.map (fun kv => (kV kv.1, kv.2))
  | [], τ, F, L, ρ, k, S, h => ⟨[], ρ, F, L, [], h, .refl, S, RpK.nil, rfl⟩
  | (p, q) :: ps, τ, F, L, ρ, k, S, h => by
    have S : St w P F L H ((p :: q :: flat2 ps).reverse ++ τ) ρ σ := S
    rw [List.reverse_cons, List.reverse_cons, List.append_assoc, List.append_assoc] at S
    obtain ⟨kvs, ρ1, F1, L1, vs, h1, s1, S1, r1, e1⟩ := St.wKvs (ps := ps) (τ := q :: p :: τ) S h
    obtain ⟨d, ρ2, F2, L2, h2, s2, S2⟩ := S1.wF h1
    obtain ⟨e, ee, h2⟩ := wD_ex h2
    have pk := S2.pk (p := p) (by simp) ee
    split at h2
    · rename_i c ec
      have ep := key?_of ec pk
      refine ⟨(c, d) :: kvs, ρ2, F2, L2, (c, q.2) :: vs, h2, s1.trans s2, S2.pop.pop, ?_, ?_⟩
      · unfold RpK
        exact ⟨q.2, vs, rfl, S2.tm.1, RpK.mono s2.mono r1⟩
      · rw [List.map_cons, List.map_cons, e1, ep]
    · exact h2.elim
@[reducible] def wDisp (ws : List (Wd × Wd)) : Wd := fun ρ Q E => wPairs ws ρ (fun ps ρ1 => wKvs ρ1 ps fun kvs ρ2 => Q (.new (.dic (mergeD [] kvs))) ρ2) E
theorem se_disp {ts : List (TE × TE)} {ws : List (Wd × Wd)} (h : SPs w W P ts ws) (h15 : ts.length ≤ 15 := by decide) : SE w W P (tDisp ts) (wDisp ws) := by
  intro F L H τ ρ σ Q Q' E' S hQ hE hw p hp
  have S0 := S.allocT (o := .dK []) (d := .dic []) hp ⟨p, [], rfl, rfl, upd_same, RpK.nil⟩
  have s0 := Step.allocT (o := .dK []) (l := .tm τ.length) S hp
  refine h.run _ _ _ _ ρ σ _ _ _ S0 (fun ps ρ1 F1 L1 H1 en h1 s1 S1 => ?_) (hE.step s0) hw
  obtain ⟨kvs, ρ2, F2, L2, vs, h2, s2, S2, r2, e2⟩ := S1.wKvs h1
  obtain ⟨a, us, ea, g1, g2, g3⟩ := S2.tm.1
  cases ea
  have g3 : RpK w F2 [] us := g3
  unfold RpK at g3
  subst g3
  have g1 : L2 p = some (.tm τ.length) := g1
  refine ⟨g2, vs, e2, ?_, ?_⟩
  · have := congrArg List.length e2
    rw [List.length_map, List.length_map] at this
    omega
  · exact hQ _ _ _ _ _ _ h2 ((s0.trans (s1.trans s2)).trans (Step.write g1)) (S2.writeT g1 ⟨p, _, rfl, g1, upd_same, RpK.merge r2 RpK.nil⟩)
end
end Fl

set_option Elab.async false
set_option linter.all false
set_option maxRecDepth 100000
set_option maxHeartbeats 400000
/-! FlS: loops and comprehensions by an invariant; the end of a law -/
namespace Fl
open PySem PySem.Spec PyProof.Rows L2
section
variable {w : World} {W : WX} {P : List V}
/-- for: an invariant over what is done and what is left -/
@[reducible] def wForI (wi : WI) (g : Wg) (b : Ws) : Ws := fun Z ρ => wi ρ (fun ds ρ1 => ∃ I : List D → List D → Env → Prop, I [] ds ρ1 ∧
  (∀ done d rest ρ2, I done (d :: rest) ρ2 → g (.val d) ρ2 (fun ρ3 => b (Z.lp fun ρ4 => nfE ρ4 (I (done ++ [d]) rest)) ρ3) Z.ex) ∧ ∀ done ρ2, I done [] ρ2 → Z.nx ρ2) Z.ex
theorem ss_forI {t : TI} {g : TG} {tb : TS} {wi : WI} {wg : Wg} {b : Ws} {ts : List Nat} (hi : SI w W P t wi) (hg : SG w W P ts g wg) (hb : SS w W P tb b) : SS w W P (tFor t g tb) (wForI wi wg b) := fun F L H ρ σ D D' S I h => by
  refine hi F L H [] ρ σ _ _ _ S (fun J ds ρ1 F1 L1 H1 h1 s1 S1 hJ => ?_) I.ex h
  obtain ⟨Iv, h0, turn, fin⟩ := h1
  refine ⟨fun i m σ' H' => m = ds.length - i ∧ i ≤ ds.length ∧ ∃ F' L' ρ', Step F L H F' L' H' ∧ (∀ a o, F1 a = some o → F' a = some o) ∧ St w P F' L' H' [] ρ' σ' ∧ Iv (ds.take i) (ds.drop i) ρ',
    ⟨ds.length, by simp, Nat.zero_le _, F1, L1, ρ1, s1, fun _ _ e => e, S1, by simpa using h0⟩, ?_⟩
  rintro i m σ2 H2 ⟨rfl, hi2, F2, L2, ρ2, s2, m2, S2, h2⟩
  obtain ⟨go, stop⟩ := hJ P F2 L2 H2 [] ρ2 σ2 i m2 S2
  by_cases hlt : i < ds.length
  · obtain ⟨g1, g2⟩ := go hlt
    have ed : ds.drop i = ds[i] :: ds.drop (i + 1) := List.drop_eq_getElem_cons hlt
    refine .inr ⟨g1, fun σ' H' => ∃ F' L' ρ', Step F L H F' L' H' ∧ (∀ a o, F1 a = some o → F' a = some o) ∧ St w P F' L' H' [] ρ' σ' ∧ Iv (ds.take (i + 1)) (ds.drop (i + 1)) ρ', fun σ' H' q => ⟨ds.length - (i + 1), by omega, rfl, hlt, q⟩, fun x H' y => ?_⟩
    obtain ⟨d, F3, L3, e3, s3, S3⟩ := g2 x H' y
    rw [ed] at h2
    have ed2 : ds[i] = d := by
      rw [List.getElem?_eq_getElem hlt] at e3
      exact Option.some.inj e3
    rw [ed2] at h2
    have et : ds.take (i + 1) = ds.take i ++ [d] := by rw [List.take_succ, e3]; rfl
    rw [et]
    have s23 := s2.trans s3
    refine hg F3 L3 H' [] ρ2 σ2 _ x _ _ _ True.intro S3 (fun ρ4 σ4 F4 L4 H4 h4 s4 S4 _ _ => ?_) (I.ex.step s23) (turn _ _ _ _ h2)
    have s34 := s23.trans s4
    refine hb F4 L4 H4 ρ4 σ4 _ { D' with nx := fun ρ4 => nfE ρ4 (Iv (ds.take i ++ [d]) (ds.drop (i + 1))), ct := fun ρ4 => nfE ρ4 (Iv (ds.take i ++ [d]) (ds.drop (i + 1))), bk := D'.nx } S4 ⟨fun ρ5 σ5 F5 L5 H5 q s S5 => ⟨F5, L5, ρ5, s34.trans s, fun a o e => s.mono a o (s4.mono a o (s3.mono a o (m2 a o e))), S5, of_nfE q⟩, (I.step s34).rt, (I.step s34).nx,
      fun ρ5 σ5 F5 L5 H5 q s S5 => ⟨F5, L5, ρ5, s34.trans s, fun a o e => s.mono a o (s4.mono a o (s3.mono a o (m2 a o e))), S5, of_nfE q⟩, (I.step s34).ex⟩ h4
  · have e : ds.drop i = [] := List.drop_eq_nil_of_le (by omega)
    rw [e] at h2
    exact .inl ⟨stop (by omega), I.nx _ _ _ _ _ (fin _ _ h2) s2 S2⟩
/-- a comprehension: an invariant over what is left and what is made -/
@[reducible] def wLcI (own : List Nat) (wi : WI) (g : Wg) (tt : Wt) (te : Wd) : Wd := fun ρ Q E => wi ρ (fun ds ρ1 => (okOwn ρ1 own ∧ ds.length ≤ 1000000) ∧ ∃ I : List D → List D → Env → Prop, I ds [] (wipeA ρ1 own) ∧
  (∀ d rest acc ρ2, I (d :: rest) acc ρ2 → g (.val d) ρ2 (fun ρ3 => tt ρ3 (fun c ρ4 => if c = true then te ρ4 (fun r ρ5 => wF ρ5 r fun y ρ6 => nfE (wipeA ρ6 own) (I rest (acc ++ [y]))) (fun _ _ => False) else nfE (wipeA ρ4 own) (I rest acc)) (fun _ _ => False)) (fun _ _ => False)) ∧
  ∀ acc ρ2, I [] acc ρ2 → nfE (restA 0 ρ1 ρ2 own) fun ρ3 => Q (.new (.lst acc)) ρ3) E
theorem se_lcI {own ts : List Nat} {wi : TI} {g : TG} {tt : TT} {te : TE} {wI : WI} {wg : Wg} {wtt : Wt} {we : Wd} (hi : SI w W P wi wI) (hg : SG w noX P ts g wg) (hts : ∀ i ∈ ts, i ∈ own) (ht : STt w noX P tt wtt) (he : SE w noX P te we) :
    SE w W P (tLc wi g tt te own) (wLcI own wI wg wtt we) := by
  intro F L H τ ρ σ Q Q' E' S hQ hE h
  refine hi F L H τ ρ σ _ _ _ S (fun J ds ρ1 F1 L1 H1 h1 s1 S1 hJ => ?_) hE h
  intro D hD
  obtain ⟨⟨ok, hz⟩, Iv, h0, turn, fin⟩ := h1
  have xi : ∀ {F : Hp} {L : Lbs} {H : Hp}, XI w noX P F L H (fun _ _ => False) := fun _ _ _ _ _ _ _ _ q _ _ _ => q.elim
  -- the block's start
  have Sd : St w P F1 L1 H1 (dim τ) ρ1 σ := ⟨S1.sub, S1.apart, S1.has, S1.len, S1.sl, S1.tm.dim⟩
  have S2 : St w P F1 L1 H1 (dim τ) (wipeA ρ1 own) (wipe σ own) := Sd.forget (dim_no τ) (wipe_length σ own) fun i hi => wipe_out hi
  have S3 := S2.allocT (o := .lst []) (d := .lst []) hD ⟨D, [], rfl, rfl, upd_same, Rps.nil⟩
  refine ⟨fun i m H' => m = ds.length - i ∧ i ≤ ds.length ∧ ∃ F' L' ρ' acc, Step F L H F' L' H' ∧ (∀ a o, F1 a = some o → F' a = some o) ∧ acc.length ≤ i ∧ St w P F' L' H' ((.new (.lst acc), .ref D) :: dim τ) ρ' (wipe σ own) ∧
      Iv (ds.drop i) acc ρ',
    ⟨ds.length, by simp, Nat.zero_le _, F1, _, _, [], s1.trans (Step.allocT S2 hD), fun _ _ e => e, Nat.le_refl _, S3, by simpa using h0⟩, ?_⟩
  rintro i m H2 ⟨rfl, hi2, F2, L2, ρ2, acc, s2, m2, al, S4, h2⟩
  obtain ⟨go, stop⟩ := hJ P F2 L2 H2 _ ρ2 (wipe σ own) i m2 S4
  by_cases hlt : i < ds.length
  · obtain ⟨g1, g2⟩ := go hlt
    have ed : ds.drop i = ds[i] :: ds.drop (i + 1) := List.drop_eq_getElem_cons hlt
    refine .inr ⟨g1, fun H' => ∃ F' L' ρ' acc, Step F L H F' L' H' ∧ (∀ a o, F1 a = some o → F' a = some o) ∧ acc.length ≤ i + 1 ∧ St w P F' L' H' ((.new (.lst acc), .ref D) :: dim τ) ρ' (wipe σ own) ∧
      Iv (ds.drop (i + 1)) acc ρ', fun H' q => ⟨ds.length - (i + 1), by omega, rfl, hlt, q⟩, fun x H' y => ?_⟩
    obtain ⟨d, F3, L3, e3, s3, S5⟩ := g2 x H' y
    rw [ed] at h2
    have ed2 : ds[i] = d := by
      rw [List.getElem?_eq_getElem hlt] at e3
      exact Option.some.inj e3
    rw [ed2] at h2
    have nl : NoLoc ((R.new (.lst acc), V.ref D) :: dim τ) := ⟨fun _ z => (by cases z), dim_no τ⟩
    have s23 := s2.trans s3
    refine hg F3 L3 H' _ ρ2 (wipe σ own) _ x _ _ _ nl S5 (fun ρ4 σ4 F4 L4 H4 h4 s4 S6 l4 f4 => ?_) xi (turn _ _ _ _ h2)
    have fw : ∀ i, i ∉ own → σ4[i]? = (wipe σ own)[i]? := fun i hi => f4 i fun q => hi (hts i q)
    have ew : wipe σ4 own = wipe σ own := by
      have e1 := wipe_eq (vs := own) l4 fw
      rw [e1]
      exact wipe_eq (wipe_length σ own) fun i hi => wipe_out hi
    refine ⟨ew, ht F4 L4 H4 _ ρ4 σ4 _ _ _ S6 (fun b ρ5 F5 L5 H5 h5 s5 S7 => ?_) xi h4⟩
    have s45 := s23.trans (s4.trans s5)
    have m5 : ∀ a o, F1 a = some o → F5 a = some o := fun a o e => s5.mono a o (s4.mono a o (s3.mono a o (m2 a o e)))
    cases b with
    | false => exact ⟨F5, L5, _, acc, s45, m5, Nat.le_succ_of_le al, S7.forget nl (by rw [l4]) fun i hi => (fw i hi).symm, of_nfE h5⟩
    | true =>
      refine he F5 L5 H5 _ ρ5 σ4 _ _ _ S7 (fun r ρ6 v F6 L6 H6 h6 s6 S8 => ?_) xi h5
      obtain ⟨yd, ρ7, F7, L7, h7, s7, S9⟩ := S8.wF h6
      obtain ⟨a, vs, ea, g3, g4, g5⟩ := S9.tm.2.1
      cases ea
      have rv : Rp w F7 yd v := S9.tm.1
      have g3 : L7 D = some (.tm (dim τ).length) := g3
      refine ⟨vs, g4, line_lt (by rw [g5.len]; omega), F7, L7, _, acc ++ [yd], (s45.trans (s6.trans s7)).trans (Step.write g3), fun a o e => s7.mono a o (s6.mono a o (m5 a o e)), by rw [List.length_append]; exact Nat.succ_le_succ al, ?_, of_nfE h7⟩
      refine St.forget ?_ ⟨fun _ z => (by cases z), dim_no τ⟩ (by rw [l4]) fun i hi => (fw i hi).symm
      exact S9.pop.writeT g3 ⟨D, _, rfl, g3, upd_same, g5.app (Rps.one rv)⟩
  · have e : ds.drop i = [] := List.drop_eq_nil_of_le (by omega)
    rw [e] at h2
    refine .inl ⟨stop (by omega), hQ _ _ _ F2 L2 H2 (of_nfE (fin _ _ h2)) s2 ?_⟩
    refine ⟨S4.sub, S4.apart, S4.has, ?_, fun j a e => ?_, ?_, S1.tm.undim S4.tm.2⟩
    · rw [restA_len, S4.len, wipe_length]
    · rcases restA_at (by rw [S1.len, S4.len, wipe_length]) e with ⟨h3, rfl⟩ | ⟨h3, h4⟩
      all_goals rw [Nat.zero_add] at h3
      · have q := okOwn_mem ok h3
        have z := S1.slot (i := j)
        cases ea : getA ρ1 j with
        | un => exact True.intro
        | fz d =>
          rw [ea] at z
          obtain ⟨v, e1, e2⟩ := z (fun y => by cases y)
          exact ⟨v, e1, e2.mono m2⟩
        | ow d => rw [ea] at q; cases q
        | pr k d => rw [ea] at q; cases q
      · have z := S4.sl j a h4
        rw [wipe_out h3] at z
        exact z
    · have z : Ro w F2 H2 (fun b => L2 b = some (.tm (dim τ).length)) (.lst acc) (.ref D) := S4.tm.1
      rw [dim_len] at z
      exact z
end
end Fl

set_option Elab.async false
set_option linter.all false
set_option maxRecDepth 100000
set_option maxHeartbeats 400000
/-! FlT: fields that are stored; the end of a law -/
namespace Fl
open PySem PySem.Spec PyProof.Rows L2
def putFD (f : Str) (d : D) : List (Str × D) → List (Str × D)
  | [] => [(f, d)]
  | (g, x) :: r => if g = f then (g, d) :: r else (g, x) :: putFD f d r
theorem putFD_len {f : Str} {d : D} : ∀ {fs : List (Str × D)}, fs.length ≤ (putFD f d fs).length
  | [] => Nat.zero_le _
  | (g, x) :: r => by
    have ih := putFD_len (f := f) (d := d) (fs := r)
    show r.length + 1 ≤ (if g = f then (g, d) :: r else (g, x) :: putFD f d r).length
    by_cases e : g = f
    · rw [if_pos e]; exact Nat.le_refl _
    · rw [if_neg e]; exact Nat.succ_le_succ ih
section
variable {w : World} {W : WX} {P : List V}
theorem RpF.put {F : Hp} {f : Str} {d : D} {v : V} (h : Rp w F d v) : ∀ {fs : List (Str × D)} {vs : List (Str × V)}, RpF w F fs vs → RpF w F (putFD f d fs) (putF f v vs)
  | [], vs, g => by
    unfold RpF at g; subst g
    show RpF w F [(f, d)] [(f, v)]
    unfold RpF
    exact ⟨v, [], rfl, h, by unfold RpF; rfl⟩
  | (g, x) :: fs, vs, q => by
    unfold RpF at q
    obtain ⟨u, r, rfl, h1, h2⟩ := q
    show RpF w F (if g = f then (g, d) :: fs else (g, x) :: putFD f d fs) (if g = f then (g, v) :: r else (g, u) :: putF f v r)
    by_cases e : g = f
    · rw [if_pos e, if_pos e]
      unfold RpF
      exact ⟨v, r, rfl, h, h2⟩
    · rw [if_neg e, if_neg e]
      unfold RpF
      exact ⟨u, _, rfl, h1, RpF.put h h2⟩
theorem RpF.len {F : Hp} : ∀ {fs : List (Str × D)} {vs : List (Str × V)}, RpF w F fs vs → vs.length = fs.length
  | [], vs, g => by unfold RpF at g; subst g; rfl
  | (g, x) :: fs, vs, q => by
    unfold RpF at q
    obtain ⟨u, r, rfl, h1, h2⟩ := q
    exact congrArg (· + 1) h2.len
@[reducible] def wSetF (C : Addr) (f : Str) (wo wv : Wd) : Ws := fun Z ρ => wv ρ (fun r ρ1 => wF ρ1 r fun d ρ2 => wo ρ2 (fun ro ρ3 => wMu ρ3 ro fun d0 put => insD C d0 fun fs => ∃ gs, putFD f d fs = gs ∧ gs.length < 900 ∧ Z.nx (put (.ins C gs))) Z.ex) Z.ex
theorem ss_setF {K : PySem.W.Frag} {C : Addr} {f : Str} {to tv : TE} {wo wv : Wd} (c : Cls K C) (n : NoAttr K C f) (ho : SE w W P to wo) (hv : SE w W P tv wv) : SS w W P (sFld K to tv f) (wSetF C f wo wv) := fun F L H ρ σ Z Z' S I h => by
  refine hv F L H [] ρ σ _ _ _ S (fun r ρ1 v F1 L1 H1 h1 s1 S1 => ?_) I.ex h
  obtain ⟨d, ρ2, F2, L2, h2, s2, S2⟩ := S1.wF h1
  have s12 := s1.trans s2
  refine ho F2 L2 H1 _ ρ2 σ _ _ _ S2 (fun ro ρ3 vo F3 L3 H3 h3 s3 S3 => ?_) (I.ex.step s12) h2
  obtain ⟨i, d0, put, e, t, h3, rod, back⟩ := S3.mu h3
  have rv : Rp w F3 d v := S3.tm.2.1
  unfold insD at h3
  split at h3
  · rename_i C2 fs2
    obtain ⟨ec, gs, eg, hl, h3⟩ := h3
    subst ec
    obtain ⟨a, dx, us, rfl, o1, o2, g1, g2, g3⟩ := rod
    refine ⟨a, _, dx, us, rfl, g1, c, n, by rw [g3.len]; have z := putFD_len (f := f) (d := d) (fs := fs2); rw [eg] at z; omega, ?_⟩
    have nda : dx ≠ a := fun z => by rw [z, g1] at g2; cases g2
    have ro2 : Ro w F3 (upd H3 a (.ins C2 dx (putF f v us))) (fun b => L3 b = some (.sl i)) (.ins C2 gs) (.ref a) := by
      rw [← eg]
      exact ⟨a, dx, _, rfl, o1, o2, upd_same, by rw [upd_ne nda]; exact g2, RpF.put rv g3⟩
    exact I.nx _ _ _ _ _ h3 ((s12.trans s3).trans (Step.write o1)) (back _ a _ o1 ro2).pop
  · exact h3.elim
end
/-! ### the end of a law -/
/-- what a law's def promises -/
def spLaw (K : PySem.W.Frag) : Sp := My.Sp1 fun x H Q _ => ∃ (a : Addr) (ns : List Int), x = .ref a ∧ SqL K H a (ns.map V.int) ∧ ns.length ≤ 63 ∧ ∀ H', Q (.bl true) H'
/-- what reads the script: a new list, the numbers ms in a list of their own, and the numbers z behind it -/
def spHand (K : PySem.W.Frag) (TL : List Int → List Int → List Int → Prop) : Sp := My.Sp1 fun x H Q _ => ∃ (a : Addr) (ns : List Int), x = .ref a ∧ SqL K H a (ns.map V.int) ∧ ns.length ≤ 63 ∧
  ∀ (H' : Hp) (d l : Addr) (ms z : List Int), TL ns ms z → (∀ b o, H b = some o → H' b = some o) → H d = none → H l = none → d ≠ l → H' l = some (.lst (ms.map V.int)) → H' d = some (.lst (.ref l :: z.map V.int)) → Q (.ref d) H'
theorem rps_ints {w : World} {F : Hp} : ∀ {ns : List Int}, Rps w F (ns.map D.int) (ns.map V.int)
  | [] => Rps.nil
  | n :: ns => Rps.cons rpInt rps_ints
/-- the hand as data -/
@[reducible] def handD (ms z : List Int) : D := .lst (.lst (ms.map D.int) :: z.map D.int)
/-- a law's body: the hand first, then what is read over data -/
theorem law_run {w : World} {K : PySem.W.Frag} {TL : List Int → List Int → List Int → Prop} {W : WX} {u : TS} {ws : Ws} {a : Addr} {ns : List Int} {H : Hp} {Q : VK} {E : L2.St → XK} {N : List Str} (hN : 2 ≤ N.length) (hs : SqL K H a (ns.map V.int)) (hl : ns.length ≤ 63) (hQ : ∀ H', Q (.bl true) H')
    (ss : SS w W [.ref a] u ws) (hw : ∀ ms z, TL ns ms z → ws { nx := fun _ => False, rt := fun r ρ => cRV ρ r = some (.val (.bl true)), bk := fun _ => False, ct := fun _ => False, ex := fun _ _ => False } (.un :: .ow (handD ms z) :: uns (N.length - 2))) :
    tSeq (tAsg (tCallD (spHand K TL) [] E (tCons (tVar 0) tNil)) (gName 1)) u { nx := fun _ H' => Q .non H', rt := Q } (L2.start N [.ref a]) H := by
  have e0 : L2.start N [V.ref a] = some (.ref a) :: none :: List.replicate (N.length - 2) none := by
    unfold L2.start
    have : N.length - [V.ref a].length = (N.length - 2) + 1 := by simp; omega
    rw [this, List.replicate_succ]
    rfl
  refine ⟨.ref a, by rw [e0]; rfl, .ref a, rfl, a, ns, rfl, hs, hl, fun H' d l ms z tl same hd hll ndl el ed => ?_⟩
  rw [e0]
  show u _ (some (.ref a) :: some (.ref d) :: List.replicate (N.length - 2) none) H'
  have S : St w [.ref a] (fun b => if b = l then some (.lst (ms.map V.int)) else none) (fun b => if b = d then some (.sl 1) else none) H' [] (.un :: .ow (handD ms z) :: uns (N.length - 2)) (some (.ref a) :: some (.ref d) :: List.replicate (N.length - 2) none) := by
    refine ⟨fun b o e => ?_, fun b m e => ?_, fun b m e => ?_, ?_, fun i x e => ?_, True.intro⟩
    · by_cases q : b = l
      · rw [if_pos q] at e; rw [q, ← Option.some.inj e]; exact .inl el
      · rw [if_neg q] at e; cases e
    · by_cases q : b = d
      · exact if_neg fun y => ndl (q.symm.trans y)
      · rw [if_neg q] at e; cases e
    · by_cases q : b = d
      · rw [q]; exact ⟨_, ed⟩
      · rw [if_neg q] at e; cases e
    · rw [List.length_cons, List.length_cons, List.length_cons, List.length_cons, uns_eq, List.length_replicate, List.length_replicate]
    · match i, e with
      | 0, e => cases e; exact True.intro
      | 1, e =>
        cases e
        refine ⟨.ref d, rfl, d, _, rfl, if_pos rfl, ed, ?_⟩
        refine Rps.cons ?_ rps_ints
        unfold Rp
        exact ⟨l, _, rfl, if_pos rfl, rps_ints⟩
      | i + 2, e =>
        rw [List.getElem?_cons_succ, List.getElem?_cons_succ, uns_eq] at e
        have : x = .un := (List.mem_replicate.mp (List.mem_of_getElem? e)).2
        rw [this]; exact True.intro
  refine ss _ _ H' _ _ _ _ S ⟨fun _ _ _ _ _ q _ _ => False.elim q, fun r ρ' v σ' F' L' H2 q s' S' => ?_, fun _ _ _ _ _ q _ _ => False.elim q, fun _ _ _ _ _ q _ _ => False.elim q, fun _ _ _ _ _ _ _ _ q _ _ _ => False.elim q⟩ (hw ms z tl)
  have er : cRV ρ' r = some (.val (.bl true)) := q
  have pk : Pk w F' H2 (.bl true) v := by
    refine S'.pk (p := (r, v)) (by simp) ?_
    cases r with
    | val d => cases er; rfl
    | new d => cases er
    | any => cases er
    | loc i =>
      unfold cRV at er
      unfold cD
      cases eg : getA ρ' i with
      | un => simp only [eg] at er; cases er
      | fz d => simp only [eg] at er; cases er; simp only [eg]
      | ow d => simp only [eg] at er; cases er
      | pr j d => simp only [eg] at er; cases er
  rw [pk.bl]
  exact hQ H2
section
variable {P : Program} {w : World} {K : PySem.W.Frag} {mg : Str → Option Value} {base : Heap}
/-- the law's def by its body -/
theorem okLaw {TL : List Int → List Int → List Int → Prop} {st : Stmt} {f : Addr} {fd : FuncData} {N : List Str} {k : Nat} (FF : Fun K "law" "law" st f fd) (S : FnScope N ["_law_script"] (defScope st)) (hN : 2 ≤ N.length)
    (bd : ∀ (cdv : Value) (A : Around) (out : List PySem.Env) (s : Shared) (H : Hp) (a : Addr) (Q : VK) (E : XK), A.guards = some [] → Room k (A.deeper (envOfC "law" (defScope st) s.heap.objs.size f cdv)) →
      ∃ (u : TS) (E' : L2.St → XK) (ws : Ws), PSs (cxOf (L2.CX P w) P w K mg base N "law" (defScope st) f cdv A out s H E) (defBody st) (tSeq (tAsg (tCallD (spHand K TL) [] E' (tCons (tVar 0) tNil)) (gName 1)) u) ∧ SS w (fun cls d _ H => E cls d H) [.ref a] u ws ∧
        ∀ ns ms z, ns.length ≤ 63 → TL ns ms z → ws { nx := fun _ => False, rt := fun r ρ => cRV ρ r = some (.val (.bl true)), bk := fun _ => False, ct := fun _ => False, ex := fun _ _ => False } (.un :: .ow (handD ms z) :: uns (N.length - 2))) :
    My.OkG P w K mg base (L2.CX P w) (k + 1) f fd ["_law_script"] (spLaw K) := by
  obtain ⟨oc, od, kV, dc, pm, an, cdv, ct, sl, rfl, lk, hcd⟩ := FF.ex
  refine My.fn_ofG lk hcd S (fun vs H Q E h => by obtain ⟨x, rfl, _⟩ := h; rfl) fun A out s H vs Q E hg hr hs => ?_
  obtain ⟨x, rfl, a, ns, rfl, hs, hl, hQ⟩ := hs
  obtain ⟨u, E', ws, h1, h2, h3⟩ := bd cdv A out s H a Q E hg hr
  exact ⟨_, h1, law_run hN hs hl hQ h2 fun ms z tl => h3 ns ms z hl tl⟩
end
end Fl

set_option Elab.async false
set_option linter.all false
set_option maxRecDepth 100000
set_option maxHeartbeats 400000
/-! FlU: small words for what the generator prints; rules to read with -/
namespace Fl
open PySem PySem.Spec PyProof.Rows L2
@[reducible] def wAny : Wt := fun ρ Q _ => Q true ρ
section
variable {w : World} {W : WX} {P : List V}
theorem st_any : STt w W P tYes wAny := by
  intro F L H τ ρ σ Q Q' E' S hQ hE h
  exact hQ _ _ _ _ _ h .refl S
end
theorem hu0 {A : Around} {k : Nat} (hr : Room k A) : A.units < cLine := by have := hr.un; omega
theorem hu1 {A : Around} {k : Nat} (hr : Room k A) : A.units + 1 < cLine := by have := hr.un; omega
theorem hu64 {A : Around} {k : Nat} (hr : Room k A) : A.units + 64 < cLine := by have := hr.un; omega
theorem hu65 {A : Around} {k : Nat} (hr : Room k A) : A.units + 65 < cLine := by have := hr.un; omega
theorem gl_nil : ∀ vs σ H Q, gNil vs σ H Q → vs.length = 0 := fun vs σ H Q h => by
  have h : vs = [] ∧ _ := h
  rw [h.1]; rfl
theorem gl_name {i n : Nat} {u : TGs} (hn : ∀ vs σ H Q, u vs σ H Q → vs.length = n) : ∀ vs σ H Q, gCons (gName i) u vs σ H Q → vs.length = n + 1 := fun vs σ H Q h => by
  obtain ⟨v, r, rfl, q⟩ := h
  exact congrArg (· + 1) (hn _ _ _ _ q)
theorem gl_tup {K : PySem.W.Frag} {m n : Nat} {u' u : TGs} (hu : ∀ vs σ H Q, u' vs σ H Q → ∃ σ' H', Q σ' H') (hn : ∀ vs σ H Q, u vs σ H Q → vs.length = n) : ∀ vs σ H Q, gCons (gTup K m u') u vs σ H Q → vs.length = n + 1 := fun vs σ H Q h => by
  obtain ⟨v, r, rfl, a, xs, _, _, _, q⟩ := h
  obtain ⟨σ', H', q⟩ := hu _ _ _ _ q
  exact congrArg (· + 1) (hn _ _ _ _ q)
theorem gx_nil : ∀ vs σ H Q, gNil vs σ H Q → ∃ σ' H', Q σ' H' := fun vs σ H Q h => ⟨σ, H, h.2⟩
theorem gx_name {i : Nat} {u : TGs} (hn : ∀ vs σ H Q, u vs σ H Q → ∃ σ' H', Q σ' H') : ∀ vs σ H Q, gCons (gName i) u vs σ H Q → ∃ σ' H', Q σ' H' := fun vs σ H Q h => by
  obtain ⟨v, r, rfl, q⟩ := h
  exact hn _ _ _ _ q
section
variable {w : World} {W : WX} {P : List V}
/-- an object that nobody asks for any more -/
theorem St.junk {F : Hp} {L : Lbs} {H : Hp} {τ : List (R × V)} {ρ : Env} {σ : L2.St} {p : Addr} {o : HO} (S : St w P F L H τ ρ σ) (hp : H p = none) : St w P F L (upd H p o) τ ρ σ ∧ Step F L H F L (upd H p o) := by
  obtain ⟨fp, lp⟩ := S.free hp
  refine ⟨S.keep (fun _ _ e => e) (fun b l e => ⟨e, upd_ne fun z => by rw [z, lp] at e; cases e⟩) (fun a u e => (S.sub a u e).upd hp) S.apart fun a l e => ?_, ⟨fun _ _ e => e, fun b u _ e => by rw [upd_ne (ne_of_none e hp)]; exact e, fun b e => ?_, fun b e => .inl e, fun b e => .inl e⟩⟩
  · obtain ⟨u, hu⟩ := S.has a l e
    exact ⟨u, by rw [upd_ne (ne_of_none hu hp)]; exact hu⟩
  · by_cases z : b = p
    · rw [z]; exact hp
    · rwa [upd_ne z] at e
/-- a, b = x, y where one is a cell: a tuple is laid and read -/
theorem ss_asgT2 {K : PySem.W.Frag} {i j : Nat} {ta : TA} {wa : Wa} (hij : i ≠ j) (ha : SAn w W P 2 ta wa) : SS w W P (tAsg (tTup ta) (gTup K 2 (gCons (gName i) (gCons (gName j) gNil)))) (wPar i j wa) := fun F L H ρ σ Z Z' S I h =>
  ha F L H [] ρ σ _ _ _ S (fun ps ρ1 F1 L1 H1 en h1 s1 S1 => by
    match ps, en with
    | [p, q], _ =>
      obtain ⟨⟨n1, n2⟩, h1⟩ := h1
      refine ⟨line_of (by simp), fun a hp => ⟨a, [p.2, q.2], rfl, .inl (.inl upd_same), rfl, _, _, rfl, _, _, rfl, rfl, ?_⟩⟩
      have S1 : St w P F1 L1 H1 ((q.1, q.2) :: (p.1, p.2) :: []) ρ1 σ := S1
      obtain ⟨S2, s2⟩ := S1.junk (o := .tup [p.2, q.2]) hp
      have s12 := s1.trans s2
      rw [List.set_comm _ _ hij]
      refine sg_name j F1 L1 _ [(p.1, p.2)] ρ1 σ q.1 q.2 (fun σ' H' => Z.nx (σ'.set i (some p.2)) H') _ _ ⟨noLoc_of n1, True.intro⟩ S2 (fun ρ2 σ2 F2 L2 H2 h2 s3 S3 _ _ => ?_) (I.ex.step s12) h1
      exact sg_name i F2 L2 H2 [] ρ2 σ2 p.1 p.2 Z.nx _ _ True.intro S3 (fun ρ3 σ3 F3 L3 H3 h3 s4 S4 _ _ => I.nx _ _ _ _ _ h3 ((s12.trans s3).trans s4) S4) (I.ex.step (s12.trans s3)) h2) I.ex h
theorem ss_asgT3 {K : PySem.W.Frag} {i j l : Nat} {ta : TA} {wa : Wa} (hij : i ≠ j) (hil : i ≠ l) (hjl : j ≠ l) (ha : SAn w W P 3 ta wa) : SS w W P (tAsg (tTup ta) (gTup K 3 (gCons (gName i) (gCons (gName j) (gCons (gName l) gNil))))) (wPar3 i j l wa) := fun F L H ρ σ Z Z' S I h =>
  ha F L H [] ρ σ _ _ _ S (fun ps ρ1 F1 L1 H1 en h1 s1 S1 => by
    match ps, en with
    | [p, q, r], _ =>
      obtain ⟨⟨n1, n2, n3⟩, h1⟩ := h1
      refine ⟨line_of (by simp), fun a hp => ⟨a, [p.2, q.2, r.2], rfl, .inl (.inl upd_same), rfl, _, _, rfl, _, _, rfl, _, _, rfl, rfl, ?_⟩⟩
      have S1 : St w P F1 L1 H1 ((r.1, r.2) :: (q.1, q.2) :: (p.1, p.2) :: []) ρ1 σ := S1
      obtain ⟨S2, s2⟩ := S1.junk (o := .tup [p.2, q.2, r.2]) hp
      have s12 := s1.trans s2
      have e : ((σ.set i (some p.2)).set j (some q.2)).set l (some r.2) = ((σ.set l (some r.2)).set j (some q.2)).set i (some p.2) := by
        rw [List.set_comm _ _ hjl, List.set_comm _ _ hil, List.set_comm _ _ hij]
      rw [e]
      refine sg_name l F1 L1 _ [(q.1, q.2), (p.1, p.2)] ρ1 σ r.1 r.2 (fun σ' H' => Z.nx ((σ'.set j (some q.2)).set i (some p.2)) H') _ _ ⟨noLoc_of n2, noLoc_of n1, True.intro⟩ S2 (fun ρ2 σ2 F2 L2 H2 h2 s3 S3 _ _ => ?_) (I.ex.step s12) h1
      refine sg_name j F2 L2 H2 [(p.1, p.2)] ρ2 σ2 q.1 q.2 (fun σ' H' => Z.nx (σ'.set i (some p.2)) H') _ _ ⟨noLoc_of n1, True.intro⟩ S3 (fun ρ3 σ3 F3 L3 H3 h3 s4 S4 _ _ => ?_) (I.ex.step (s12.trans s3)) h2
      exact sg_name i F3 L3 H3 [] ρ3 σ3 p.1 p.2 Z.nx _ _ True.intro S4 (fun ρ4 σ4 F4 L4 H4 h4 s5 S5 _ _ => I.nx _ _ _ _ _ h4 (((s12.trans s3).trans s4).trans s5) S5) (I.ex.step ((s12.trans s3).trans s4)) h3) I.ex h
end
/-! reading rules -/
theorem iteB {b : Bool} {X Y : Prop} (h1 : b = true → X) (h2 : b = false → Y) : if b = true then X else Y := by
  cases b with
  | true => exact h1 rfl
  | false => exact h2 rfl
theorem iteN {b : Bool} {X Y : Prop} (h1 : b = false → X) (h2 : b = true → Y) : if (!b) = true then X else Y := by
  cases b with
  | true => exact h2 rfl
  | false => exact h1 rfl
theorem ifT {X Y : Prop} (h : X) : if true = true then X else Y := by rw [if_pos rfl]; exact h
theorem ifF {X Y : Prop} (h : Y) : if false = true then X else Y := by rw [if_neg Bool.false_ne_true]; exact h
/-- data of a built-in kind that isinstance tells -/
def plainD : D → Bool
  | .ty _ => false
  | .adr _ => false
  | .dit _ => false
  | .set _ => false
  | .ins _ _ => false
  | _ => true
section
variable {K : PySem.W.Frag} {x : D} {n : String} {k : R → Prop} {C C' : Addr} {fs : List (Str × D)}
theorem isi_plain (hx : plainD x = true) (hn : n ∈ isiN) (h : k (.val (.bl (isiB x n)))) : opIsi K [x, .ty n] k := by
  unfold opIsi
  refine ⟨hn, ?_⟩
  cases x <;> first | exact h | exact absurd (show false = true from hx) Bool.false_ne_true
theorem isi_ins (i : InsK K C) (hn : n ∈ isiN) (h : k (.val (.bl false))) : opIsi K [.ins C fs, .ty n] k := ⟨hn, i, h⟩
theorem isi_cls (hx : plainD x = true) (j : NotB K C) (h : k (.val (.bl false))) : opIsi K [x, .adr C] k := by
  unfold opIsi
  cases x <;> first | exact ⟨j, h⟩ | exact absurd (show false = true from hx) Bool.false_ne_true
theorem kit_same : PySem.W.kitOne K (.ref C) (.ref C) = some true := by
  unfold PySem.W.kitOne
  rw [if_pos (by simp)]
theorem isi_same (i : InsK K C) (h : k (.val (.bl true))) : opIsi K [.ins C fs, .adr C] k := ⟨i, true, kit_same, h⟩
theorem isi_other (i : InsK K C) (r : PySem.W.kitOne K (.ref C) (.ref C') = some false) (h : k (.val (.bl false))) : opIsi K [.ins C fs, .adr C'] k := ⟨i, false, r, h⟩
end
end Fl

set_option Elab.async false
set_option linter.all false
set_option maxRecDepth 100000
set_option maxHeartbeats 400000
/-! FlV: loops and comprehensions over typed lists; ways of a test -/
namespace Fl
open PySem PySem.Spec PyProof.Rows L2
section
variable {α : Type} {g : Wg} {b : Ws} {Z : EndF} {ρ1 : Env}
/-- for x in xs: what holds of the names when some of xs are done -/
theorem forT (xs : List α) (e : α → D) (I : List α → Env → Prop) (h0 : I [] ρ1)
    (turn : ∀ done x rest, xs = done ++ x :: rest → ∀ ρ, I done ρ → ∀ J : Env → Prop, (∀ ρ, I (done ++ [x]) ρ → J ρ) → g (.val (e x)) ρ (fun ρ3 => b (Z.lp fun ρ4 => nfE ρ4 J) ρ3) Z.ex) (fin : ∀ ρ, I xs ρ → Z.nx ρ) :
    ∃ J : List D → List D → Env → Prop, J [] (xs.map e) ρ1 ∧ (∀ done d rest ρ2, J done (d :: rest) ρ2 → g (.val d) ρ2 (fun ρ3 => b (Z.lp fun ρ4 => nfE ρ4 (J (done ++ [d]) rest)) ρ3) Z.ex) ∧ ∀ done ρ2, J done [] ρ2 → Z.nx ρ2 := by
  refine ⟨fun done rest ρ => ∃ a c, xs = a ++ c ∧ rest = c.map e ∧ I a ρ, ⟨[], xs, rfl, rfl, h0⟩, ?_, ?_⟩
  · rintro done d rest ρ2 ⟨a, c, e1, e2, hi⟩
    cases c with
    | nil => cases e2
    | cons x c =>
      rw [List.map_cons] at e2
      injection e2 with e2 e3
      subst e2 e3
      exact turn a x c e1 ρ2 hi _ fun ρ h => ⟨a ++ [x], c, by rw [e1, List.append_assoc]; rfl, rfl, h⟩
  · rintro done ρ2 ⟨a, c, e1, e2, hi⟩
    have : c = [] := by cases c <;> first | rfl | cases e2
    subst this
    rw [List.append_nil] at e1
    subst e1
    exact fin _ hi
variable {own : List Nat} {tt : Wt} {te : Wd} {Q : R → Env → Prop} {ρ2 : Env}
/-- what a turn of a comprehension must reach: Y of the new item, or N -/
@[reducible] def wTurn (own : List Nat) (g : Wg) (tt : Wt) (te : Wd) (d : D) (ρ : Env) (Y : D → Env → Prop) (N : Env → Prop) : Prop :=
  g (.val d) ρ (fun ρ3 => tt ρ3 (fun c ρ4 => if c = true then te ρ4 (fun r ρ5 => wF ρ5 r fun y ρ6 => nfE (wipeA ρ6 own) (Y y)) (fun _ _ => False) else nfE (wipeA ρ4 own) N) (fun _ _ => False)) (fun _ _ => False)
/-- [.. for x in xs ..]: what holds of the items made, and of the names, when some of xs are done -/
theorem lcT (xs : List α) (e : α → D) (I : List α → List D → Env → Prop) (h0 : I [] [] ρ1)
    (turn : ∀ done x rest, xs = done ++ x :: rest → ∀ acc ρ, I done acc ρ → ∀ (Y : D → Env → Prop) (N : Env → Prop), (∀ y ρ, I (done ++ [x]) (acc ++ [y]) ρ → Y y ρ) → (∀ ρ, I (done ++ [x]) acc ρ → N ρ) → wTurn own g tt te (e x) ρ Y N) {Q : List D → Env → Prop} (fin : ∀ acc ρ, I xs acc ρ → Q acc ρ) :
    ∃ J : List D → List D → Env → Prop, J (xs.map e) [] ρ1 ∧ (∀ d rest acc ρ2, J (d :: rest) acc ρ2 → wTurn own g tt te d ρ2 (fun y => J rest (acc ++ [y])) (J rest acc)) ∧ ∀ acc ρ2, J [] acc ρ2 → Q acc ρ2 := by
  refine ⟨fun rest acc ρ => ∃ a c, xs = a ++ c ∧ rest = c.map e ∧ I a acc ρ, ⟨[], xs, rfl, rfl, h0⟩, ?_, ?_⟩
  · rintro d rest acc ρ2 ⟨a, c, e1, e2, hi⟩
    cases c with
    | nil => cases e2
    | cons x c =>
      rw [List.map_cons] at e2
      injection e2 with e2 e3
      subst e2 e3
      exact turn a x c e1 acc ρ2 hi _ _ (fun y ρ h => ⟨a ++ [x], c, by rw [e1, List.append_assoc]; rfl, rfl, h⟩) fun ρ h => ⟨a ++ [x], c, by rw [e1, List.append_assoc]; rfl, rfl, h⟩
  · rintro acc ρ2 ⟨a, c, e1, e2, hi⟩
    have : c = [] := by cases c <;> first | rfl | cases e2
    subst this
    rw [List.append_nil] at e1
    subst e1
    exact fin _ _ hi
/-- .. of items that are read off -/
theorem lcF (xs : List α) (e : α → D) (p : α → Bool) (f : α → D) (turn : ∀ x ∈ xs, ∀ (Y : D → Env → Prop) (N : Env → Prop), (p x = true → Y (f x) ρ1) → (p x = false → N ρ1) → wTurn own g tt te (e x) ρ1 Y N)
    {Q : List D → Env → Prop} (fin : Q ((xs.filter p).map f) ρ1) :
    ∃ J : List D → List D → Env → Prop, J (xs.map e) [] ρ1 ∧ (∀ d rest acc ρ2, J (d :: rest) acc ρ2 → wTurn own g tt te d ρ2 (fun y => J rest (acc ++ [y])) (J rest acc)) ∧ ∀ acc ρ2, J [] acc ρ2 → Q acc ρ2 := by
  refine lcT xs e (fun done acc ρ => acc = (done.filter p).map f ∧ ρ = ρ1) ⟨rfl, rfl⟩ ?_ ?_
  · rintro done x rest e1 acc ρ ⟨rfl, rfl⟩ Y N hY hN
    refine turn x (by rw [e1]; simp) Y N (fun c => hY _ _ ⟨?_, rfl⟩) fun c => hN _ ⟨?_, rfl⟩
    · rw [List.filter_append, List.map_append, List.filter_cons, if_pos c]; rfl
    · rw [List.filter_append, List.map_append, List.filter_cons, if_neg (by rw [c]; exact Bool.false_ne_true)]; simp
  · rintro acc ρ ⟨rfl, rfl⟩
    exact fin
theorem lcM (xs : List α) (e : α → D) (f : α → D) (turn : ∀ x ∈ xs, ∀ (Y : D → Env → Prop) (N : Env → Prop), Y (f x) ρ1 → wTurn own g tt te (e x) ρ1 Y N)
    {Q : List D → Env → Prop} (fin : Q (xs.map f) ρ1) :
    ∃ J : List D → List D → Env → Prop, J (xs.map e) [] ρ1 ∧ (∀ d rest acc ρ2, J (d :: rest) acc ρ2 → wTurn own g tt te d ρ2 (fun y => J rest (acc ++ [y])) (J rest acc)) ∧ ∀ acc ρ2, J [] acc ρ2 → Q acc ρ2 := by
  refine lcF xs e (fun _ => true) f (fun x hx Y N h1 _ => turn x hx Y N (h1 rfl)) ?_
  rw [List.filter_eq_self.mpr fun _ _ => rfl]
  exact fin
end
theorem pe_no {X : Cx} {e : Expr} : PE X e tNoE := ⟨fun _ _ _ _ _ _ h => False.elim h⟩
theorem se_no {w : World} {W : WX} {P : List V} : SE w W P tNoE wNoE := fun _ _ _ _ _ _ _ _ _ _ _ _ h => False.elim h
theorem ps_no {X : Cx} {s : Stmt} : PS X s tNoS := ⟨fun _ _ _ _ _ _ h => False.elim h⟩
theorem ss_no {w : World} {W : WX} {P : List V} : SS w W P tNoS wNoS := fun _ _ _ _ _ _ _ _ _ h => False.elim h
theorem range_split {n : Nat} {done rest : List Nat} {x : Nat} (h : List.range n = done ++ x :: rest) : x = done.length ∧ x < n := by
  have e : (List.range n)[done.length]? = some x := by rw [h, List.getElem?_append_right (Nat.le_refl _), Nat.sub_self]; rfl
  have hl : done.length < n := by
    have := congrArg List.length h
    rw [List.length_range, List.length_append, List.length_cons] at this
    omega
  rw [List.getElem?_range hl] at e
  cases e
  exact ⟨rfl, hl⟩
section
variable {g : Wg} {b : Ws} {Z : EndF} {ρ1 : Env} {lo : Int} {n : Nat}
/-- for i in range(..): what holds of the names behind i turns -/
theorem forR (I : Nat → Env → Prop) (h0 : I 0 ρ1)
    (turn : ∀ i, i < n → ∀ ρ, I i ρ → ∀ J : Env → Prop, (∀ ρ, I (i + 1) ρ → J ρ) → g (.val (.int (lo + (i : Nat)))) ρ (fun ρ3 => b (Z.lp fun ρ4 => nfE ρ4 J) ρ3) Z.ex) (fin : ∀ ρ, I n ρ → Z.nx ρ) :
    ∃ J : List D → List D → Env → Prop, J [] (ranD lo n) ρ1 ∧ (∀ done d rest ρ2, J done (d :: rest) ρ2 → g (.val d) ρ2 (fun ρ3 => b (Z.lp fun ρ4 => nfE ρ4 (J (done ++ [d]) rest)) ρ3) Z.ex) ∧ ∀ done ρ2, J done [] ρ2 → Z.nx ρ2 := by
  unfold ranD
  refine forT (List.range n) _ (fun done ρ => I done.length ρ) h0 ?_ (fun ρ h => fin ρ (by rwa [List.length_range] at h))
  intro done x rest e ρ h J hJ
  obtain ⟨rfl, hx⟩ := range_split e
  exact turn _ hx ρ h J fun ρ q => hJ ρ (by rw [List.length_append]; exact q)
variable {own : List Nat} {tt : Wt} {te : Wd}
theorem lcR (I : Nat → List D → Env → Prop) (h0 : I 0 [] ρ1)
    (turn : ∀ i, i < n → ∀ acc ρ, I i acc ρ → ∀ (Y : D → Env → Prop) (N : Env → Prop), (∀ y ρ, I (i + 1) (acc ++ [y]) ρ → Y y ρ) → (∀ ρ, I (i + 1) acc ρ → N ρ) → wTurn own g tt te (.int (lo + (i : Nat))) ρ Y N) {Q : List D → Env → Prop} (fin : ∀ acc ρ, I n acc ρ → Q acc ρ) :
    ∃ J : List D → List D → Env → Prop, J (ranD lo n) [] ρ1 ∧ (∀ d rest acc ρ2, J (d :: rest) acc ρ2 → wTurn own g tt te d ρ2 (fun y => J rest (acc ++ [y])) (J rest acc)) ∧ ∀ acc ρ2, J [] acc ρ2 → Q acc ρ2 := by
  unfold ranD
  refine lcT (List.range n) _ (fun done acc ρ => I done.length acc ρ) h0 ?_ (fun acc ρ h => fin acc ρ (by rwa [List.length_range] at h))
  intro done x rest e acc ρ h Y N hY hN
  obtain ⟨rfl, hx⟩ := range_split e
  exact turn _ hx acc ρ h Y N (fun y ρ q => hY y ρ (by rw [List.length_append]; exact q)) fun ρ q => hN ρ (by rw [List.length_append]; exact q)
end
theorem mem_cut {α : Type} {xs : List α} {lo hi : Option Int} {x : α} (h : x ∈ cutD xs lo hi) : x ∈ xs := List.mem_of_mem_drop (List.mem_of_mem_take h)
theorem len_cut {α : Type} {xs : List α} {lo hi : Option Int} : (cutD xs lo hi).length ≤ xs.length := by
  unfold cutD
  rw [List.length_take, List.length_drop]
  omega
theorem map_cut {α β : Type} {f : α → β} {xs : List α} {lo hi : Option Int} : cutD (xs.map f) lo hi = (cutD xs lo hi).map f := by
  unfold cutD
  rw [List.length_map, List.map_take, List.map_drop]
/-! what hands hold: the script's numbers ns, the cells ms, what stands behind them -/
def TLa (ns ms z : List Int) : Prop := z = [0, 0, 0] ∧ ms.length ≤ 63
def TLh (ns ms z : List Int) : Prop := z = [0, 0, 1 + (ms.length : Int), 0] ∧ ms.length ≤ 63 ∧ ∀ c ∈ ms, 0 ≤ c
def TLt (ns ms z : List Int) : Prop := z = [0, 0, 1, 0] ∧ ms.length ≤ 63
def TLd (ns ms z : List Int) : Prop := (∃ q, z = [0, 0, 0, q]) ∧ ms.length ≤ 63
section
variable {P : Program} {w : World} {K : PySem.W.Frag} {mg : Str → Option Value} {base : Heap}
/-- what is wanted of a hand that is made -/
@[reducible] def HandQ (TL : List Int → List Int → List Int → Prop) (ns : List Int) (H : Hp) (Q : VK) : Prop := ∀ (H' : Hp) (d l : Addr) (ms z : List Int), TL ns ms z → (∀ b o, H b = some o → H' b = some o) → H d = none → H l = none → d ≠ l → H' l = some (.lst (ms.map V.int)) → H' d = some (.lst (.ref l :: z.map V.int)) → Q (.ref d) H'
/-- the def that reads the script, by its body -/
theorem okHand {TL : List Int → List Int → List Int → Prop} {x qual : Str} {st : Stmt} {f : Addr} {fd : FuncData} {N : List Str} {k : Nat} (FF : Fun K x qual st f fd) (S : FnScope N ["_law_script"] (defScope st))
    (bd : ∀ (cdv : Value) (A : Around) (out : List PySem.Env) (s : Shared) (H : Hp) (a : Addr) (ns : List Int) (Q : VK) (E : XK), A.guards = some [] → Room k (A.deeper (envOfC qual (defScope st) s.heap.objs.size f cdv)) → SqL K H a (ns.map V.int) → ns.length ≤ 63 → HandQ TL ns H Q →
      ∃ t, PSs (cxOf (L2.CX P w) P w K mg base N qual (defScope st) f cdv A out s H E) (defBody st) t ∧ t { nx := fun _ H' => Q .non H', rt := Q } (L2.start N [.ref a]) H) :
    My.OkG P w K mg base (L2.CX P w) (k + 1) f fd ["_law_script"] (spHand K TL) := by
  obtain ⟨oc, od, kV, dc, pm, an, cdv, ct, sl, rfl, lk, hcd⟩ := FF.ex
  refine My.fn_ofG lk hcd S (fun vs H Q E h => by obtain ⟨x, rfl, _⟩ := h; rfl) fun A out s H vs Q E hg hr hs => ?_
  obtain ⟨x, rfl, a, ns, rfl, hs, hl, hQ⟩ := hs
  obtain ⟨t, h1, h2⟩ := bd cdv A out s H a ns Q E hg hr hs hl hQ
  exact ⟨t, h1, h2⟩
end
theorem cutV_to {xs : List V} {n : Nat} : cutV xs none (some (n : Int)) = xs.take n := by
  unfold cutV
  rw [HT.sIx_none, HT.sIx_nat, List.drop_zero, Nat.sub_zero, ← List.take_eq_take_min]
/-- [f(c) for c in script[:63]]: the cells stand in a new list -/
theorem hand_lc {K : PySem.W.Frag} {H : Hp} {p D : Addr} {ns : List Int} {f : Int → Int} {te : TE} {σ : L2.St} {N : Nat} {Qd : Hp → Prop} (hl : ns.length ≤ 63) (np : H p = none) (hσ : σ.length = N) (hN : 1 < N) (hD : upd H p (.lst (ns.map V.int)) D = none)
    (hte : ∀ c H Q, Q (.int (f c)) H → te ((wipe σ [1]).set 1 (some (.int c))) H Q)
    (hd : ∀ H', (∀ b o, H b = some o → H' b = some o) → H D = none → H' D = some (.lst ((ns.map f).map V.int)) → (∀ b, H' b = none → H b = none) → Qd H') :
    ∃ W : Nat → Nat → Hp → Prop, (∃ m, W 0 m (upd (upd H p (.lst (ns.map V.int))) D (.lst []))) ∧ ∀ i m H, W i m H →
      ((Itl K p).stop i H ∧ Qd H) ∨ ((Itl K p).go i H ∧ ∃ Nx : Hp → Prop, (∀ H', Nx H' → ∃ m', m' < m ∧ W (i + 1) m' H') ∧ ∀ x H', (Itl K p).yld i H x H' → gName 1 x (wipe σ [1]) H' fun σ2 H2 => wipe σ2 [1] = wipe σ [1] ∧ tYes σ2 H2 fun b H3 =>
        if b = true then te σ2 H3 fun y H4 => ∃ acc, H4 D = some (.lst acc) ∧ acc.length < sizeLine ∧ Nx (upd H4 D (.lst (acc ++ [y]))) else Nx H3) := by
  have npD : p ≠ D := ne_of_none upd_same hD
  have hD2 : H D = none := by rwa [upd_ne (Ne.symm npD)] at hD
  refine lc_list (K := K) (a := p) (xs := ns.map V.int) (fun i H' => H' p = some (.lst (ns.map V.int)) ∧ (∀ b o, H b = some o → H' b = some o) ∧ H' D = some (.lst (((ns.take i).map f).map V.int)) ∧ ∀ b, H' b = none → H b = none) ?_ (fun i H' _ h => SqL.of h.1) ?_ ?_
  · refine ⟨by rw [upd_ne npD]; exact upd_same, fun b o e => ?_, upd_same, fun b e => ?_⟩
    · rw [upd_ne (ne_of_none e hD2), upd_ne (ne_of_none e np)]; exact e
    · by_cases z : b = D
      · rw [z, upd_same] at e; cases e
      · rw [upd_ne z] at e
        by_cases z2 : b = p
        · rw [z2, upd_same] at e; cases e
        · rwa [upd_ne z2] at e
  · rintro i x H' hx ⟨h1, h2, h3, h4⟩
    rw [List.getElem?_map] at hx
    cases e : ns[i]? with
    | none => rw [e] at hx; cases hx
    | some c =>
      rw [e] at hx
      cases hx
      have hi : i < ns.length := (List.getElem?_eq_some_iff.mp e).1
      refine ⟨?_, ?_⟩
      · show wipe ((wipe σ [1]).set 1 (some (.int c))) [1] = wipe σ [1]
        show ((σ.set 1 none).set 1 (some (.int c))).set 1 none = σ.set 1 none
        rw [List.set_set, List.set_set]
      · unfold tYes
        simp only [if_true]
        refine hte _ _ _ ⟨_, h3, line_lt (by rw [List.length_map, List.length_map, List.length_take]; omega), ?_⟩
        have hne : ∀ b o, H b = some o → b ≠ D := fun b o e => ne_of_none e hD2
        refine ⟨by rw [upd_ne npD]; exact h1, fun b o e => by rw [upd_ne (hne b o e)]; exact h2 b o e, ?_, fun b e => ?_⟩
        · rw [upd_same, List.take_succ, e]
          simp
        · by_cases z : b = D
          · rw [z]; exact hD2
          · rw [upd_ne z] at e; exact h4 b e
  · rintro H' ⟨h1, h2, h3, h4⟩
    rw [List.length_map, List.take_length] at h3
    exact hd H' h2 hD2 h3 h4
/-! ways of a test -/
theorem iteD {p : Prop} {dp : Decidable p} {X Y : Prop} (h1 : p → X) (h2 : ¬ p → Y) : if @decide p dp = true then X else Y := iteB (fun c => h1 (of_decide_eq_true c)) fun c => h2 (of_decide_eq_false c)
theorem iteDN {p : Prop} {dp : Decidable p} {X Y : Prop} (h1 : ¬ p → X) (h2 : p → Y) : if (!@decide p dp) = true then X else Y := iteN (fun c => h1 (of_decide_eq_false c)) fun c => h2 (of_decide_eq_true c)
theorem ifNT {X Y : Prop} (h : Y) : if (!true) = true then X else Y := ifF h
theorem ifNF {X Y : Prop} (h : X) : if (!false) = true then X else Y := ifT h
theorem iteDT {p : Prop} {dp : Decidable p} {X Y : Prop} (c : p) (h : X) : if @decide p dp = true then X else Y := by rw [if_pos (decide_eq_true c)]; exact h
theorem iteDF {p : Prop} {dp : Decidable p} {X Y : Prop} (c : ¬ p) (h : Y) : if @decide p dp = true then X else Y := by rw [if_neg (by rw [decide_eq_false c]; exact Bool.false_ne_true)]; exact h
end Fl

set_option Elab.async false
set_option linter.all false
set_option maxRecDepth 100000
set_option maxHeartbeats 400000
/-! Tree: lots, links, what is heard from a place, predecessors -/
namespace Fl
open PySem PySem.Spec PyProof.Rows L2
/-! ### what a thing is -/
def isInt : D → Bool
  | .int _ => true
  | _ => false
def withinD (d : D) (lo hi : Int) : Bool := match d with
  | .int i => decide (lo ≤ i) && decide (i ≤ hi)
  | _ => false
def pairB : D → Bool
  | .tup ds => decide (ds.length = 2)
  | _ => false
def lotGo (m : Int) : Int → List D → Bool
  | _, [] => true
  | l, d :: r => withinD d (l + 1) (m - 1) && (match d with
    | .int i => lotGo m i r
    | _ => false)
def lotB (m : Int) : D → Bool
  | .tup ds => lotGo m (-1) ds
  | _ => false
/-! plain through tuples -/
mutual
def pl : D → Bool
  | .tup ds => pls ds
  | d => plainD d
def pls : List D → Bool
  | [] => true
  | d :: r => pl d && pls r
end
theorem pl_plain {d : D} (h : pl d = true) : plainD d = true := by
  cases d <;> first | rfl | exact h
theorem pls_mem : ∀ {ds : List D}, pls ds = true → ∀ d ∈ ds, pl d = true
  | [], _, d, hd => by cases hd
  | a :: r, h, d, hd => by
    have h : (pl a && pls r) = true := h
    rw [Bool.and_eq_true] at h
    rcases List.mem_cons.mp hd with rfl | hd
    · exact h.1
    · exact pls_mem h.2 d hd
theorem pls_of : ∀ {ds : List D}, (∀ d ∈ ds, pl d = true) → pls ds = true
  | [], _ => rfl
  | a :: r, h => by
    show (pl a && pls r) = true
    rw [h a (by simp), pls_of fun d hd => h d (List.mem_cons_of_mem _ hd)]
    rfl
theorem pl_tup {ds : List D} (h : pl (.tup ds) = true) : ∀ d ∈ ds, pl d = true := pls_mem h
theorem pl_ints {ns : List Int} : pl (.tup (ns.map D.int)) = true := pls_of fun d hd => by
  obtain ⟨n, _, rfl⟩ := List.mem_map.mp hd
  rfl
theorem withinD_int {d : D} {lo hi : Int} (h : withinD d lo hi = true) : ∃ i, d = .int i ∧ lo ≤ i ∧ i ≤ hi := by
  cases d <;> first | exact absurd (show false = true from h) Bool.false_ne_true | skip
  rename_i i
  have h : (decide (lo ≤ i) && decide (i ≤ hi)) = true := h
  rw [Bool.and_eq_true, decide_eq_true_iff, decide_eq_true_iff] at h
  exact ⟨i, rfl, h.1, h.2⟩
theorem withinD_mk {i lo hi : Int} (h1 : lo ≤ i) (h2 : i ≤ hi) : withinD (.int i) lo hi = true := by
  show (decide (lo ≤ i) && decide (i ≤ hi)) = true
  rw [decide_eq_true h1, decide_eq_true h2]
  rfl
theorem lotGo_out {m l : Int} {d : D} {r : List D} (c : withinD d (l + 1) (m - 1) = false) : lotGo m l (d :: r) = false := by
  unfold lotGo
  rw [c]
  rfl
theorem lotGo_in {m l i : Int} {r : List D} (c : withinD (.int i) (l + 1) (m - 1) = true) : lotGo m l (.int i :: r) = lotGo m i r := by
  show (withinD (.int i) (l + 1) (m - 1) && lotGo m i r) = _
  rw [c, Bool.true_and]
/-- a lot: numbers from 0 on below m, growing -/
def Lot (m : Int) (js : List Int) : Prop := (∀ j ∈ js, 0 ≤ j ∧ j < m) ∧ js.Pairwise (· < ·)
theorem lotGo_of {m : Int} : ∀ {ds : List D} {l : Int}, lotGo m l ds = true → ∃ js : List Int, ds = js.map D.int ∧ (∀ j ∈ js, l < j ∧ j < m) ∧ js.Pairwise (· < ·)
  | [], _, _ => ⟨[], rfl, by simp, List.Pairwise.nil⟩
  | d :: r, l, h => by
    unfold lotGo at h
    rw [Bool.and_eq_true] at h
    obtain ⟨h1, h2⟩ := h
    obtain ⟨i, rfl, h3, h4⟩ := withinD_int h1
    have h2 : lotGo m i r = true := h2
    obtain ⟨js, rfl, h5, h6⟩ := lotGo_of h2
    refine ⟨i :: js, rfl, fun j hj => ?_, List.pairwise_cons.mpr ⟨fun j hj => (h5 j hj).1, h6⟩⟩
    rcases List.mem_cons.mp hj with rfl | hj
    · omega
    · have := h5 j hj; omega
theorem lotGo_mk {m : Int} : ∀ {js : List Int} {l : Int}, (∀ j ∈ js, l < j ∧ j < m) → js.Pairwise (· < ·) → lotGo m l (js.map D.int) = true
  | [], _, _, _ => rfl
  | j :: js, l, h, p => by
    rw [List.pairwise_cons] at p
    have hj := h j (by simp)
    show (withinD (.int j) (l + 1) (m - 1) && lotGo m j (js.map D.int)) = true
    rw [withinD_mk (by omega) (by omega), lotGo_mk (fun i hi => ⟨p.1 i hi, (h i (List.mem_cons_of_mem _ hi)).2⟩) p.2]
    rfl
theorem lotB_iff {m : Int} {x : D} : lotB m x = true ↔ ∃ js, x = .tup (js.map D.int) ∧ Lot m js := by
  constructor
  · intro h
    cases x <;> first | exact absurd (show false = true from h) Bool.false_ne_true | skip
    obtain ⟨js, rfl, h1, h2⟩ := lotGo_of (show lotGo m (-1) _ = true from h)
    exact ⟨js, rfl, fun j hj => by have := h1 j hj; omega, h2⟩
  · rintro ⟨js, rfl, h1, h2⟩
    exact lotGo_mk (fun j hj => by have := h1 j hj; omega) h2
theorem Lot.nodup {m : Int} {js : List Int} (h : Lot m js) : js.Nodup := h.2.imp fun h => Int.ne_of_lt h
theorem ints_inj : ∀ {ns ms : List Int}, ns.map D.int = ms.map D.int → ns = ms
  | [], [], _ => rfl
  | [], _ :: _, h => by cases h
  | _ :: _, [], h => by cases h
  | n :: ns, m :: ms, h => by
    rw [List.map_cons, List.map_cons] at h
    injection h with h1 h2
    injection h1 with h1
    rw [h1, ints_inj h2]
/-! ### distinct numbers below n -/
theorem few_of : ∀ {n : Nat} {l : List Int}, l.Nodup → (∀ x ∈ l, 0 ≤ x ∧ x < n) → l.length ≤ n
  | 0, l, _, h => by
    cases l with
    | nil => exact Nat.le_refl _
    | cons a r => have := h a (by simp); omega
  | n + 1, l, nd, h => by
    have hf : (l.filter fun x => decide (x ≠ (n : Int))).length ≤ n := few_of (nd.filter _) fun x hx => by
      rw [List.mem_filter] at hx
      have h1 := h x hx.1
      have h2 := of_decide_eq_true hx.2
      omega
    by_cases hm : (n : Int) ∈ l
    · have e : l.length = (l.filter fun x => decide (x ≠ (n : Int))).length + 1 := by
        have := nd.erase_eq_filter (n : Int)
        have h3 := List.length_erase_of_mem hm
        rw [this] at h3
        have h4 : 0 < l.length := List.length_pos_of_mem hm
        have e5 : (l.filter fun x => x != (n : Int)) = l.filter fun x => decide (x ≠ (n : Int)) := by
          apply List.filter_congr
          intro x _
          rw [Bool.eq_iff_iff]
          simp
        rw [e5] at h3
        omega
      omega
    · have e : (l.filter fun x => decide (x ≠ (n : Int))) = l := List.filter_eq_self.mpr fun x hx => by
        apply decide_eq_true
        intro z
        rw [z] at hx
        exact hm hx
      rw [e] at hf
      omega
theorem dups_same : ∀ {ns : List Int}, (dups ns).length = ns.length ↔ ns.Nodup
  | [] => by simp [dups]
  | a :: r => by
    have ih := dups_same (ns := r)
    have hl := dups_len r
    unfold dups
    rw [List.nodup_cons]
    split
    · rename_i h
      rw [List.length_cons]
      constructor
      · intro e; omega
      · intro z; exact absurd h z.1
    · rename_i h
      rw [List.length_cons, List.length_cons, ← ih]
      constructor
      · intro e; exact ⟨h, by omega⟩
      · intro z; omega
/-! ### links -/
abbrev Lk := Int × Int
@[reducible] def pairD (p : Lk) : D := .tup [.int p.1, .int p.2]
def lk (ls : List Lk) (j : Int) : Lk := ls.getD j.toNat (0, 0)
def edges (ls : List Lk) (js : List Int) : List Lk := js.map (lk ls)
theorem at_ints {ns : List Int} {j : Int} (h0 : 0 ≤ j) (h1 : j < ns.length) : atI (ns.map D.int) j = some (.int (ns.getD j.toNat 0)) := by
  obtain ⟨k, rfl⟩ : ∃ k : Nat, j = (k : Int) := ⟨j.toNat, by omega⟩
  have hk : k < ns.length := by omega
  refine atI_nat ?_
  rw [List.getElem?_map, List.getElem?_eq_getElem hk]
  simp [List.getD, List.getElem?_eq_getElem hk]
theorem at_links {ls : List Lk} {j : Int} (h0 : 0 ≤ j) (h1 : j < ls.length) : atI (ls.map pairD) j = some (pairD (lk ls j)) := by
  obtain ⟨k, rfl⟩ : ∃ k : Nat, j = (k : Int) := ⟨j.toNat, by omega⟩
  have hk : k < ls.length := by omega
  refine atI_nat ?_
  rw [List.getElem?_map, List.getElem?_eq_getElem hk]
  simp [lk, List.getD, List.getElem?_eq_getElem hk]
theorem lk_mem {ls : List Lk} {j : Int} (h0 : 0 ≤ j) (h1 : j < ls.length) : lk ls j ∈ ls := by
  obtain ⟨k, rfl⟩ : ∃ k : Nat, j = (k : Int) := ⟨j.toNat, by omega⟩
  have hk : k < ls.length := by omega
  simp [lk, List.getD, List.getElem?_eq_getElem hk]
/-- what is heard from the places ps over the links es -/
inductive RS (es : List Lk) (ps : List Int) : Int → Prop
  | base {x : Int} (h : x ∈ ps) : RS es ps x
  | step {a b : Int} (h : (a, b) ∈ es) (r : RS es ps a) : RS es ps b
/-- the place ahead -/
def par (es : List Lk) (x : Int) : Int := match es.find? (fun e => decide (e.2 = x)) with
  | some e => e.1
  | none => x
def itr (es : List Lk) : Nat → Int → Int
  | 0, x => x
  | k + 1, x => par es (itr es k x)
theorem itr_add {es : List Lk} : ∀ {j k : Nat} {x : Int}, itr es (j + k) x = itr es j (itr es k x)
  | 0, k, x => by rw [Nat.zero_add]; rfl
  | j + 1, k, x => by
    rw [Nat.add_right_comm]
    show par es (itr es (j + k) x) = par es (itr es j (itr es k x))
    rw [itr_add]
theorem itr_succ {es : List Lk} {k : Nat} {x : Int} : itr es (k + 1) x = itr es k (par es x) := itr_add (j := k) (k := 1)
section
variable {es : List Lk} {ps : List Int}
theorem par_at (nd : (es.map (·.2)).Nodup) {a b : Int} (h : (a, b) ∈ es) : par es b = a := by
  induction es with
  | nil => cases h
  | cons e es ih =>
    rw [List.map_cons, List.nodup_cons] at nd
    unfold par
    rw [List.find?_cons]
    rcases List.mem_cons.mp h with he | h
    · subst he
      simp
    · have n : ¬ e.2 = b := fun z => nd.1 (by rw [z]; exact List.mem_map.mpr ⟨_, h, rfl⟩)
      rw [decide_eq_false n]
      exact ih nd.2 h
theorem par_out {x : Int} (h : x ∉ es.map (·.2)) : par es x = x := by
  unfold par
  have : es.find? (fun e => decide (e.2 = x)) = none := List.find?_eq_none.mpr fun e he => by
    rw [decide_eq_true_eq]
    intro z
    exact h (List.mem_map.mpr ⟨e, he, z⟩)
  rw [this]
theorem par_in {x : Int} (h : x ∈ es.map (·.2)) : (par es x, x) ∈ es := by
  unfold par
  cases e : es.find? (fun e => decide (e.2 = x)) with
  | none =>
    obtain ⟨p, hp, hx⟩ := List.mem_map.mp h
    have := List.find?_eq_none.mp e p hp
    rw [decide_eq_true_eq] at this
    exact absurd hx this
  | some p =>
    have h1 := List.mem_of_find?_eq_some e
    have h2 := List.find?_some e
    have h2 : p.2 = x := of_decide_eq_true h2
    subst h2
    exact h1
theorem RS.itr (nd : (es.map (·.2)).Nodup) {x : Int} (h : RS es ps x) : ∃ k, itr es k x ∈ ps := by
  induction h with
  | base h => exact ⟨0, h⟩
  | step h r ih =>
    obtain ⟨k, ih⟩ := ih
    refine ⟨k + 1, ?_⟩
    rw [itr_succ, par_at nd h]
    exact ih
theorem RS.of_itr : ∀ {k : Nat} {x : Int}, Fl.itr es k x ∈ ps → RS es ps x
  | 0, x, h => .base h
  | k + 1, x, h => by
    rw [itr_succ] at h
    have r := RS.of_itr h
    by_cases hx : x ∈ es.map (·.2)
    · exact .step (par_in hx) r
    · rw [par_out hx] at r; exact r
theorem itr_fix (hp : ∀ x ∈ ps, x ∉ es.map (·.2)) {x : Int} {k : Nat} (h : Fl.itr es k x ∈ ps) : ∀ {j : Nat}, k ≤ j → Fl.itr es j x ∈ ps
  | j, hj => by
    obtain ⟨t, rfl⟩ : ∃ t, j = t + k := ⟨j - k, by omega⟩
    clear hj
    induction t with
    | zero => rw [Nat.zero_add]; exact h
    | succ t ih =>
      rw [Nat.add_right_comm]
      show par es (Fl.itr es (t + k) x) ∈ ps
      rw [par_out (hp _ ih)]
      exact ih
theorem itr_range {n : Nat} (hr : ∀ e ∈ es, 0 ≤ e.1 ∧ e.1 < n) {x : Int} (hx : 0 ≤ x ∧ x < n) : ∀ k, 0 ≤ Fl.itr es k x ∧ Fl.itr es k x < n
  | 0 => hx
  | k + 1 => by
    have ih := itr_range hr hx k
    show 0 ≤ par es (Fl.itr es k x) ∧ par es (Fl.itr es k x) < n
    by_cases h : Fl.itr es k x ∈ es.map (·.2)
    · exact hr _ (par_in h)
    · rw [par_out h]; exact ih
theorem itr_few (hp : ∀ x ∈ ps, x ∉ es.map (·.2)) {n : Nat} (hr : ∀ e ∈ es, 0 ≤ e.1 ∧ e.1 < n) {x : Int} (hx : 0 ≤ x ∧ x < n) (h : ∃ k, Fl.itr es k x ∈ ps) : Fl.itr es n x ∈ ps := by
  by_cases hn : Fl.itr es n x ∈ ps
  · exact hn
  · exfalso
    have no : ∀ j, j ≤ n → Fl.itr es j x ∉ ps := fun j hj z => hn (itr_fix hp z hj)
    have nd : ((List.range (n + 1)).map fun j => Fl.itr es j x).Nodup := by
      rw [List.Nodup, List.pairwise_map]
      have key : ∀ i j, i < j → j ≤ n → Fl.itr es i x ≠ Fl.itr es j x := fun i j hij hj e => by
        obtain ⟨k, hk⟩ := h
        have per : ∀ t, Fl.itr es (i + t * (j - i)) x = Fl.itr es i x := fun t => by
          induction t with
          | zero => simp
          | succ t ih =>
            have e1 : i + (t + 1) * (j - i) = (j - i) + (i + t * (j - i)) := by rw [Nat.succ_mul]; omega
            rw [e1, itr_add, ih, ← itr_add]
            have e2 : j - i + i = j := by omega
            rw [e2, e]
        have hb : Fl.itr es (i + k * (j - i)) x ∈ ps := itr_fix hp hk (by
          have : k ≤ k * (j - i) := Nat.le_mul_of_pos_right k (by omega)
          omega)
        rw [per k] at hb
        exact no i (by omega) hb
      refine List.Pairwise.imp_of_mem ?_ (List.pairwise_lt_range (n := n + 1))
      intro i j hi hj hij
      exact key i j hij (by have := List.mem_range.mp hj; omega)
    have := few_of (n := n) nd fun y hy => by
      obtain ⟨j, _, rfl⟩ := List.mem_map.mp hy
      exact itr_range hr hx j
    rw [List.length_map, List.length_range] at this
    omega
end
/-! ### trees -/
/-- a net: places, the root, its links -/
structure NetOk (m r : Int) (ls : List Lk) : Prop where
  m2 : 2 ≤ m
  m10 : m ≤ 10
  r0 : 0 ≤ r
  rm : r < m
  len : ls.length ≤ 60
  good : ∀ p ∈ ls, (0 ≤ p.1 ∧ p.1 < m) ∧ (0 ≤ p.2 ∧ p.2 < m) ∧ p.1 ≠ p.2
@[reducible] def lotD (js : List Int) : D := .tup (js.map D.int)
def heads (ls : List Lk) (js : List Int) : List Int := (edges ls js).map (·.2)
/-- a lot of links grown from the places ps -/
structure Grown (ls : List Lk) (ps js : List Int) : Prop where
  lot : Lot ls.length js
  once : (heads ls js).Nodup
  out : ∀ x ∈ ps, x ∉ heads ls js
  all : ∀ x ∈ heads ls js, RS (edges ls js) ps x
def IsTree (m r : Int) (ls : List Lk) (x : D) : Prop := ∃ js, x = lotD js ∧ Grown ls [r] js ∧ (js.length : Int) = m - 1
def IsPack (m r : Int) (ls : List Lk) (x : D) : Prop := ∃ jss : List (List Int), x = .tup (jss.map lotD) ∧ (∀ js ∈ jss, IsTree m r ls (lotD js)) ∧ jss.flatten.Nodup
theorem lot_edge {ls : List Lk} {m r : Int} (N : NetOk m r ls) {js : List Int} (h : Lot ls.length js) {j : Int} (hj : j ∈ js) : (0 ≤ (lk ls j).1 ∧ (lk ls j).1 < m) ∧ (0 ≤ (lk ls j).2 ∧ (lk ls j).2 < m) ∧ (lk ls j).1 ≠ (lk ls j).2 :=
  N.good _ (lk_mem (h.1 j hj).1 (h.1 j hj).2)
theorem edge_range {ls : List Lk} {m r : Int} (N : NetOk m r ls) {js : List Int} (h : Lot ls.length js) : ∀ e ∈ edges ls js, (0 ≤ e.1 ∧ e.1 < m) ∧ (0 ≤ e.2 ∧ e.2 < m) ∧ e.1 ≠ e.2 := fun e he => by
  obtain ⟨j, hj, rfl⟩ := List.mem_map.mp he
  exact lot_edge N h hj
theorem heads_len {ls : List Lk} {js : List Int} : (heads ls js).length = js.length := by
  unfold heads edges
  rw [List.length_map, List.length_map]
/-- what the law's judge asks: every place's way back ends at the root -/
theorem tree_iff {m r : Int} {ls : List Lk} (N : NetOk m r ls) {js : List Int} (h : Lot ls.length js) (hl : (js.length : Int) = m - 1) (nd : (heads ls js).Nodup) (ho : r ∉ heads ls js) :
    (∀ x ∈ heads ls js, RS (edges ls js) [r] x) ↔ ∀ p, 0 ≤ p → p < m → itr (edges ls js) m.toNat p = r := by
  have hp : ∀ x ∈ [r], x ∉ (edges ls js).map (·.2) := fun x hx => by rw [List.mem_singleton.mp hx]; exact ho
  have hr : ∀ e ∈ edges ls js, 0 ≤ e.1 ∧ e.1 < (m.toNat : Int) := fun e he => by
    have := (edge_range N h e he).1
    have := N.m2
    omega
  constructor
  · intro hall p hp0 hpm
    have hin : p = r ∨ p ∈ heads ls js := by
      by_cases hp1 : p = r
      · exact .inl hp1
      · refine .inr (Classical.byContradiction fun hn => ?_)
        have nd2 : (p :: r :: heads ls js).Nodup := List.nodup_cons.mpr ⟨by
          rw [List.mem_cons, not_or]
          exact ⟨hp1, hn⟩, List.nodup_cons.mpr ⟨ho, nd⟩⟩
        have := few_of (n := m.toNat) nd2 fun x hx => by
          have := N.r0; have := N.rm
          rcases List.mem_cons.mp hx with rfl | hx
          · omega
          rcases List.mem_cons.mp hx with rfl | hx
          · omega
          · obtain ⟨e, he, rfl⟩ := List.mem_map.mp hx
            have := (edge_range N h e he).2.1
            omega
        rw [List.length_cons, List.length_cons, heads_len] at this
        omega
    have hk : ∃ k, itr (edges ls js) k p ∈ [r] := by
      rcases hin with rfl | hin
      · exact ⟨0, List.mem_singleton.mpr rfl⟩
      · exact RS.itr nd (hall p hin)
    exact List.mem_singleton.mp (itr_few hp hr (by have := N.m2; omega) hk)
  · intro hall x hx
    obtain ⟨e, he, rfl⟩ := List.mem_map.mp hx
    have hb := (edge_range N h e he).2.1
    exact RS.of_itr (k := m.toNat) (by rw [hall _ hb.1 hb.2]; exact List.mem_singleton.mpr rfl)
theorem all_snoc {α : Type} {P : α → Prop} {bs : List Bool} {b : Bool} {done : List α} {d : α} (h : bs.all id = true ↔ ∀ x ∈ done, P x) (h2 : b = true ↔ P d) : (bs ++ [b]).all id = true ↔ ∀ x ∈ done ++ [d], P x := by
  rw [List.all_append, Bool.and_eq_true, h]
  simp only [List.all_cons, List.all_nil, Bool.and_true, id, h2, List.mem_append, List.mem_singleton]
  constructor
  · rintro ⟨h1, h2⟩ x (hx | rfl)
    · exact h1 x hx
    · exact h2
  · intro h
    exact ⟨fun x hx => h x (.inl hx), h d (.inr rfl)⟩
theorem any_snoc {α : Type} {P : α → Prop} {bs : List Bool} {b : Bool} {done : List α} {d : α} (h : bs.any id = true ↔ ∃ x ∈ done, P x) (h2 : b = true ↔ P d) : (bs ++ [b]).any id = true ↔ ∃ x ∈ done ++ [d], P x := by
  rw [List.any_append, Bool.or_eq_true, h]
  simp only [List.any_cons, List.any_nil, Bool.or_false, id, h2, List.mem_append, List.mem_singleton]
  constructor
  · rintro (⟨x, hx, hp⟩ | hp)
    · exact ⟨x, .inl hx, hp⟩
    · exact ⟨d, .inr rfl, hp⟩
  · rintro ⟨x, hx | rfl, hp⟩
    · exact .inl ⟨x, hx, hp⟩
    · exact .inr hp
theorem trees_lots {m r : Int} {ls : List Lk} : ∀ {ds : List D}, (∀ d ∈ ds, IsTree m r ls d) → ∃ jss : List (List Int), ds = jss.map lotD ∧ ∀ js ∈ jss, IsTree m r ls (lotD js)
  | [], _ => ⟨[], rfl, by simp⟩
  | d :: ds, h => by
    obtain ⟨jss, rfl, h2⟩ := trees_lots (ds := ds) fun d hd => h d (List.mem_cons_of_mem _ hd)
    have h1 := h d (by simp)
    obtain ⟨js, rfl, g⟩ := id h1
    exact ⟨js :: jss, rfl, fun j hj => by
      rcases List.mem_cons.mp hj with rfl | hj
      · exact h1
      · exact h2 j hj⟩
theorem lots_inj : ∀ {a b : List (List Int)}, a.map lotD = b.map lotD → a = b
  | [], [], _ => rfl
  | [], _ :: _, h => by cases h
  | _ :: _, [], h => by cases h
  | x :: a, y :: b, h => by
    rw [List.map_cons, List.map_cons] at h
    injection h with h1 h2
    injection h1 with h1
    rw [ints_inj h1, lots_inj h2]
theorem flat_few {n k : Nat} : ∀ {jss : List (List Int)}, (∀ js ∈ jss, js.length ≤ k) → jss.length ≤ n → jss.flatten.length ≤ n * k
  | [], _, _ => Nat.zero_le _
  | js :: jss, h, hn => by
    cases n with
    | zero => exact absurd hn (Nat.not_succ_le_zero _)
    | succ n =>
      have h1 := h js (by simp)
      have h2 := flat_few (n := n) (jss := jss) (fun j hj => h j (List.mem_cons_of_mem _ hj)) (Nat.le_of_succ_le_succ hn)
      rw [List.flatten_cons, List.length_append, Nat.succ_mul]
      omega
theorem tree_len {m r : Int} {ls : List Lk} {js : List Int} (h : IsTree m r ls (lotD js)) : (js.length : Int) = m - 1 := by
  obtain ⟨js', e, _, hl⟩ := h
  have : js = js' := ints_inj (by injection e)
  rw [this]; exact hl
/-- membership of a number in a list of numbers -/
theorem mem_ints {n : Int} : ∀ {ns : List Int}, memD (.int n) (ns.map D.int) = decide (n ∈ ns)
  | [] => rfl
  | a :: r => by
    have ih := mem_ints (n := n) (ns := r)
    show (PyData.eqv (.int a) (.int n) || memD (.int n) (r.map D.int)) = _
    rw [ih, Bool.eq_iff_iff]
    simp only [Bool.or_eq_true, decide_eq_true_eq, List.mem_cons]
    have : PyData.eqv (.int a) (.int n) = decide (a = n) := by
      rw [Bool.eq_iff_iff, decide_eq_true_iff]
      simp [PyData.eqv]
    rw [this, decide_eq_true_iff]
    constructor
    · rintro (h | h)
      · exact .inl h.symm
      · exact .inr h
    · rintro (h | h)
      · exact .inl h.symm
      · exact .inr h
theorem flat_ints : ∀ {ns : List Int}, (ns.map D.int).all flatD = true
  | [] => rfl
  | _ :: r => by
    rw [List.map_cons, List.all_cons, flat_ints (ns := r)]
    rfl
/-! ### drawn places in a list -/
theorem ixN_of {n : Nat} {r : Int} (h0 : 0 ≤ r) (h1 : r < n) : ixN n r = some r.toNat := by
  unfold ixN
  rw [if_pos h0, if_pos h1]
theorem at_any {α : Type} {xs : List α} {r : Int} (h0 : 0 ≤ r) (h1 : r < xs.length) : ∃ x, atI xs r = some x ∧ x ∈ xs := by
  obtain ⟨j, rfl⟩ : ∃ j : Nat, r = (j : Int) := ⟨r.toNat, by omega⟩
  have hj : j < xs.length := by omega
  exact ⟨xs[j], atI_nat (List.getElem?_eq_getElem hj), List.getElem_mem hj⟩
theorem pop_perm {α : Type} : ∀ {xs : List α} {j : Nat} {y : α}, xs[j]? = some y → (y :: xs.eraseIdx j).Perm xs
  | [], j, y, h => by simp at h
  | x :: xs, 0, y, h => by
    simp at h
    subst h
    exact .refl _
  | x :: xs, j + 1, y, h => by
    rw [List.getElem?_cons_succ] at h
    have ih := pop_perm h
    show (y :: x :: xs.eraseIdx j).Perm (x :: xs)
    exact (List.Perm.swap x y _).trans (ih.cons x)
theorem good_mono {m : Int} {ls : List Lk} (h : ∀ p ∈ ls, (0 ≤ p.1 ∧ p.1 < m) ∧ (0 ≤ p.2 ∧ p.2 < m) ∧ p.1 ≠ p.2) {ks : List Lk} (s : ∀ p ∈ ks, p ∈ ls) : ∀ p ∈ ks, (0 ≤ p.1 ∧ p.1 < m) ∧ (0 ≤ p.2 ∧ p.2 < m) ∧ p.1 ≠ p.2 := fun p hp => h p (s p hp)
theorem map_perm_back {α β : Type} {f : α → β} : ∀ {es : List β} {xs : List α}, es.Perm (xs.map f) → ∃ ys : List α, es = ys.map f ∧ ys.Perm xs := by
  intro es xs h
  generalize hz : xs.map f = zs at h
  induction h generalizing xs with
  | nil => exact ⟨[], rfl, by cases xs with | nil => exact .refl _ | cons a b => cases hz⟩
  | @cons x l1 l2 h ih =>
    cases xs with
    | nil => cases hz
    | cons a xs =>
      rw [List.map_cons] at hz
      injection hz with h1 h2
      obtain ⟨ys, e, p⟩ := ih h2
      exact ⟨a :: ys, by rw [List.map_cons, h1, e], p.cons a⟩
  | swap x y l =>
    cases xs with
    | nil => cases hz
    | cons a xs =>
      rw [List.map_cons] at hz
      injection hz with h1 h2
      cases xs with
      | nil => cases h2
      | cons b xs =>
        rw [List.map_cons] at h2
        injection h2 with h2 h3
        exact ⟨b :: a :: xs, by rw [List.map_cons, List.map_cons, h1, h2, h3], .swap a b xs⟩
  | trans h1 h2 ih1 ih2 =>
    obtain ⟨ys, e, p⟩ := ih2 hz
    obtain ⟨zs, e2, p2⟩ := ih1 e.symm
    exact ⟨zs, e2, p2.trans p⟩
theorem at_last {α : Type} {xs : List α} (h : xs ≠ []) : ∃ x, atI xs (-1) = some x ∧ x ∈ xs := by
  have hl : 0 < xs.length := List.length_pos_iff.mpr h
  have e : ixN xs.length (-1) = some (xs.length - 1) := by
    unfold ixN
    rw [if_neg (by decide), if_pos (by omega)]
    congr 1
    omega
  refine ⟨xs[xs.length - 1], ?_, List.getElem_mem _⟩
  unfold atI
  rw [e]
  exact List.getElem?_eq_getElem _
/-- 0 .. n - 1 -/
def rgI (n : Nat) : List Int := (List.range n).map fun i => ((i : Nat) : Int)
theorem ran_ints {n : Nat} : ranD 0 n = (rgI n).map D.int := by
  unfold ranD rgI
  rw [List.map_map]
  apply List.map_congr_left
  intro i _
  show D.int (0 + (i : Int)) = D.int i
  rw [Int.zero_add]
theorem mem_rgI {n : Nat} {x : Int} : x ∈ rgI n ↔ 0 ≤ x ∧ x < n := by
  unfold rgI
  rw [List.mem_map]
  constructor
  · rintro ⟨i, hi, rfl⟩
    have := List.mem_range.mp hi
    omega
  · rintro ⟨h0, h1⟩
    exact ⟨x.toNat, List.mem_range.mpr (by omega), by omega⟩
theorem len_rgI {n : Nat} : (rgI n).length = n := by unfold rgI; rw [List.length_map, List.length_range]
theorem nodup_rgI {n : Nat} : (rgI n).Nodup := by
  unfold rgI
  rw [List.Nodup, List.pairwise_map]
  exact (List.nodup_range (n := n)).imp fun h e => h (by omega)
def Good (m : Int) (ls : List Lk) : Prop := ∀ p ∈ ls, (0 ≤ p.1 ∧ p.1 < m) ∧ (0 ≤ p.2 ∧ p.2 < m) ∧ p.1 ≠ p.2
theorem Good.snoc {m : Int} {ls : List Lk} {p : Lk} (h : Good m ls) (hp : (0 ≤ p.1 ∧ p.1 < m) ∧ (0 ≤ p.2 ∧ p.2 < m) ∧ p.1 ≠ p.2) : Good m (ls ++ [p]) := fun q hq => by
  rcases List.mem_append.mp hq with hq | hq
  · exact h q hq
  · rw [List.mem_singleton.mp hq]; exact hp
theorem Good.app {m : Int} {ls ks : List Lk} (h : Good m ls) (h2 : Good m ks) : Good m (ls ++ ks) := fun q hq => by
  rcases List.mem_append.mp hq with hq | hq
  · exact h q hq
  · exact h2 q hq
theorem turned {a d m : Int} (ha : 0 ≤ a) (ham : a < m) (hd : 0 ≤ d) (hdm : d < m - 1) : a ≠ (a + 1 + d) % m ∧ 0 ≤ (a + 1 + d) % m ∧ (a + 1 + d) % m < m := by
  have hm : (0 : Int) < m := by omega
  refine ⟨?_, Int.emod_nonneg _ (by omega), Int.emod_lt_of_pos _ hm⟩
  by_cases h : a + 1 + d < m
  · rw [Int.emod_eq_of_lt (by omega) h]; omega
  · have e : (a + 1 + d) % m = a + 1 + d - m := by
      have : (a + 1 + d) % m = (a + 1 + d - m) % m := by rw [Int.sub_emod, Int.emod_self, Int.sub_zero, Int.emod_emod]
      rw [this, Int.emod_eq_of_lt (by omega) (by omega)]
    rw [e]; omega
theorem cut_to {α : Type} {xs : List α} {n : Nat} : cutD xs none (some (n : Int)) = xs.take n := by
  unfold cutD
  rw [HT.sIx_none, HT.sIx_nat, List.drop_zero, Nat.sub_zero, ← List.take_eq_take_min]
theorem cut_from {α : Type} {xs : List α} {n : Nat} (h : n ≤ xs.length) : cutD xs (some (n : Int)) none = xs.drop n := by
  unfold cutD
  rw [HT.sIx_none, HT.sIx_nat, Nat.min_eq_left h, List.take_of_length_le]
  rw [List.length_drop]
  exact Nat.le_refl _
/-! ### the dict of predecessors -/
def aheadD (es : List Lk) : List (Key × D) := es.map fun e => ((Sum.inl e.2 : Key), D.int e.1)
theorem look_ahead {es : List Lk} {x : Int} : lookK (aheadD es) (Sum.inl x : Key) = (es.find? fun e => decide (e.2 = x)).map fun e => D.int e.1 := by
  unfold lookK aheadD
  induction es with
  | nil => rfl
  | cons e es ih =>
    rw [List.map_cons, List.find?_cons, List.find?_cons]
    by_cases h : e.2 = x
    · rw [decide_eq_true h, decide_eq_true (show (Sum.inl e.2 : Key) = Sum.inl x by rw [h])]
      rfl
    · rw [decide_eq_false h, decide_eq_false (show ¬ (Sum.inl e.2 : Key) = Sum.inl x from fun z => h (by injection z))]
      exact ih
theorem look_par {es : List Lk} {x : Int} : (lookK (aheadD es) (Sum.inl x : Key) = none ∧ par es x = x) ∨ lookK (aheadD es) (Sum.inl x : Key) = some (.int (par es x)) := by
  rw [look_ahead]
  unfold par
  cases es.find? fun e => decide (e.2 = x) with
  | none => exact .inl ⟨rfl, rfl⟩
  | some e => exact .inr rfl
theorem some_ahead {es : List Lk} {x : Int} : (lookK (aheadD es) (Sum.inl x : Key)).isSome = decide (x ∈ es.map (·.2)) := by
  rw [look_ahead, Option.isSome_map, Bool.eq_iff_iff, List.find?_isSome, decide_eq_true_iff, List.mem_map]
  simp only [decide_eq_true_eq]
theorem put_ahead {es : List Lk} {t h : Int} (n : h ∉ es.map (·.2)) : putD (aheadD es) (Sum.inl h : Key) (.int t) = aheadD (es ++ [(t, h)]) := by
  unfold putD
  have : ((aheadD es).any fun kv => decide (kv.1 = (Sum.inl h : Key))) = false := by
    rw [List.any_eq_false]
    intro kv hkv
    unfold aheadD at hkv
    obtain ⟨e, he, rfl⟩ := List.mem_map.mp hkv
    rw [decide_eq_true_eq]
    intro z
    exact n (List.mem_map.mpr ⟨e, he, by injection z⟩)
  rw [this, if_neg Bool.false_ne_true]
  unfold aheadD
  rw [List.map_append]
  rfl
theorem heads_snoc {ls : List Lk} {js : List Int} {j : Int} : heads ls (js ++ [j]) = heads ls js ++ [(lk ls j).2] := by
  unfold heads edges
  rw [List.map_append, List.map_append]
  rfl
theorem heads_sub {ls : List Lk} {a b : List Int} : (heads ls (a ++ b)) = heads ls a ++ heads ls b := by
  unfold heads edges
  rw [List.map_append, List.map_append]
theorem map_erase {α β : Type} {f : α → β} : ∀ {xs : List α} {j : Nat}, (xs.map f).eraseIdx j = (xs.eraseIdx j).map f
  | [], _ => rfl
  | _ :: _, 0 => rfl
  | x :: xs, j + 1 => by
    show f x :: (xs.map f).eraseIdx j = f x :: (xs.eraseIdx j).map f
    rw [map_erase]
theorem RS.mono {es fs : List Lk} {ps : List Int} {x : Int} (h : RS es ps x) (s : ∀ e ∈ es, e ∈ fs) : RS fs ps x := by
  induction h with
  | base h => exact .base h
  | step h _ ih => exact .step (s _ h) ih
theorem grown_sort {ls : List Lk} {r : Int} {js : List Int} (hnd : (r :: heads ls js).Nodup) (hr : ∀ j ∈ js, 0 ≤ j ∧ j < ls.length) (hrs : ∀ x ∈ heads ls js, RS (edges ls js) [r] x) : Grown ls [r] (isort js) := by
  have pm := isort_perm js
  rw [List.nodup_cons] at hnd
  have ph : (heads ls (isort js)).Perm (heads ls js) := (pm.map _).map _
  have jnd : js.Nodup := by
    have h := hnd.2
    unfold heads edges at h
    rw [List.map_map] at h
    unfold List.Nodup at h ⊢
    rw [List.pairwise_map] at h
    exact h.imp fun h e => h (by rw [e])
  refine ⟨⟨fun j hj => hr j (pm.mem_iff.mp hj), ?_⟩, ph.nodup_iff.mpr hnd.2, fun x hx hh => ?_, fun x hx => ?_⟩
  · have h1 := isort_sorted js
    have h2 : (isort js).Nodup := pm.nodup_iff.mpr jnd
    exact (h1.and h2).imp fun ⟨a, b⟩ => by omega
  · rw [List.mem_singleton.mp hx] at hh
    exact hnd.1 (ph.mem_iff.mp hh)
  · refine (hrs x (ph.mem_iff.mp hx)).mono fun e he => ?_
    exact (pm.map _).mem_iff.mpr he
theorem at_snoc {α : Type} {xs : List α} {x : α} : atI (xs ++ [x]) (-1) = some x := by
  have e : ixN (xs ++ [x]).length (-1) = some xs.length := by
    unfold ixN
    rw [List.length_append, if_neg (by decide), if_pos (by simp only [List.length_cons, List.length_nil]; omega)]
    congr 1
    simp only [List.length_cons, List.length_nil]
    omega
  unfold atI
  rw [e]
  show (xs ++ [x])[xs.length]? = _
  rw [List.getElem?_append_right (Nat.le_refl _), Nat.sub_self]
  rfl
end Fl

set_option Elab.async false
set_option linter.all false
set_option maxRecDepth 100000
set_option maxHeartbeats 400000
/-! Show: what a law makes and shows -/
namespace Fl
open PySem PySem.Spec PyProof.Rows L2
/-- a thing that a law hands over and shows: with lists (m) or dicts (not m), its text's cost at most k, its depth at most n -/
structure Ob (m : Bool) (k n : Nat) (d : D) : Prop where
  pl : Fl.pl d = true
  sh : ∃ y, d.sh m = some y ∧ y.showable = true ∧ My.dcost y ≤ k ∧ y.depth ≤ n
  len : ∀ es, d = .tup es → es.length ≤ 1000
theorem Ob.mono {m : Bool} {k n k' n' : Nat} {d : D} (h : Ob m k n d) (hk : k ≤ k') (hn : n ≤ n') : Ob m k' n' d := by
  obtain ⟨y, h1, h2, h3, h4⟩ := h.sh
  exact ⟨h.pl, ⟨y, h1, h2, Nat.le_trans h3 hk, Nat.le_trans h4 hn⟩, h.len⟩
theorem obs_all {m : Bool} {k n : Nat} : ∀ {ds : List D}, (∀ d ∈ ds, Ob m k n d) → ∃ ys, shs m ds = some ys ∧ PyData.showableAll ys = true ∧ My.dcost.cAll ys ≤ ds.length * (k + 2) ∧ PyData.depthAll ys ≤ n
  | [], _ => ⟨[], by unfold shs; rfl, rfl, Nat.zero_le _, by simp [PyData.depthAll]⟩
  | d :: ds, h => by
    obtain ⟨ys, h1, h2, h3, h4⟩ := obs_all (ds := ds) fun d hd => h d (List.mem_cons_of_mem _ hd)
    obtain ⟨y, g1, g2, g3, g4⟩ := (h d (by simp)).sh
    refine ⟨y :: ys, ?_, ?_, ?_, ?_⟩
    · unfold shs
      rw [g1]
      simp only [h1]
      rfl
    · show (PyData.showable y && PyData.showableAll ys) = true
      rw [g2, h2]
      rfl
    · show My.dcost y + 2 + My.dcost.cAll ys ≤ _
      rw [List.length_cons, Nat.succ_mul]
      omega
    · simp only [PyData.depthAll]
      omega
theorem Ob.tup {m : Bool} {k n : Nat} {ds : List D} (h : ∀ d ∈ ds, Ob m k n d) (hl : ds.length ≤ 1000) : Ob m (ds.length * (k + 2) + 3) (n + 1) (.tup ds) := by
  obtain ⟨ys, h1, h2, h3, h4⟩ := obs_all h
  refine ⟨pls_of fun d hd => (h d hd).pl, ⟨.tuple ys, ?_, h2, ?_, ?_⟩, fun es e => by cases e; exact hl⟩
  · unfold D.sh
    rw [h1]
    rfl
  · show My.dcost.cAll ys + 3 ≤ _
    omega
  · simp only [PyData.depth]
    omega
theorem Ob.lst {k n : Nat} {ds : List D} (h : ∀ d ∈ ds, Ob true k n d) : Ob true (ds.length * (k + 2) + 3) (n + 1) (.lst ds) := by
  obtain ⟨ys, h1, h2, h3, h4⟩ := obs_all h
  refine ⟨rfl, ⟨.list ys, ?_, h2, ?_, ?_⟩, fun es e => by cases e⟩
  · unfold D.sh
    rw [if_pos rfl, h1]
    rfl
  · show My.dcost.cAll ys + 3 ≤ _
    omega
  · simp only [PyData.depth]
    omega
/-- the numbers that stand in such things -/
def Num (i : Int) : Prop := (-1 ≤ i ∧ i ≤ 100) ∨ i = 10 ^ 30
theorem num_small : ∀ k ∈ List.range 102, PyData.showable (.int ((k : Int) - 1)) = true ∧ My.dcost (.int ((k : Int) - 1)) ≤ 40 := by decide +kernel
theorem num_big : PyData.showable (.int (10 ^ 30)) = true ∧ My.dcost (.int (10 ^ 30)) ≤ 40 := by decide +kernel
theorem Ob.int {m : Bool} {i : Int} (h : Num i) : Ob m 40 1 (.int i) := by
  have key : PyData.showable (.int i) = true ∧ My.dcost (.int i) ≤ 40 := by
    rcases h with h | rfl
    · have := num_small (i + 1).toNat (List.mem_range.mpr (by omega))
      have e : (((i + 1).toNat : Nat) : Int) - 1 = i := by omega
      rw [e] at this
      exact this
    · exact num_big
  exact ⟨rfl, ⟨.int i, by unfold D.sh; rfl, key.1, key.2, by simp [PyData.depth]⟩, fun es e => by cases e⟩
theorem Ob.lot {m : Bool} {js : List Int} (h : ∀ j ∈ js, Num j) (hl : js.length ≤ 100) : Ob m 4300 2 (lotD js) :=
  (Ob.tup (ds := js.map D.int) (fun d hd => by
    obtain ⟨j, hj, rfl⟩ := List.mem_map.mp hd
    exact Ob.int (h j hj)) (by rw [List.length_map]; omega)).mono (by rw [List.length_map]; omega) (Nat.le_refl _)
theorem Ob.non {m : Bool} : Ob m 40 1 .non := ⟨rfl, ⟨.none, by unfold D.sh; rfl, rfl, by decide, by simp [PyData.depth]⟩, fun es e => by cases e⟩
theorem Ob.bl {m : Bool} {b : Bool} : Ob m 40 1 (.bl b) := ⟨rfl, ⟨.bool b, by unfold D.sh; rfl, rfl, by show 5 ≤ 40; decide, by simp [PyData.depth]⟩, fun es e => by cases e⟩
end Fl

set_option Elab.async false
set_option linter.all false
set_option maxRecDepth 100000
set_option maxHeartbeats 1000000
namespace Fl
open PySem PySem.Spec PyProof.Rows L2
local macro_rules | `(tactic| walk_at "fl") => `(tactic| with_reducible conv => whnf)
local macro_rules | `(tactic| walk_at "yes") => `(tactic| ((with_reducible (conv => whnf)); rw [if_pos rfl]; (with_reducible (conv => whnf))))
local macro_rules | `(tactic| walk_at "no") => `(tactic| ((with_reducible (conv => whnf)); rw [if_neg Bool.false_ne_true]; (with_reducible (conv => whnf))))
local macro_rules | `(tactic| walk_at "len") => `(tactic| (first | (simp only [List.length_map, List.length_append, List.length_cons, List.length_nil, List.length_reverse, List.length_replicate]; omega) | (simp only [List.length_map, List.length_append, List.length_cons, List.length_nil, List.length_reverse, List.length_replicate] at *; omega)))
local macro_rules | `(tactic| walk_at "sd") => `(tactic| first | with_reducible rfl | assumption | exact True.intro | omega | walk_at "len" | rfl | decide)
local macro_rules | `(tactic| walk_at "sds") => `(tactic| first | walk_at "sd" | exact And.intro (by walk_at "sd") (by walk_at "sd") | exact And.intro (by walk_at "sd") (And.intro (by walk_at "sd") (by walk_at "sd")) | exact And.intro (And.intro (by walk_at "sd") (by walk_at "sd")) (by walk_at "sd"))
local macro_rules | `(tactic| walk_at "g1") => `(tactic| ((first | refine And.intro (by walk_at "sds") ?_ | with_reducible refine ifT ?_ | with_reducible refine ifF ?_ | with_reducible refine ifNT ?_ | with_reducible refine ifNF ?_ | with_reducible refine Exists.intro _ (And.intro rfl ?_) | refine isi_plain (by walk_at "sd") (by decide) ?_ | refine Exists.intro _ (And.intro (by assumption) ?_) | refine Exists.intro _ (And.intro rfl ?_) | refine Exists.intro _ (Exists.intro _ (Exists.intro _ (And.intro rfl ?_))) | refine Exists.intro _ (Exists.intro _ (And.intro rfl ?_)) | refine Exists.intro _ (Exists.intro _ (Exists.intro _ (Exists.intro _ (And.intro rfl ?_))))); (with_reducible conv => whnf)))
local macro_rules | `(tactic| walk_at "go") => `(tactic| ((with_reducible conv => whnf); repeat walk_at "g1"))
def topS (i : Nat) : Stmt := PySem.Challenge.pw_sparetrees_k11_whole_packings_judged.main.body.getD i (.Pass ⟨0, 0, 0, 0⟩)
def subS (i j : Nat) : Stmt := match topS i with
  | .ClassDef _ _ _ b _ _ _ _ _ _ _ => b.getD j (.Pass ⟨0, 0, 0, 0⟩)
  | st => st
abbrev s_is_integer : Stmt := topS 5
abbrev N_is_integer : List Str := ["thing"]
abbrev P_is_integer : List Str := ["thing"]
theorem sc_is_integer : FnScope N_is_integer P_is_integer (defScope s_is_integer) := ⟨rfl, rfl, rfl, by decide +kernel, rfl, by decide +kernel, by decide +kernel⟩
abbrev s_is_within : Stmt := topS 6
abbrev N_is_within : List Str := ["thing", "least", "most"]
abbrev P_is_within : List Str := ["thing", "least", "most"]
theorem sc_is_within : FnScope N_is_within P_is_within (defScope s_is_within) := ⟨rfl, rfl, rfl, by decide +kernel, rfl, by decide +kernel, by decide +kernel⟩
abbrev s_is_pair : Stmt := topS 7
abbrev N_is_pair : List Str := ["thing"]
abbrev P_is_pair : List Str := ["thing"]
theorem sc_is_pair : FnScope N_is_pair P_is_pair (defScope s_is_pair) := ⟨rfl, rfl, rfl, by decide +kernel, rfl, by decide +kernel, by decide +kernel⟩
abbrev s_is_lot : Stmt := topS 8
abbrev N_is_lot : List Str := ["thing", "many", "last", "number"]
abbrev P_is_lot : List Str := ["thing", "many"]
theorem sc_is_lot : FnScope N_is_lot P_is_lot (defScope s_is_lot) := ⟨rfl, rfl, rfl, by decide +kernel, rfl, by decide +kernel, by decide +kernel⟩
abbrev s_is_link : Stmt := topS 14
abbrev N_is_link : List Str := ["many", "thing", "place"]
abbrev P_is_link : List Str := ["many", "thing"]
theorem sc_is_link : FnScope N_is_link P_is_link (defScope s_is_link) := ⟨rfl, rfl, rfl, by decide +kernel, rfl, by decide +kernel, by decide +kernel⟩
abbrev s_check_net : Stmt := topS 15
abbrev N_check_net : List Str := ["net"]
abbrev P_check_net : List Str := ["net"]
theorem sc_check_net : FnScope N_check_net P_check_net (defScope s_check_net) := ⟨rfl, rfl, rfl, by decide +kernel, rfl, by decide +kernel, by decide +kernel⟩
abbrev s_is_lot_of : Stmt := topS 16
abbrev N_is_lot_of : List Str := ["net", "thing"]
abbrev P_is_lot_of : List Str := ["net", "thing"]
theorem sc_is_lot_of : FnScope N_is_lot_of P_is_lot_of (defScope s_is_lot_of) := ⟨rfl, rfl, rfl, by decide +kernel, rfl, by decide +kernel, by decide +kernel⟩
abbrev s_reached : Stmt := topS 18
abbrev N_reached : List Str := ["net", "lot", "places", "found", "is_longer", "ends", "link", "more", "place"]
abbrev P_reached : List Str := ["net", "lot", "places"]
theorem sc_reached : FnScope N_reached P_reached (defScope s_reached) := ⟨rfl, rfl, rfl, by decide +kernel, rfl, by decide +kernel, by decide +kernel⟩
abbrev s_is_wood : Stmt := topS 19
abbrev N_is_wood : List Str := ["net", "lot", "places", "ends", "link", "place", "heard"]
abbrev P_is_wood : List Str := ["net", "lot", "places"]
theorem sc_is_wood : FnScope N_is_wood P_is_wood (defScope s_is_wood) := ⟨rfl, rfl, rfl, by decide +kernel, rfl, by decide +kernel, by decide +kernel⟩
abbrev s_is_grown : Stmt := topS 20
abbrev N_is_grown : List Str := ["net", "thing"]
abbrev P_is_grown : List Str := ["net", "thing"]
theorem sc_is_grown : FnScope N_is_grown P_is_grown (defScope s_is_grown) := ⟨rfl, rfl, rfl, by decide +kernel, rfl, by decide +kernel, by decide +kernel⟩
abbrev s_is_tree : Stmt := topS 21
abbrev N_is_tree : List Str := ["net", "thing"]
abbrev P_is_tree : List Str := ["net", "thing"]
theorem sc_is_tree : FnScope N_is_tree P_is_tree (defScope s_is_tree) := ⟨rfl, rfl, rfl, by decide +kernel, rfl, by decide +kernel, by decide +kernel⟩
abbrev s_are_apart : Stmt := topS 22
abbrev N_are_apart : List Str := ["lots", "items", "lot"]
abbrev P_are_apart : List Str := ["lots"]
theorem sc_are_apart : FnScope N_are_apart P_are_apart (defScope s_are_apart) := ⟨rfl, rfl, rfl, by decide +kernel, rfl, by decide +kernel, by decide +kernel⟩
abbrev s_is_packing : Stmt := topS 23
abbrev N_is_packing : List Str := ["net", "thing", "tree"]
abbrev P_is_packing : List Str := ["net", "thing"]
theorem sc_is_packing : FnScope N_is_packing P_is_packing (defScope s_is_packing) := ⟨rfl, rfl, rfl, by decide +kernel, rfl, by decide +kernel, by decide +kernel⟩
abbrev s__law_mixed : Stmt := topS 25
abbrev N__law_mixed : List Str := ["_law_cell", "_law_turn", "_law_number"]
abbrev P__law_mixed : List Str := ["_law_cell", "_law_turn"]
theorem sc__law_mixed : FnScope N__law_mixed P__law_mixed (defScope s__law_mixed) := ⟨rfl, rfl, rfl, by decide +kernel, rfl, by decide +kernel, by decide +kernel⟩
abbrev s__law_hand : Stmt := topS 26
abbrev N__law_hand : List Str := ["_law_script", "_law_cell"]
abbrev P__law_hand : List Str := ["_law_script"]
theorem sc__law_hand : FnScope N__law_hand P__law_hand (defScope s__law_hand) := ⟨rfl, rfl, rfl, by decide +kernel, rfl, by decide +kernel, by decide +kernel⟩
abbrev s__law_draw : Stmt := topS 27
abbrev N__law_draw : List Str := ["_law_hand_here", "_law_many", "_law_found", "_law_cells", "_law_at", "_law_cell"]
abbrev P__law_draw : List Str := ["_law_hand_here", "_law_many"]
theorem sc__law_draw : FnScope N__law_draw P__law_draw (defScope s__law_draw) := ⟨rfl, rfl, rfl, by decide +kernel, rfl, by decide +kernel, by decide +kernel⟩
abbrev s__law_is : Stmt := topS 28
abbrev N__law_is : List Str := ["_law_told", "_law_due"]
abbrev P__law_is : List Str := ["_law_told", "_law_due"]
theorem sc__law_is : FnScope N__law_is P__law_is (defScope s__law_is) := ⟨rfl, rfl, rfl, by decide +kernel, rfl, by decide +kernel, by decide +kernel⟩
abbrev s__law_is_int : Stmt := topS 29
abbrev N__law_is_int : List Str := ["_law_thing", "_law_least", "_law_most"]
abbrev P__law_is_int : List Str := ["_law_thing", "_law_least", "_law_most"]
theorem sc__law_is_int : FnScope N__law_is_int P__law_is_int (defScope s__law_is_int) := ⟨rfl, rfl, rfl, by decide +kernel, rfl, by decide +kernel, by decide +kernel⟩
abbrev s__law_is_lot : Stmt := topS 30
abbrev N__law_is_lot : List Str := ["_law_thing", "_law_many", "_law_last", "_law_one"]
abbrev P__law_is_lot : List Str := ["_law_thing", "_law_many"]
theorem sc__law_is_lot : FnScope N__law_is_lot P__law_is_lot (defScope s__law_is_lot) := ⟨rfl, rfl, rfl, by decide +kernel, rfl, by decide +kernel, by decide +kernel⟩
abbrev s__law_shuffled : Stmt := topS 31
abbrev N__law_shuffled : List Str := ["_law_hand_here", "_law_things", "_law_left", "_law_found", "_law_turn"]
abbrev P__law_shuffled : List Str := ["_law_hand_here", "_law_things"]
theorem sc__law_shuffled : FnScope N__law_shuffled P__law_shuffled (defScope s__law_shuffled) := ⟨rfl, rfl, rfl, by decide +kernel, rfl, by decide +kernel, by decide +kernel⟩
abbrev s__law_some_tree : Stmt := topS 32
abbrev N__law_some_tree : List Str := ["_law_hand_here", "_law_many", "_law_root", "_law_heard", "_law_found", "_law_is_deep", "_law_place", "_law_one"]
abbrev P__law_some_tree : List Str := ["_law_hand_here", "_law_many", "_law_root"]
theorem sc__law_some_tree : FnScope N__law_some_tree P__law_some_tree (defScope s__law_some_tree) := ⟨rfl, rfl, rfl, by decide +kernel, rfl, by decide +kernel, by decide +kernel⟩
abbrev s__law_some_links : Stmt := topS 33
abbrev N__law_some_links : List Str := ["_law_hand_here", "_law_many", "_law_most", "_law_found", "_law_turn", "_law_one", "_law_link"]
abbrev P__law_some_links : List Str := ["_law_hand_here", "_law_many", "_law_most"]
theorem sc__law_some_links : FnScope N__law_some_links P__law_some_links (defScope s__law_some_links) := ⟨rfl, rfl, rfl, by decide +kernel, rfl, by decide +kernel, by decide +kernel⟩
abbrev s__law_parts_of : Stmt := topS 34
abbrev N__law_parts_of : List Str := ["_law_hand_here", "_law_many", "_law_root", "_law_kind", "_law_links", "_law_turn"]
abbrev P__law_parts_of : List Str := ["_law_hand_here"]
theorem sc__law_parts_of : FnScope N__law_parts_of P__law_parts_of (defScope s__law_parts_of) := ⟨rfl, rfl, rfl, by decide +kernel, rfl, by decide +kernel, by decide +kernel⟩
abbrev s__law_is_wood : Stmt := topS 35
abbrev N__law_is_wood : List Str := ["_law_parts", "_law_sources", "_law_thing", "_law_many", "_law_links", "_law_ahead", "_law_link", "_law_place", "_law_here", "_law_turn"]
abbrev P__law_is_wood : List Str := ["_law_parts", "_law_sources", "_law_thing"]
theorem sc__law_is_wood : FnScope N__law_is_wood P__law_is_wood (defScope s__law_is_wood) := ⟨rfl, rfl, rfl, by decide +kernel, rfl, by decide +kernel, by decide +kernel⟩
abbrev s__law_are_apart : Stmt := topS 36
abbrev N__law_are_apart : List Str := ["_law_lots", "_law_found", "_law_lot"]
abbrev P__law_are_apart : List Str := ["_law_lots"]
theorem sc__law_are_apart : FnScope N__law_are_apart P__law_are_apart (defScope s__law_are_apart) := ⟨rfl, rfl, rfl, by decide +kernel, rfl, by decide +kernel, by decide +kernel⟩
abbrev s__law_is_packing : Stmt := topS 37
abbrev N__law_is_packing : List Str := ["_law_parts", "_law_thing", "_law_tree"]
abbrev P__law_is_packing : List Str := ["_law_parts", "_law_thing"]
theorem sc__law_is_packing : FnScope N__law_is_packing P__law_is_packing (defScope s__law_is_packing) := ⟨rfl, rfl, rfl, by decide +kernel, rfl, by decide +kernel, by decide +kernel⟩
abbrev s__law_grow : Stmt := topS 38
abbrev N__law_grow : List Str := ["_law_hand_here", "_law_parts", "_law_sources", "_law_free", "_law_most", "_law_links", "_law_heard", "_law_found", "_law_turn", "_law_some", "_law_link"]
abbrev P__law_grow : List Str := ["_law_hand_here", "_law_parts", "_law_sources", "_law_free", "_law_most"]
theorem sc__law_grow : FnScope N__law_grow P__law_grow (defScope s__law_grow) := ⟨rfl, rfl, rfl, by decide +kernel, rfl, by decide +kernel, by decide +kernel⟩
abbrev s__law_grown_trees : Stmt := topS 39
abbrev N__law_grown_trees : List Str := ["_law_hand_here", "_law_parts", "_law_most", "_law_free", "_law_found", "_law_turn", "_law_tree", "_law_link"]
abbrev P__law_grown_trees : List Str := ["_law_hand_here", "_law_parts", "_law_most"]
theorem sc__law_grown_trees : FnScope N__law_grown_trees P__law_grown_trees (defScope s__law_grown_trees) := ⟨rfl, rfl, rfl, by decide +kernel, rfl, by decide +kernel, by decide +kernel⟩
abbrev s__law_odd : Stmt := topS 40
abbrev N__law_odd : List Str := ["_law_hand_here", "_law_odd_here"]
abbrev P__law_odd : List Str := ["_law_hand_here"]
theorem sc__law_odd : FnScope N__law_odd P__law_odd (defScope s__law_odd) := ⟨rfl, rfl, rfl, by decide +kernel, rfl, by decide +kernel, by decide +kernel⟩
abbrev s__law_bent_lot : Stmt := topS 41
abbrev N__law_bent_lot : List Str := ["_law_hand_here", "_law_lot", "_law_many", "_law_kind", "_law_at", "_law_more"]
abbrev P__law_bent_lot : List Str := ["_law_hand_here", "_law_lot", "_law_many"]
theorem sc__law_bent_lot : FnScope N__law_bent_lot P__law_bent_lot (defScope s__law_bent_lot) := ⟨rfl, rfl, rfl, by decide +kernel, rfl, by decide +kernel, by decide +kernel⟩
abbrev s__law_bent : Stmt := topS 42
abbrev N__law_bent : List Str := ["_law_hand_here", "_law_trees", "_law_many", "_law_kind", "_law_at", "_law_other", "_law_place", "_law_tree"]
abbrev P__law_bent : List Str := ["_law_hand_here", "_law_trees", "_law_many"]
theorem sc__law_bent : FnScope N__law_bent P__law_bent (defScope s__law_bent) := ⟨rfl, rfl, rfl, by decide +kernel, rfl, by decide +kernel, by decide +kernel⟩
abbrev s_law : Stmt := topS 43
abbrev N_law : List Str := ["_law_script", "_law_hand_here", "_law_parts", "_law_net", "_law_many", "_law_turn", "_law_trees", "_law_k", "_law_thing", "_law_ahead"]
abbrev P_law : List Str := ["_law_script"]
theorem sc_law : FnScope N_law P_law (defScope s_law) := ⟨rfl, rfl, rfl, by decide +kernel, rfl, by decide +kernel, by decide +kernel⟩
abbrev s_Net___init__ : Stmt := subS 13 0
abbrev N_Net___init__ : List Str := ["self", "many", "root", "links", "number", "link"]
abbrev P_Net___init__ : List Str := ["self", "many", "root", "links"]
theorem sc_Net___init__ : FnScope N_Net___init__ P_Net___init__ (defScope s_Net___init__) := ⟨rfl, rfl, rfl, by decide +kernel, rfl, by decide +kernel, by decide +kernel⟩
structure Ad where
  a_is_integer : Addr
  d_is_integer : FuncData
  a_is_within : Addr
  d_is_within : FuncData
  a_is_pair : Addr
  d_is_pair : FuncData
  a_is_lot : Addr
  d_is_lot : FuncData
  a_is_link : Addr
  d_is_link : FuncData
  a_check_net : Addr
  d_check_net : FuncData
  a_is_lot_of : Addr
  d_is_lot_of : FuncData
  a_reached : Addr
  d_reached : FuncData
  a_is_wood : Addr
  d_is_wood : FuncData
  a_is_grown : Addr
  d_is_grown : FuncData
  a_is_tree : Addr
  d_is_tree : FuncData
  a_are_apart : Addr
  d_are_apart : FuncData
  a_is_packing : Addr
  d_is_packing : FuncData
  a__law_mixed : Addr
  d__law_mixed : FuncData
  a__law_hand : Addr
  d__law_hand : FuncData
  a__law_draw : Addr
  d__law_draw : FuncData
  a__law_is : Addr
  d__law_is : FuncData
  a__law_is_int : Addr
  d__law_is_int : FuncData
  a__law_is_lot : Addr
  d__law_is_lot : FuncData
  a__law_shuffled : Addr
  d__law_shuffled : FuncData
  a__law_some_tree : Addr
  d__law_some_tree : FuncData
  a__law_some_links : Addr
  d__law_some_links : FuncData
  a__law_parts_of : Addr
  d__law_parts_of : FuncData
  a__law_is_wood : Addr
  d__law_is_wood : FuncData
  a__law_are_apart : Addr
  d__law_are_apart : FuncData
  a__law_is_packing : Addr
  d__law_is_packing : FuncData
  a__law_grow : Addr
  d__law_grow : FuncData
  a__law_grown_trees : Addr
  d__law_grown_trees : FuncData
  a__law_odd : Addr
  d__law_odd : FuncData
  a__law_bent_lot : Addr
  d__law_bent_lot : FuncData
  a__law_bent : Addr
  d__law_bent : FuncData
  a_law : Addr
  d_law : FuncData
  a_Net___init__ : Addr
  d_Net___init__ : FuncData
  e_TreeError : Addr
  e_BadNet : Addr
  e_NoNet : Addr
  e_Net : Addr
structure Txt (K : PySem.W.Frag) (mg : Str → Option Value) (A : Ad) : Prop where
  m_is_integer : mg "is_integer" = some (.ref A.a_is_integer)
  F_is_integer : Fun K "is_integer" "is_integer" s_is_integer A.a_is_integer A.d_is_integer
  B_is_integer : Binds K A.d_is_integer P_is_integer []
  m_is_within : mg "is_within" = some (.ref A.a_is_within)
  F_is_within : Fun K "is_within" "is_within" s_is_within A.a_is_within A.d_is_within
  B_is_within : Binds K A.d_is_within P_is_within []
  m_is_pair : mg "is_pair" = some (.ref A.a_is_pair)
  F_is_pair : Fun K "is_pair" "is_pair" s_is_pair A.a_is_pair A.d_is_pair
  B_is_pair : Binds K A.d_is_pair P_is_pair []
  m_is_lot : mg "is_lot" = some (.ref A.a_is_lot)
  F_is_lot : Fun K "is_lot" "is_lot" s_is_lot A.a_is_lot A.d_is_lot
  B_is_lot : Binds K A.d_is_lot P_is_lot []
  m_is_link : mg "is_link" = some (.ref A.a_is_link)
  F_is_link : Fun K "is_link" "is_link" s_is_link A.a_is_link A.d_is_link
  B_is_link : Binds K A.d_is_link P_is_link []
  m_check_net : mg "check_net" = some (.ref A.a_check_net)
  F_check_net : Fun K "check_net" "check_net" s_check_net A.a_check_net A.d_check_net
  B_check_net : Binds K A.d_check_net P_check_net []
  m_is_lot_of : mg "is_lot_of" = some (.ref A.a_is_lot_of)
  F_is_lot_of : Fun K "is_lot_of" "is_lot_of" s_is_lot_of A.a_is_lot_of A.d_is_lot_of
  B_is_lot_of : Binds K A.d_is_lot_of P_is_lot_of []
  m_reached : mg "reached" = some (.ref A.a_reached)
  F_reached : Fun K "reached" "reached" s_reached A.a_reached A.d_reached
  B_reached : Binds K A.d_reached P_reached []
  m_is_wood : mg "is_wood" = some (.ref A.a_is_wood)
  F_is_wood : Fun K "is_wood" "is_wood" s_is_wood A.a_is_wood A.d_is_wood
  B_is_wood : Binds K A.d_is_wood P_is_wood []
  m_is_grown : mg "is_grown" = some (.ref A.a_is_grown)
  F_is_grown : Fun K "is_grown" "is_grown" s_is_grown A.a_is_grown A.d_is_grown
  B_is_grown : Binds K A.d_is_grown P_is_grown []
  m_is_tree : mg "is_tree" = some (.ref A.a_is_tree)
  F_is_tree : Fun K "is_tree" "is_tree" s_is_tree A.a_is_tree A.d_is_tree
  B_is_tree : Binds K A.d_is_tree P_is_tree []
  m_are_apart : mg "are_apart" = some (.ref A.a_are_apart)
  F_are_apart : Fun K "are_apart" "are_apart" s_are_apart A.a_are_apart A.d_are_apart
  B_are_apart : Binds K A.d_are_apart P_are_apart []
  m_is_packing : mg "is_packing" = some (.ref A.a_is_packing)
  F_is_packing : Fun K "is_packing" "is_packing" s_is_packing A.a_is_packing A.d_is_packing
  B_is_packing : Binds K A.d_is_packing P_is_packing []
  m__law_mixed : mg "_law_mixed" = some (.ref A.a__law_mixed)
  F__law_mixed : Fun K "_law_mixed" "_law_mixed" s__law_mixed A.a__law_mixed A.d__law_mixed
  B__law_mixed : Binds K A.d__law_mixed P__law_mixed []
  m__law_hand : mg "_law_hand" = some (.ref A.a__law_hand)
  F__law_hand : Fun K "_law_hand" "_law_hand" s__law_hand A.a__law_hand A.d__law_hand
  B__law_hand : Binds K A.d__law_hand P__law_hand []
  m__law_draw : mg "_law_draw" = some (.ref A.a__law_draw)
  F__law_draw : Fun K "_law_draw" "_law_draw" s__law_draw A.a__law_draw A.d__law_draw
  B__law_draw : Binds K A.d__law_draw P__law_draw []
  m__law_is : mg "_law_is" = some (.ref A.a__law_is)
  F__law_is : Fun K "_law_is" "_law_is" s__law_is A.a__law_is A.d__law_is
  B__law_is : Binds K A.d__law_is P__law_is []
  m__law_is_int : mg "_law_is_int" = some (.ref A.a__law_is_int)
  F__law_is_int : Fun K "_law_is_int" "_law_is_int" s__law_is_int A.a__law_is_int A.d__law_is_int
  B__law_is_int : Binds K A.d__law_is_int P__law_is_int []
  m__law_is_lot : mg "_law_is_lot" = some (.ref A.a__law_is_lot)
  F__law_is_lot : Fun K "_law_is_lot" "_law_is_lot" s__law_is_lot A.a__law_is_lot A.d__law_is_lot
  B__law_is_lot : Binds K A.d__law_is_lot P__law_is_lot []
  m__law_shuffled : mg "_law_shuffled" = some (.ref A.a__law_shuffled)
  F__law_shuffled : Fun K "_law_shuffled" "_law_shuffled" s__law_shuffled A.a__law_shuffled A.d__law_shuffled
  B__law_shuffled : Binds K A.d__law_shuffled P__law_shuffled []
  m__law_some_tree : mg "_law_some_tree" = some (.ref A.a__law_some_tree)
  F__law_some_tree : Fun K "_law_some_tree" "_law_some_tree" s__law_some_tree A.a__law_some_tree A.d__law_some_tree
  B__law_some_tree : Binds K A.d__law_some_tree P__law_some_tree []
  m__law_some_links : mg "_law_some_links" = some (.ref A.a__law_some_links)
  F__law_some_links : Fun K "_law_some_links" "_law_some_links" s__law_some_links A.a__law_some_links A.d__law_some_links
  B__law_some_links : Binds K A.d__law_some_links P__law_some_links []
  m__law_parts_of : mg "_law_parts_of" = some (.ref A.a__law_parts_of)
  F__law_parts_of : Fun K "_law_parts_of" "_law_parts_of" s__law_parts_of A.a__law_parts_of A.d__law_parts_of
  B__law_parts_of : Binds K A.d__law_parts_of P__law_parts_of []
  m__law_is_wood : mg "_law_is_wood" = some (.ref A.a__law_is_wood)
  F__law_is_wood : Fun K "_law_is_wood" "_law_is_wood" s__law_is_wood A.a__law_is_wood A.d__law_is_wood
  B__law_is_wood : Binds K A.d__law_is_wood P__law_is_wood []
  m__law_are_apart : mg "_law_are_apart" = some (.ref A.a__law_are_apart)
  F__law_are_apart : Fun K "_law_are_apart" "_law_are_apart" s__law_are_apart A.a__law_are_apart A.d__law_are_apart
  B__law_are_apart : Binds K A.d__law_are_apart P__law_are_apart []
  m__law_is_packing : mg "_law_is_packing" = some (.ref A.a__law_is_packing)
  F__law_is_packing : Fun K "_law_is_packing" "_law_is_packing" s__law_is_packing A.a__law_is_packing A.d__law_is_packing
  B__law_is_packing : Binds K A.d__law_is_packing P__law_is_packing []
  m__law_grow : mg "_law_grow" = some (.ref A.a__law_grow)
  F__law_grow : Fun K "_law_grow" "_law_grow" s__law_grow A.a__law_grow A.d__law_grow
  B__law_grow : Binds K A.d__law_grow P__law_grow []
  m__law_grown_trees : mg "_law_grown_trees" = some (.ref A.a__law_grown_trees)
  F__law_grown_trees : Fun K "_law_grown_trees" "_law_grown_trees" s__law_grown_trees A.a__law_grown_trees A.d__law_grown_trees
  B__law_grown_trees : Binds K A.d__law_grown_trees P__law_grown_trees []
  m__law_odd : mg "_law_odd" = some (.ref A.a__law_odd)
  F__law_odd : Fun K "_law_odd" "_law_odd" s__law_odd A.a__law_odd A.d__law_odd
  B__law_odd : Binds K A.d__law_odd P__law_odd []
  m__law_bent_lot : mg "_law_bent_lot" = some (.ref A.a__law_bent_lot)
  F__law_bent_lot : Fun K "_law_bent_lot" "_law_bent_lot" s__law_bent_lot A.a__law_bent_lot A.d__law_bent_lot
  B__law_bent_lot : Binds K A.d__law_bent_lot P__law_bent_lot []
  m__law_bent : mg "_law_bent" = some (.ref A.a__law_bent)
  F__law_bent : Fun K "_law_bent" "_law_bent" s__law_bent A.a__law_bent A.d__law_bent
  B__law_bent : Binds K A.d__law_bent P__law_bent []
  m_law : mg "law" = some (.ref A.a_law)
  F_law : Fun K "law" "law" s_law A.a_law A.d_law
  B_law : Binds K A.d_law P_law []
  F_Net___init__ : Fun K "__init__" "Net.__init__" s_Net___init__ A.a_Net___init__ A.d_Net___init__
  B_Net___init__ : Binds K A.d_Net___init__ P_Net___init__ []
  mk_Net : Mk K A.e_Net A.a_Net___init__
  c_LEAST_PLACES : ∃ t, mg "LEAST_PLACES" = some (.int 2 t)
  c_MOST_PLACES : ∃ t, mg "MOST_PLACES" = some (.int 10 t)
  c_MOST_LINKS : ∃ t, mg "MOST_LINKS" = some (.int 60 t)
  b_abs : mg "abs" = none
  b_all : mg "all" = none
  b_any : mg "any" = none
  b_bool : mg "bool" = none
  b_enumerate : mg "enumerate" = none
  b_int : mg "int" = none
  b_isinstance : mg "isinstance" = none
  b_len : mg "len" = none
  b_list : mg "list" = none
  b_max : mg "max" = none
  b_range : mg "range" = none
  b_repr : mg "repr" = none
  b_set : mg "set" = none
  b_sorted : mg "sorted" = none
  b_tuple : mg "tuple" = none
  g_Net : mg "Net" = some (.ref A.e_Net)
  l_Net : Cls K A.e_Net
  i_Net : InsK K A.e_Net
  j_Net : NotB K A.e_Net
  n_Net_links : NoAttr K A.e_Net "links"
  n_Net_many : NoAttr K A.e_Net "many"
  n_Net_root : NoAttr K A.e_Net "root"
@[reducible] def netD (A : Ad) (m r : Int) (ls : List Lk) : D := .ins A.e_Net [("many", .int m), ("root", .int r), ("links", .tup (ls.map pairD))]
@[reducible] def partsD (m r : Int) (ls : List Lk) : D := .tup [.int m, .int r, .tup (ls.map pairD)]
/-- the hand: the cells, the place, what is left of a big cell, the turns -/
def HandOk (d : D) : Prop := ∃ (ms : List Int) (i b t : Int), d = handD ms [i, b, t] ∧ 0 ≤ i ∧ 0 ≤ b
@[reducible] def sp_check_net (K : PySem.W.Frag) (A : Ad) : FSp := fun as Q _ => match as with
  | [.dv n] => ∃ m r ls, n = netD A m r ls ∧ Q (.val .non) [.dv n]
  | _ => False
@[reducible] def sp_is_integer (K : PySem.W.Frag) (A : Ad) : FSp := fun as Q _ => match as with
  | [.dv x] => plainD x = true ∧ Q (.val (.bl (isInt x))) [.dv x]
  | _ => False
@[reducible] def sp_is_within (K : PySem.W.Frag) (A : Ad) : FSp := fun as Q _ => match as with
  | [.dv x, .dv (.int lo), .dv (.int hi)] => plainD x = true ∧ Q (.val (.bl (withinD x lo hi))) [.dv x, .dv (.int lo), .dv (.int hi)]
  | _ => False
@[reducible] def sp_is_lot (K : PySem.W.Frag) (A : Ad) : FSp := fun as Q _ => match as with
  | [.dv x, .dv (.int m)] => pl x = true ∧ Q (.val (.bl (lotB m x))) [.dv x, .dv (.int m)]
  | _ => False
@[reducible] def sp_is_lot_of (K : PySem.W.Frag) (A : Ad) : FSp := fun as Q _ => match as with
  | [.dv n, .dv x] => ∃ m r ls, n = netD A m r ls ∧ pl x = true ∧ Q (.val (.bl (lotB ls.length x))) [.dv n, .dv x]
  | _ => False
@[reducible] def sp_reached (K : PySem.W.Frag) (A : Ad) : FSp := fun as Q _ => match as with
  | [.dv n, .dv x, .dv y] => ∃ m r ls js ps, n = netD A m r ls ∧ NetOk m r ls ∧ x = lotD js ∧ Lot ls.length js ∧ y = .lst (ps.map D.int) ∧ ps.Nodup ∧ (∀ p ∈ ps, 0 ≤ p ∧ p < m) ∧
    ∀ found : List Int, (∀ z, z ∈ found ↔ RS (edges ls js) ps z) → Q (.new (.lst (found.map D.int))) [.dv n, .dv x, .dv y]
  | _ => False
@[reducible] def sp_is_wood (K : PySem.W.Frag) (A : Ad) : FSp := fun as Q _ => match as with
  | [.dv n, .dv x, .dv y] => ∃ m r ls js ps, n = netD A m r ls ∧ NetOk m r ls ∧ x = lotD js ∧ Lot ls.length js ∧ y = .lst (ps.map D.int) ∧ ps.Nodup ∧ (∀ p ∈ ps, 0 ≤ p ∧ p < m) ∧
    ∀ b : Bool, (b = true ↔ Grown ls ps js) → Q (.val (.bl b)) [.dv n, .dv x, .dv y]
  | _ => False
@[reducible] def sp_is_grown (K : PySem.W.Frag) (A : Ad) : FSp := fun as Q _ => match as with
  | [.dv n, .dv x] => ∃ m r ls, n = netD A m r ls ∧ NetOk m r ls ∧ pl x = true ∧ ∀ b : Bool, (b = true ↔ ∃ js, x = lotD js ∧ Grown ls [r] js) → Q (.val (.bl b)) [.dv n, .dv x]
  | _ => False
@[reducible] def sp_is_tree (K : PySem.W.Frag) (A : Ad) : FSp := fun as Q _ => match as with
  | [.dv n, .dv x] => ∃ m r ls, n = netD A m r ls ∧ NetOk m r ls ∧ pl x = true ∧ ∀ b : Bool, (b = true ↔ IsTree m r ls x) → Q (.val (.bl b)) [.dv n, .dv x]
  | _ => False
@[reducible] def sp_are_apart (K : PySem.W.Frag) (A : Ad) : FSp := fun as Q _ => match as with
  | [.dv x] => ∃ jss : List (List Int), x = .tup (jss.map lotD) ∧ jss.flatten.length ≤ 1000 ∧ Q (.val (.bl (decide jss.flatten.Nodup))) [.dv x]
  | _ => False
@[reducible] def sp_is_packing (K : PySem.W.Frag) (A : Ad) : FSp := fun as Q _ => match as with
  | [.dv n, .dv x] => ∃ m r ls, n = netD A m r ls ∧ NetOk m r ls ∧ pl x = true ∧ (∀ ds, x = .tup ds → ds.length ≤ 100) ∧ ∀ b : Bool, (b = true ↔ IsPack m r ls x) → Q (.val (.bl b)) [.dv n, .dv x]
  | _ => False
@[reducible] def sp__law_is (K : PySem.W.Frag) (A : Ad) : FSp := fun as Q _ => match as with
  | [.dv (.bl a), .dv (.bl b)] => Q (.val (.bl (decide (a = b)))) [.dv (.bl a), .dv (.bl b)]
  | _ => False
@[reducible] def sp__law_mixed (K : PySem.W.Frag) (A : Ad) : FSp := fun as Q _ => match as with
  | [.dv (.int c), .dv (.int t)] => ∀ r : Int, Q (.val (.int r)) [.dv (.int c), .dv (.int t)]
  | _ => False
@[reducible] def sp__law_draw (K : PySem.W.Frag) (A : Ad) : FSp := fun as Q _ => match as with
  | [.ob x, .dv (.int n)] => HandOk x ∧ (0 < n ∧ n ≤ 1000000) ∧ ∀ (y : D) (r : Int), HandOk y → 0 ≤ r → r < n → Q (.val (.int r)) [.ob y, .dv (.int n)]
  | _ => False
@[reducible] def sp__law_shuffled (K : PySem.W.Frag) (A : Ad) : FSp := fun as Q _ => match as with
  | [.ob x, .dv y] => HandOk x ∧ ∃ ds, (y = .lst ds ∨ y = .tup ds) ∧ ds.length ≤ 1000 ∧ ∀ (x' : D) (es : List D), HandOk x' → es.Perm ds → Q (.new (.lst es)) [.ob x', .dv y]
  | _ => False
@[reducible] def sp__law_some_tree (K : PySem.W.Frag) (A : Ad) : FSp := fun as Q _ => match as with
  | [.ob x, .dv (.int m), .dv (.int r)] => HandOk x ∧ (2 ≤ m ∧ m ≤ 10) ∧ (0 ≤ r ∧ r < m) ∧ ∀ (x' : D) (ls : List Lk), HandOk x' → Good m ls → ls.length ≤ 10 → Q (.new (.lst (ls.map pairD))) [.ob x', .dv (.int m), .dv (.int r)]
  | _ => False
@[reducible] def sp__law_some_links (K : PySem.W.Frag) (A : Ad) : FSp := fun as Q _ => match as with
  | [.ob x, .dv (.int m), .dv (.int n)] => HandOk x ∧ (2 ≤ m ∧ m ≤ 10) ∧ (0 ≤ n ∧ n ≤ 100) ∧ ∀ (x' : D) (ls : List Lk), HandOk x' → Good m ls → ls.length ≤ 100 → Q (.new (.lst (ls.map pairD))) [.ob x', .dv (.int m), .dv (.int n)]
  | _ => False
@[reducible] def sp__law_parts_of (K : PySem.W.Frag) (A : Ad) : FSp := fun as Q _ => match as with
  | [.ob x] => HandOk x ∧ ∀ (x' : D) (m r : Int) (ls : List Lk), HandOk x' → NetOk m r ls → Q (.val (partsD m r ls)) [.ob x']
  | _ => False
@[reducible] def sp__law_is_int (K : PySem.W.Frag) (A : Ad) : FSp := sp_is_within K A
@[reducible] def sp__law_is_lot (K : PySem.W.Frag) (A : Ad) : FSp := sp_is_lot K A
@[reducible] def sp__law_is_wood (K : PySem.W.Frag) (A : Ad) : FSp := fun as Q _ => match as with
  | [.dv n, .dv y, .dv x] => ∃ m r ls, n = partsD m r ls ∧ NetOk m r ls ∧ y = .tup [.int r] ∧ pl x = true ∧ (∀ ds, x = .tup ds → ds.length ≤ 1000000) ∧ ∀ b : Bool, (b = true ↔ IsTree m r ls x) → Q (.val (.bl b)) [.dv n, .dv y, .dv x]
  | _ => False
@[reducible] def sp__law_are_apart (K : PySem.W.Frag) (A : Ad) : FSp := sp_are_apart K A
@[reducible] def sp__law_is_packing (K : PySem.W.Frag) (A : Ad) : FSp := fun as Q _ => match as with
  | [.dv n, .dv x] => ∃ m r ls, n = partsD m r ls ∧ NetOk m r ls ∧ pl x = true ∧ (∀ ds, x = .tup ds → ds.length ≤ 100 ∧ ∀ d ∈ ds, ∀ es, d = .tup es → es.length ≤ 1000000) ∧ ∀ b : Bool, (b = true ↔ IsPack m r ls x) → Q (.val (.bl b)) [.dv n, .dv x]
  | _ => False
@[reducible] def sp__law_grow (K : PySem.W.Frag) (A : Ad) : FSp := fun as Q _ => match as with
  | [.ob x, .dv n, .dv y, .dv z, .dv (.int k)] => HandOk x ∧ ∃ (m r : Int) (ls : List Lk) (free : List Int), n = partsD m r ls ∧ NetOk m r ls ∧ y = .lst [.int r] ∧ z = .lst (free.map D.int) ∧ (∀ j ∈ free, 0 ≤ j ∧ j < ls.length) ∧ free.length ≤ 60 ∧ (0 ≤ k ∧ k ≤ 1000) ∧
    ∀ (x' : D) (js : List Int), HandOk x' → Grown ls [r] js → (∀ j ∈ js, j ∈ free) → Q (.val (lotD js)) [.ob x', .dv n, .dv y, .dv z, .dv (.int k)]
  | _ => False
@[reducible] def sp__law_grown_trees (K : PySem.W.Frag) (A : Ad) : FSp := fun as Q _ => match as with
  | [.ob x, .dv n, .dv (.int k)] => HandOk x ∧ ∃ (m r : Int) (ls : List Lk), n = partsD m r ls ∧ NetOk m r ls ∧ (0 ≤ k ∧ k ≤ 100) ∧
    ∀ (x' : D) (jss : List (List Int)), HandOk x' → (∀ js ∈ jss, IsTree m r ls (lotD js)) → jss.flatten.Nodup → (jss.length : Int) ≤ k → Q (.val (.tup (jss.map lotD))) [.ob x', .dv n, .dv (.int k)]
  | _ => False
def oddL : List D := [.non, .bl true, .int (-1), .int 61, .str "0", .str "", .lst [], .dic [], .tup [.non], .tup [.str "a"], .tup [.bl true], .tup [.int 0, .int 0], .tup [.int 1, .int 0], .tup [.int (-1)], .lst [.int 0], .tup [.int (10 ^ 30)], .tup [.tup []], .tup [.lst [.int 0]], .dic [(Sum.inl 0, .int 1)], .tup [.int 0, .tup [.int 1]]]
def TwoOk (x : D) : Prop := ∀ ds, x = .tup ds → ds.length ≤ 100 ∧ ∀ d ∈ ds, ∀ es, d = .tup es → es.length ≤ 1000000
@[reducible] def sp__law_odd (K : PySem.W.Frag) (A : Ad) : FSp := fun as Q _ => match as with
  | [.ob x] => HandOk x ∧ ∀ (x' d : D), HandOk x' → (∃ m, Ob m 1000 5 d) → TwoOk d → Q (.val d) [.ob x']
  | _ => False
@[reducible] def sp__law_bent_lot (K : PySem.W.Frag) (A : Ad) : FSp := fun as Q _ => match as with
  | [.ob x, .dv y, .dv (.int n)] => HandOk x ∧ ∃ js : List Int, y = lotD js ∧ js.length ≤ 10 ∧ (∀ j ∈ js, 0 ≤ j ∧ j ≤ 100) ∧ (0 ≤ n ∧ n ≤ 100) ∧ ∀ (x' d : D), HandOk x' → (∃ m, Ob m 4300 5 d) → Q (.val d) [.ob x', .dv y, .dv (.int n)]
  | _ => False
theorem ob_len {m : Bool} {k n : Nat} {ds : List D} (h : ∀ d ∈ ds, Ob m k n d) (hl : ds.length ≤ 100) : TwoOk (.tup ds) := fun es e => by
  cases e
  exact ⟨hl, fun d hd es e => Nat.le_trans ((h d hd).len es e) (by decide)⟩
@[reducible] def sp__law_bent (K : PySem.W.Frag) (A : Ad) : FSp := fun as Q _ => match as with
  | [.ob x, .dv y, .dv (.int n)] => HandOk x ∧ ∃ jss : List (List Int), y = .tup (jss.map lotD) ∧ jss.length ≤ 12 ∧ (∀ js ∈ jss, (1 ≤ js.length ∧ js.length ≤ 9) ∧ ∀ j ∈ js, 0 ≤ j ∧ j ≤ 100) ∧ (0 ≤ n ∧ n ≤ 100) ∧
    ∀ (x' d : D), HandOk x' → (∃ m, Ob m 130000 7 d) → TwoOk d → Q (.val d) [.ob x', .dv y, .dv (.int n)]
  | _ => False
@[reducible] def sp_is_pair (K : PySem.W.Frag) (A : Ad) : FSp := fun as Q _ => match as with
  | [.dv x] => plainD x = true ∧ Q (.val (.bl (pairB x))) [.dv x]
  | _ => False
@[reducible] def sp_is_link (K : PySem.W.Frag) (A : Ad) : FSp := fun as Q _ => match as with
  | [.dv (.int m), .dv x] => ∃ a b : Int, x = pairD (a, b) ∧ (0 ≤ a ∧ a < m) ∧ (0 ≤ b ∧ b < m) ∧ a ≠ b ∧ Q (.val (.bl true)) [.dv (.int m), .dv x]
  | _ => False
@[reducible] def sp_Net___init__ (K : PySem.W.Frag) (A : Ad) : FSp := fun as Q _ => match as with
  | [.ob (.ins C []), .dv (.int m), .dv (.int r), .dv x] => C = A.e_Net ∧ ∃ ls : List Lk, x = .tup (ls.map pairD) ∧ NetOk m r ls ∧ Q (.val .non) [.ob (netD A m r ls), .dv (.int m), .dv (.int r), .dv x]
  | _ => False
@[reducible] def ws_check_net (K : PySem.W.Frag) (A : Ad) : Ws := (wIfS (wNot (wTst (wCB (opIsi K) (wCons (wVar 0) (wCons (wC (.adr A.e_Net)) wNil))))) wNoS
  wNext)
@[reducible] def ws_is_integer (K : PySem.W.Frag) (A : Ad) : Ws := (wRet (wAndT (wCB (opIsi K) (wCons (wVar 0) (wCons (wC (.ty "int")) wNil))) (wNotT (wCB (opIsi K) (wCons (wVar 0) (wCons (wC (.ty "bool")) wNil))))))
@[reducible] def ws_is_within (K : PySem.W.Frag) (A : Ad) : Ws := (wRet (wAndT (wCall [false] (sp_is_integer K A) [] (wCons (wVar 0) wNil)) (wCh (opCmp fun i j => decide (i ≤ j)) (opCmp fun i j => decide (i ≤ j)) (wVar 1) (wVar 0) (wVar 2))))
@[reducible] def ws_is_lot (K : PySem.W.Frag) (A : Ad) : Ws := (wSeq (wIfS (wNot (wTst (wCB (opIsi K) (wCons (wVar 0) (wCons (wC (.ty "tuple")) wNil))))) (wRet (wC (.bl false)))
  wNext)
  (wSeq (wAsg (wUn opNeg (wC (.int 1))) (wName 2))
  (wSeq (wForI (wSeqI (wVar 0)) (wName 3) (wSeq (wIfS (wNot (wTst (wCall [false, false, false] (sp_is_within K A) [] (wCons (wVar 3) (wCons (wOp2 opAdd (wVar 2) (wC (.int 1))) (wCons (wOp2 opSub (wVar 1) (wC (.int 1))) wNil)))))) (wRet (wC (.bl false)))
  wNext)
  (wAsg (wVar 3) (wName 2))))
  (wRet (wC (.bl true))))))
@[reducible] def ws_is_lot_of (K : PySem.W.Frag) (A : Ad) : Ws := (wRet (wCall [false, false] (sp_is_lot K A) [] (wCons (wVar 1) (wCons (wCB opLen (wCons (wFld A.e_Net "links" (wVar 0)) wNil)) wNil))))
@[reducible] def ws_reached (K : PySem.W.Frag) (A : Ad) : Ws := (wSeq (wAsg (wCB opList (wCons (wVar 2) wNil)) (wName 3))
  (wSeq (wAsg (wC (.bl true)) (wName 4))
  (wSeq (wWhile (wTst (wVar 4)) (wSeq (wAsg (wLcI [6] (wSeqI (wVar 1)) (wName 6) (wTst (wOp2 opIn (wOp2 opIx (wOp2 opIx (wFld A.e_Net "links" (wVar 0)) (wVar 6)) (wC (.int 0))) (wVar 3))) (wOp2 opIx (wOp2 opIx (wFld A.e_Net "links" (wVar 0)) (wVar 6)) (wC (.int 1)))) (wName 5))
  (wSeq (wAsg (wCB opSorted (wCons (wCB opSet (wCons (wLcI [8] (wSeqI (wVar 5)) (wName 8) (wTst (wOp2 opNi (wVar 8) (wVar 3))) (wVar 8)) wNil)) wNil)) (wName 7))
  (wSeq (wAsg (wOp2 (opCmp fun i j => decide (j < i)) (wCB opLen (wCons (wVar 7) wNil)) (wC (.int 0))) (wName 4))
  (wDrop (wMt "list" opExtend (wVar 3) (wCons (wVar 7) wNil)))))))
  (wRet (wVar 3)))))
@[reducible] def ws_is_wood (K : PySem.W.Frag) (A : Ad) : Ws := (wSeq (wAsg (wLcI [4] (wSeqI (wVar 1)) (wName 4) wAny (wOp2 opIx (wOp2 opIx (wFld A.e_Net "links" (wVar 0)) (wVar 4)) (wC (.int 1)))) (wName 3))
  (wSeq (wIfS (wOr (wTst (wOp2 opLt (wCB opLen (wCons (wCB opSet (wCons (wVar 3) wNil)) wNil)) (wCB opLen (wCons (wVar 3) wNil)))) (wTst (wCB (opFlags fun bs => bs.any id) (wCons (wLcI [5] (wSeqI (wVar 2)) (wName 5) wAny (wOp2 opIn (wVar 5) (wVar 3))) wNil)))) (wRet (wC (.bl false)))
  wNext)
  (wSeq (wAsg (wCall [false, false, false] (sp_reached K A) [] (wCons (wVar 0) (wCons (wVar 1) (wCons (wVar 2) wNil)))) (wName 6))
  (wRet (wCB (opFlags fun bs => bs.all id) (wCons (wLcI [5] (wSeqI (wVar 3)) (wName 5) wAny (wOp2 opIn (wVar 5) (wVar 6))) wNil))))))
@[reducible] def ws_is_grown (K : PySem.W.Frag) (A : Ad) : Ws := (wSeq (wDrop (wCall [false] (sp_check_net K A) [] (wCons (wVar 0) wNil)))
  (wRet (wAndT (wCall [false, false] (sp_is_lot_of K A) [] (wCons (wVar 0) (wCons (wVar 1) wNil))) (wCall [false, false, false] (sp_is_wood K A) [] (wCons (wVar 0) (wCons (wVar 1) (wCons (wLst (wCons (wFld A.e_Net "root" (wVar 0)) wNil)) wNil)))))))
@[reducible] def ws_is_tree (K : PySem.W.Frag) (A : Ad) : Ws := (wRet (wAndT (wCall [false, false] (sp_is_grown K A) [] (wCons (wVar 0) (wCons (wVar 1) wNil))) (wOp2 opEq (wCB opLen (wCons (wVar 1) wNil)) (wOp2 opSub (wFld A.e_Net "many" (wVar 0)) (wC (.int 1))))))
@[reducible] def ws_are_apart (K : PySem.W.Frag) (A : Ad) : Ws := (wSeq (wAsg (wLst wNil) (wName 1))
  (wSeq (wForI (wSeqI (wVar 0)) (wName 2) (wDrop (wMt "list" opExtend (wVar 1) (wCons (wVar 2) wNil))))
  (wRet (wOp2 opEq (wCB opLen (wCons (wCB opSet (wCons (wVar 1) wNil)) wNil)) (wCB opLen (wCons (wVar 1) wNil))))))
@[reducible] def ws_is_packing (K : PySem.W.Frag) (A : Ad) : Ws := (wSeq (wDrop (wCall [false] (sp_check_net K A) [] (wCons (wVar 0) wNil)))
  (wSeq (wIfS (wOr (wNot (wTst (wCB (opIsi K) (wCons (wVar 1) (wCons (wC (.ty "tuple")) wNil))))) (wNot (wTst (wCB (opFlags fun bs => bs.all id) (wCons (wLcI [2] (wSeqI (wVar 1)) (wName 2) wAny (wCall [false, false] (sp_is_tree K A) [] (wCons (wVar 0) (wCons (wVar 2) wNil)))) wNil))))) (wRet (wC (.bl false)))
  wNext)
  (wRet (wCall [false] (sp_are_apart K A) [] (wCons (wVar 1) wNil)))))
@[reducible] def ws__law_is (K : PySem.W.Frag) (A : Ad) : Ws := (wRet (wAndT (wCB (opIsi K) (wCons (wVar 0) (wCons (wC (.ty "bool")) wNil))) (wOp2 opEq (wVar 0) (wVar 1))))
@[reducible] def ws__law_mixed (K : PySem.W.Frag) (A : Ad) : Ws := (wSeq (wAsg (wOp2 opMod (wCB opInt (wCons (wOp2 opMul (wOp2 opAdd (wOp2 opAdd (wOp2 opMod (wCB opInt (wCons (wVar 0) wNil)) (wC (.int 2147483647))) (wOp2 opMul (wC (.int 7919)) (wVar 1))) (wC (.int 1))) (wC (.int 48271))) wNil)) (wC (.int 2147483647))) (wName 2))
  (wSeq (wAsg (wOp2 opMod (wCB opInt (wCons (wOp2 opMul (wVar 2) (wOp2 opAdd (wOp2 opDiv (wVar 2) (wC (.int 1009))) (wC (.int 69621)))) wNil)) (wC (.int 2147483647))) (wName 2))
  (wRet (wOp2 opDiv (wOp2 opMod (wCB opInt (wCons (wOp2 opMul (wVar 2) (wOp2 opAdd (wOp2 opDiv (wVar 2) (wC (.int 2003))) (wC (.int 40692)))) wNil)) (wC (.int 2147483399))) (wC (.int 16))))))
@[reducible] def ws__law_draw (K : PySem.W.Frag) (A : Ad) : Ws := (wSeq (wAsg (wOp2 opAdd (wOp2 opIx (wVar 0) (wC (.int 3))) (wC (.int 1))) (wSubG (wVar 0) (wC (.int 3))))
  (wSeq (wIfS (wTst (wOp2 (opCmp fun i j => decide (j < i)) (wOp2 opIx (wVar 0) (wC (.int 2))) (wC (.int 0)))) (wSeq (wAsg (wOp2 opMod (wCB opInt (wCons (wOp2 opIx (wVar 0) (wC (.int 2))) wNil)) (wVar 1)) (wName 2))
  (wSeq (wAsg (wOp2 opDiv (wOp2 opIx (wVar 0) (wC (.int 2))) (wVar 1)) (wSubG (wVar 0) (wC (.int 2))))
  (wRet (wVar 2))))
  wNext)
  (wSeq (wPar 3 4 (wCons (wOp2 opIx (wVar 0) (wC (.int 0))) (wCons (wOp2 opIx (wVar 0) (wC (.int 1))) wNil)))
  (wSeq (wAsg (wOp2 opAdd (wVar 4) (wC (.int 1))) (wSubG (wVar 0) (wC (.int 1))))
  (wSeq (wIfS (wTst (wOp2 opEq (wCB opLen (wCons (wVar 3) wNil)) (wC (.int 0)))) (wRet (wOp2 opMod (wCB opInt (wCons (wCall [false, false] (sp__law_mixed K A) [] (wCons (wC (.int 0)) (wCons (wOp2 opIx (wVar 0) (wC (.int 3))) wNil))) wNil)) (wVar 1)))
  wNext)
  (wSeq (wAsg (wOp2 opIx (wVar 3) (wOp2 opMod (wCB opInt (wCons (wVar 4) wNil)) (wCB opLen (wCons (wVar 3) wNil)))) (wName 5))
  (wSeq (wIfS (wAnd (wTst (wOp2 opLt (wVar 4) (wCB opLen (wCons (wVar 3) wNil)))) (wTst (wOp2 (opCmp fun i j => decide (j ≤ i)) (wCB opAbs (wCons (wVar 5) wNil)) (wOp2 opPow (wC (.int 10)) (wC (.int 18)))))) (wSeq (wAsg (wOp2 opDiv (wCB opAbs (wCons (wVar 5) wNil)) (wVar 1)) (wSubG (wVar 0) (wC (.int 2))))
  (wRet (wOp2 opMod (wCB opInt (wCons (wCB opAbs (wCons (wVar 5) wNil)) wNil)) (wVar 1))))
  wNext)
  (wRet (wOp2 opMod (wCB opInt (wCons (wCall [false, false] (sp__law_mixed K A) [] (wCons (wVar 5) (wCons (wOp2 opIx (wVar 0) (wC (.int 3))) wNil))) wNil)) (wVar 1))))))))))
@[reducible] def ws__law_shuffled (K : PySem.W.Frag) (A : Ad) : Ws := (wSeq (wPar 2 3 (wCons (wCB opList (wCons (wVar 1) wNil)) (wCons (wLst wNil) wNil)))
  (wSeq (wForI (wRan1 (wCons (wCB opLen (wCons (wVar 1) wNil)) wNil)) (wName 4) (wDrop (wMt "list" opAppend (wVar 3) (wCons (wMt "list" opPopAt (wVar 2) (wCons (wCall [true, false] (sp__law_draw K A) [] (wCons (wVar 0) (wCons (wCB opLen (wCons (wVar 2) wNil)) wNil))) wNil)) wNil))))
  (wRet (wVar 3))))
@[reducible] def ws__law_some_tree (K : PySem.W.Frag) (A : Ad) : Ws := (wSeq (wPar3 3 4 5 (wCons (wLst (wCons (wVar 2) wNil)) (wCons (wLst wNil) (wCons (wOp2 opEq (wCall [true, false] (sp__law_draw K A) [] (wCons (wVar 0) (wCons (wC (.int 4)) wNil))) (wC (.int 0))) wNil))))
  (wSeq (wForI (wSeqI (wCall [true, false] (sp__law_shuffled K A) [] (wCons (wVar 0) (wCons (wLcI [6] (wRan1 (wCons (wVar 1) wNil)) (wName 6) (wTst (wOp2 opNe (wVar 6) (wVar 2))) (wVar 6)) wNil)))) (wName 6) (wSeq (wAsg (wIf (wTst (wVar 5)) (wOp2 opIx (wVar 3) (wUn opNeg (wC (.int 1)))) (wOp2 opIx (wVar 3) (wCall [true, false] (sp__law_draw K A) [] (wCons (wVar 0) (wCons (wCB opLen (wCons (wVar 3) wNil)) wNil))))) (wName 7))
  (wSeq (wDrop (wMt "list" opAppend (wVar 4) (wCons (wTup (wCons (wVar 7) (wCons (wVar 6) wNil))) wNil)))
  (wDrop (wMt "list" opAppend (wVar 3) (wCons (wVar 6) wNil))))))
  (wRet (wVar 4))))
@[reducible] def ws__law_some_links (K : PySem.W.Frag) (A : Ad) : Ws := (wSeq (wAsg (wLst wNil) (wName 3))
  (wSeq (wForI (wRan1 (wCons (wCall [true, false] (sp__law_draw K A) [] (wCons (wVar 0) (wCons (wOp2 opAdd (wVar 2) (wC (.int 1))) wNil))) wNil)) (wName 4) (wSeq (wAsg (wCall [true, false] (sp__law_draw K A) [] (wCons (wVar 0) (wCons (wVar 1) wNil))) (wName 5))
  (wSeq (wAsg (wTup (wCons (wVar 5) (wCons (wOp2 opMod (wCB opInt (wCons (wOp2 opAdd (wOp2 opAdd (wVar 5) (wC (.int 1))) (wCall [true, false] (sp__law_draw K A) [] (wCons (wVar 0) (wCons (wOp2 opSub (wVar 1) (wC (.int 1))) wNil)))) wNil)) (wVar 1)) wNil))) (wName 6))
  (wSeq (wIfS (wAnd (wTst (wOp2 (opCmp fun i j => decide (j < i)) (wCB opLen (wCons (wVar 3) wNil)) (wC (.int 0)))) (wTst (wOp2 opEq (wCall [true, false] (sp__law_draw K A) [] (wCons (wVar 0) (wCons (wC (.int 6)) wNil))) (wC (.int 0))))) (wAsg (wOp2 opIx (wVar 3) (wCall [true, false] (sp__law_draw K A) [] (wCons (wVar 0) (wCons (wCB opLen (wCons (wVar 3) wNil)) wNil)))) (wName 6))
  wNext)
  (wDrop (wMt "list" opAppend (wVar 3) (wCons (wVar 6) wNil)))))))
  (wRet (wVar 3))))
@[reducible] def ws__law_parts_of (K : PySem.W.Frag) (A : Ad) : Ws := (wSeq (wAsg (wOp2 opIx (wLst (wCons (wC (.int 2)) (wCons (wC (.int 3)) (wCons (wC (.int 3)) (wCons (wC (.int 4)) (wCons (wC (.int 4)) (wCons (wC (.int 5)) (wCons (wC (.int 5)) (wCons (wC (.int 6)) (wCons (wC (.int 7)) (wCons (wC (.int 8)) (wCons (wC (.int 9)) (wCons (wC (.int 10)) wNil))))))))))))) (wCall [true, false] (sp__law_draw K A) [] (wCons (wVar 0) (wCons (wC (.int 12)) wNil)))) (wName 1))
  (wSeq (wPar 2 3 (wCons (wCall [true, false] (sp__law_draw K A) [] (wCons (wVar 0) (wCons (wVar 1) wNil))) (wCons (wCall [true, false] (sp__law_draw K A) [] (wCons (wVar 0) (wCons (wC (.int 4)) wNil))) wNil)))
  (wSeq (wAsg (wLst wNil) (wName 4))
  (wCut (wIfS (wTst (wOp2 (opCmp fun i j => decide (j < i)) (wVar 3) (wC (.int 0)))) (wForI (wRan1 (wCons (wOp2 opAdd (wC (.int 1)) (wCall [true, false] (sp__law_draw K A) [] (wCons (wVar 0) (wCons (wCB opMax2 (wCons (wC (.int 1)) (wCons (wOp2 opDiv (wC (.int 50)) (wVar 1)) wNil))) wNil)))) wNil)) (wName 5) (wIfS (wTst (wOp2 (opCmp fun i j => decide (i ≤ j)) (wOp2 opAdd (wCB opLen (wCons (wVar 4) wNil)) (wVar 1)) (wC (.int 52)))) (wAsg (wOp2 opAdd (wVar 4) (wCall [true, false, false] (sp__law_some_tree K A) [] (wCons (wVar 0) (wCons (wVar 1) (wCons (wVar 2) wNil))))) (wName 4))
  wNext))
  wNext)
  (wSeq (wAsg (wOp2 opAdd (wVar 4) (wCall [true, false, false] (sp__law_some_links K A) [] (wCons (wVar 0) (wCons (wVar 1) (wCons (wOp2 opIx (wLst (wCons (wC (.int 8)) (wCons (wC (.int 60)) wNil))) (wCB opInt (wCons (wOp2 opEq (wVar 3) (wC (.int 0))) wNil))) wNil))))) (wName 4))
  (wSeq (wAsg (wSl (wCall [true, false] (sp__law_shuffled K A) [] (wCons (wVar 0) (wCons (wVar 4) wNil))) wNoPart (wPart (wC (.int 60)))) (wName 4))
  (wSeq (wForI (wRan1 (wCons (wCall [true, false] (sp__law_draw K A) [] (wCons (wVar 0) (wCons (wC (.int 3)) wNil))) wNil)) (wName 5) (wIfS (wAnd (wTst (wOp2 (opCmp fun i j => decide (j < i)) (wCB opLen (wCons (wVar 4) wNil)) (wC (.int 0)))) (wTst (wOp2 opEq (wVar 3) (wC (.int 1))))) (wDrop (wMt "list" opPopAt (wVar 4) (wCons (wCall [true, false] (sp__law_draw K A) [] (wCons (wVar 0) (wCons (wCB opLen (wCons (wVar 4) wNil)) wNil))) wNil)))
  wNext))
  (wRet (wTup (wCons (wVar 1) (wCons (wVar 2) (wCons (wCB opTuple (wCons (wVar 4) wNil)) wNil))))))))))))
@[reducible] def ws__law_is_int (K : PySem.W.Frag) (A : Ad) : Ws := (wRet (wAndT (wCB (opIsi K) (wCons (wVar 0) (wCons (wC (.ty "int")) wNil))) (wAndT (wNotT (wCB (opIsi K) (wCons (wVar 0) (wCons (wC (.ty "bool")) wNil)))) (wCh (opCmp fun i j => decide (i ≤ j)) (opCmp fun i j => decide (i ≤ j)) (wVar 1) (wVar 0) (wVar 2)))))
@[reducible] def ws__law_is_lot (K : PySem.W.Frag) (A : Ad) : Ws := (wSeq (wIfS (wNot (wTst (wCB (opIsi K) (wCons (wVar 0) (wCons (wC (.ty "tuple")) wNil))))) (wRet (wC (.bl false)))
  wNext)
  (wSeq (wAsg (wUn opNeg (wC (.int 1))) (wName 2))
  (wSeq (wForI (wSeqI (wVar 0)) (wName 3) (wSeq (wIfS (wNot (wTst (wCall [false, false, false] (sp__law_is_int K A) [] (wCons (wVar 3) (wCons (wOp2 opAdd (wVar 2) (wC (.int 1))) (wCons (wOp2 opSub (wVar 1) (wC (.int 1))) wNil)))))) (wRet (wC (.bl false)))
  wNext)
  (wAsg (wVar 3) (wName 2))))
  (wRet (wC (.bl true))))))
@[reducible] def ws__law_is_wood (K : PySem.W.Frag) (A : Ad) : Ws := (wSeq (wPar 3 4 (wCons (wOp2 opIx (wVar 0) (wC (.int 0))) (wCons (wOp2 opIx (wVar 0) (wC (.int 2))) wNil)))
  (wSeq (wIfS (wOr (wNot (wTst (wCall [false, false] (sp__law_is_lot K A) [] (wCons (wVar 2) (wCons (wCB opLen (wCons (wVar 4) wNil)) wNil))))) (wTst (wOp2 opNe (wCB opLen (wCons (wVar 2) wNil)) (wOp2 opSub (wVar 3) (wCB opLen (wCons (wVar 1) wNil)))))) (wRet (wC (.bl false)))
  wNext)
  (wSeq (wAsg wDicK (wName 5))
  (wSeq (wForI (wSeqI (wVar 2)) (wName 6) (wSeq (wIfS (wOr (wTst (wOp2 opIn (wOp2 opIx (wOp2 opIx (wVar 4) (wVar 6)) (wC (.int 1))) (wVar 5))) (wTst (wOp2 opIn (wOp2 opIx (wOp2 opIx (wVar 4) (wVar 6)) (wC (.int 1))) (wVar 1)))) (wRet (wC (.bl false)))
  wNext)
  (wAsg (wOp2 opIx (wOp2 opIx (wVar 4) (wVar 6)) (wC (.int 0))) (wSubG (wVar 5) (wOp2 opIx (wOp2 opIx (wVar 4) (wVar 6)) (wC (.int 1)))))))
  (wSeq (wForI (wRan1 (wCons (wVar 3) wNil)) (wName 7) (wSeq (wAsg (wVar 7) (wName 8))
  (wSeq (wForI (wRan1 (wCons (wVar 3) wNil)) (wName 9) (wAsg (wGet2 (wVar 5) (wVar 8) (wVar 8)) (wName 8)))
  (wIfS (wTst (wOp2 opNi (wVar 8) (wVar 1))) (wRet (wC (.bl false)))
  wNext))))
  (wRet (wC (.bl true))))))))
@[reducible] def ws__law_are_apart (K : PySem.W.Frag) (A : Ad) : Ws := (wSeq (wAsg (wLst wNil) (wName 1))
  (wSeq (wForI (wSeqI (wVar 0)) (wName 2) (wAsg (wOp2 opAdd (wVar 1) (wCB opList (wCons (wVar 2) wNil))) (wName 1)))
  (wRet (wOp2 opEq (wCB opLen (wCons (wCB opSet (wCons (wVar 1) wNil)) wNil)) (wCB opLen (wCons (wVar 1) wNil))))))
@[reducible] def ws__law_is_packing (K : PySem.W.Frag) (A : Ad) : Ws := (wSeq (wIfS (wOr (wNot (wTst (wCB (opIsi K) (wCons (wVar 1) (wCons (wC (.ty "tuple")) wNil))))) (wNot (wTst (wCB (opFlags fun bs => bs.all id) (wCons (wLcI [2] (wSeqI (wVar 1)) (wName 2) wAny (wCall [false, false, false] (sp__law_is_wood K A) [] (wCons (wVar 0) (wCons (wTup (wCons (wOp2 opIx (wVar 0) (wC (.int 1))) wNil)) (wCons (wVar 2) wNil))))) wNil))))) (wRet (wC (.bl false)))
  wNext)
  (wRet (wCall [false] (sp__law_are_apart K A) [] (wCons (wVar 1) wNil))))
@[reducible] def ws__law_grow (K : PySem.W.Frag) (A : Ad) : Ws := (wSeq (wPar3 5 6 7 (wCons (wOp2 opIx (wVar 1) (wC (.int 2))) (wCons (wCB opList (wCons (wVar 2) wNil)) (wCons (wLst wNil) wNil))))
  (wSeq (wForI (wRan1 (wCons (wVar 4) wNil)) (wName 8) (wSeq (wAsg (wLcI [10] (wSeqI (wVar 3)) (wName 10) (wAnd (wTst (wOp2 opIn (wOp2 opIx (wOp2 opIx (wVar 5) (wVar 10)) (wC (.int 0))) (wVar 6))) (wTst (wOp2 opNi (wOp2 opIx (wOp2 opIx (wVar 5) (wVar 10)) (wC (.int 1))) (wVar 6)))) (wVar 10)) (wName 9))
  (wSeq (wIfS (wTst (wOp2 opEq (wCB opLen (wCons (wVar 9) wNil)) (wC (.int 0)))) wBreak
  wNext)
  (wSeq (wDrop (wMt "list" opAppend (wVar 7) (wCons (wOp2 opIx (wVar 9) (wCall [true, false] (sp__law_draw K A) [] (wCons (wVar 0) (wCons (wCB opLen (wCons (wVar 9) wNil)) wNil)))) wNil)))
  (wDrop (wMt "list" opAppend (wVar 6) (wCons (wOp2 opIx (wOp2 opIx (wVar 5) (wOp2 opIx (wVar 7) (wUn opNeg (wC (.int 1))))) (wC (.int 1))) wNil)))))))
  (wRet (wCB opTuple (wCons (wCB opSorted (wCons (wVar 7) wNil)) wNil)))))
@[reducible] def ws__law_grown_trees (K : PySem.W.Frag) (A : Ad) : Ws := (wSeq (wPar 3 4 (wCons (wLr1 (wCB opLen (wCons (wOp2 opIx (wVar 1) (wC (.int 2))) wNil))) (wCons (wLst wNil) wNil)))
  (wSeq (wForI (wRan1 (wCons (wVar 2) wNil)) (wName 5) (wSeq (wAsg (wCall [true, false, false, false, false] (sp__law_grow K A) [] (wCons (wVar 0) (wCons (wVar 1) (wCons (wLst (wCons (wOp2 opIx (wVar 1) (wC (.int 1))) wNil)) (wCons (wVar 3) (wCons (wOp2 opIx (wVar 1) (wC (.int 0))) wNil)))))) (wName 6))
  (wSeq (wIfS (wTst (wOp2 opLt (wCB opLen (wCons (wVar 6) wNil)) (wOp2 opSub (wOp2 opIx (wVar 1) (wC (.int 0))) (wC (.int 1))))) wBreak
  wNext)
  (wSeq (wDrop (wMt "list" opAppend (wVar 4) (wCons (wVar 6) wNil)))
  (wAsg (wLcI [7] (wSeqI (wVar 3)) (wName 7) (wTst (wOp2 opNi (wVar 7) (wVar 6))) (wVar 7)) (wName 3))))))
  (wRet (wCB opTuple (wCons (wVar 4) wNil)))))
@[reducible] def ws__law_odd (K : PySem.W.Frag) (A : Ad) : Ws := (wSeq (wAsg (wLst (wCons (wC .non) (wCons (wC (.bl true)) (wCons (wUn opNeg (wC (.int 1))) (wCons (wC (.int 61)) (wCons (wC (.str "0")) (wCons (wC (.str "")) (wCons (wLst wNil) (wCons wDicK (wCons (wTup (wCons (wC .non) wNil)) (wCons (wTup (wCons (wC (.str "a")) wNil)) (wCons (wTup (wCons (wC (.bl true)) wNil)) (wCons (wTup (wCons (wC (.int 0)) (wCons (wC (.int 0)) wNil))) (wCons (wTup (wCons (wC (.int 1)) (wCons (wC (.int 0)) wNil))) (wCons (wTup (wCons (wUn opNeg (wC (.int 1))) wNil)) (wCons (wLst (wCons (wC (.int 0)) wNil)) (wCons (wTup (wCons (wOp2 opPow (wC (.int 10)) (wC (.int 30))) wNil)) wNil))))))))))))))))) (wName 1))
  (wRet (wOp2 opIx (wOp2 opAdd (wVar 1) (wLst (wCons (wTup (wCons (wTup wNil) wNil)) (wCons (wTup (wCons (wLst (wCons (wC (.int 0)) wNil)) wNil)) (wCons (wDisp [((wC (.int 0)), (wC (.int 1)))]) (wCons (wTup (wCons (wC (.int 0)) (wCons (wTup (wCons (wC (.int 1)) wNil)) wNil))) wNil)))))) (wCall [true, false] (sp__law_draw K A) [] (wCons (wVar 0) (wCons (wC (.int 20)) wNil))))))
@[reducible] def ws__law_bent_lot (K : PySem.W.Frag) (A : Ad) : Ws := (wSeq (wPar 3 4 (wCons (wCall [true, false] (sp__law_draw K A) [] (wCons (wVar 0) (wCons (wC (.int 8)) wNil))) (wCons (wCall [true, false] (sp__law_draw K A) [] (wCons (wVar 0) (wCons (wOp2 opAdd (wCB opLen (wCons (wVar 1) wNil)) (wC (.int 1))) wNil))) wNil)))
  (wSeq (wAsg (wCall [true, false] (sp__law_draw K A) [] (wCons (wVar 0) (wCons (wCB opMax2 (wCons (wC (.int 1)) (wCons (wVar 2) wNil))) wNil))) (wName 5))
  (wSeq (wIfS (wTst (wOp2 opEq (wVar 3) (wC (.int 0)))) (wRet (wCall [true] (sp__law_odd K A) [] (wCons (wVar 0) wNil)))
  wNext)
  (wSeq (wIfS (wTst (wOp2 opEq (wVar 3) (wC (.int 1)))) (wRet (wOp2 opAdd (wSl (wVar 1) wNoPart (wPart (wVar 4))) (wSl (wVar 1) (wPart (wOp2 opAdd (wVar 4) (wC (.int 1)))) wNoPart)))
  wNext)
  (wSeq (wIfS (wTst (wOp2 opLt (wVar 3) (wC (.int 4)))) (wRet (wCB opTuple (wCons (wCB opSorted (wCons (wCB opSet (wCons (wOp2 opAdd (wCB opList (wCons (wOp2 opAdd (wSl (wVar 1) wNoPart (wPart (wVar 4))) (wSl (wVar 1) (wPart (wOp2 opAdd (wVar 4) (wC (.int 1)))) wNoPart)) wNil)) (wLst (wCons (wVar 5) wNil))) wNil)) wNil)) wNil)))
  wNext)
  (wSeq (wIfS (wTst (wOp2 opEq (wVar 3) (wC (.int 4)))) (wRet (wCB opTuple (wCons (wCB opSorted (wCons (wCB opSet (wCons (wOp2 opAdd (wCB opList (wCons (wVar 1) wNil)) (wLst (wCons (wVar 5) wNil))) wNil)) wNil)) wNil)))
  wNext)
  (wSeq (wIfS (wTst (wOp2 opEq (wVar 3) (wC (.int 5)))) (wRet (wOp2 opIx (wLst (wCons (wCB opList (wCons (wVar 1) wNil)) (wCons (wRev (wVar 1)) (wCons (wOp2 opAdd (wVar 1) (wSl (wVar 1) (wPart (wUn opNeg (wC (.int 1)))) wNoPart)) (wCons (wOp2 opAdd (wVar 1) (wTup (wCons (wVar 2) wNil))) wNil))))) (wCall [true, false] (sp__law_draw K A) [] (wCons (wVar 0) (wCons (wC (.int 4)) wNil)))))
  wNext)
  (wRet (wOp2 opAdd (wOp2 opAdd (wSl (wVar 1) wNoPart (wPart (wVar 4))) (wTup (wCons (wOp2 opIx (wLst (wCons (wC (.bl true)) (wCons (wC .non) (wCons (wUn opNeg (wC (.int 1))) (wCons (wVar 2) (wCons (wC (.str "1")) (wCons (wTup (wCons (wC (.int 1)) wNil)) (wCons (wOp2 opPow (wC (.int 10)) (wC (.int 30))) (wCons (wVar 5) wNil))))))))) (wCall [true, false] (sp__law_draw K A) [] (wCons (wVar 0) (wCons (wC (.int 8)) wNil)))) wNil))) (wSl (wVar 1) (wPart (wOp2 opAdd (wVar 4) (wC (.int 1)))) wNoPart))))))))))
@[reducible] def ws__law_bent (K : PySem.W.Frag) (A : Ad) : Ws := (wSeq (wPar 3 4 (wCons (wCall [true, false] (sp__law_draw K A) [] (wCons (wVar 0) (wCons (wC (.int 8)) wNil))) (wCons (wCall [true, false] (sp__law_draw K A) [] (wCons (wVar 0) (wCons (wCB opMax2 (wCons (wC (.int 1)) (wCons (wCB opLen (wCons (wVar 1) wNil)) wNil))) wNil))) wNil)))
  (wSeq (wIfS (wOr (wTst (wOp2 opEq (wCB opLen (wCons (wVar 1) wNil)) (wC (.int 0)))) (wTst (wOp2 opEq (wVar 3) (wC (.int 0))))) (wRet (wOp2 opIx (wLst (wCons (wCall [true] (sp__law_odd K A) [] (wCons (wVar 0) wNil)) (wCons (wCB opList (wCons (wVar 1) wNil)) (wCons (wTup (wCons (wVar 1) wNil)) (wCons (wOp2 opAdd (wVar 1) (wTup (wCons (wTup wNil) wNil))) (wCons (wOp2 opAdd (wVar 1) (wTup (wCons (wC .non) wNil))) wNil)))))) (wCall [true, false] (sp__law_draw K A) [] (wCons (wVar 0) (wCons (wC (.int 5)) wNil)))))
  wNext)
  (wSeq (wIfS (wTst (wOp2 opLt (wVar 3) (wC (.int 4)))) (wRet (wOp2 opAdd (wOp2 opAdd (wSl (wVar 1) wNoPart (wPart (wVar 4))) (wTup (wCons (wCall [true, false, false] (sp__law_bent_lot K A) [] (wCons (wVar 0) (wCons (wOp2 opIx (wVar 1) (wVar 4)) (wCons (wVar 2) wNil)))) wNil))) (wSl (wVar 1) (wPart (wOp2 opAdd (wVar 4) (wC (.int 1)))) wNoPart)))
  wNext)
  (wSeq (wIfS (wTst (wOp2 opEq (wVar 3) (wC (.int 4)))) (wRet (wOp2 opAdd (wSl (wVar 1) wNoPart (wPart (wVar 4))) (wSl (wVar 1) (wPart (wOp2 opAdd (wVar 4) (wC (.int 1)))) wNoPart)))
  wNext)
  (wSeq (wIfS (wTst (wOp2 opEq (wVar 3) (wC (.int 5)))) (wRet (wOp2 opAdd (wOp2 opAdd (wSl (wVar 1) wNoPart (wPart (wVar 4))) (wTup (wCons (wOp2 opIx (wVar 1) (wVar 4)) wNil))) (wSl (wVar 1) (wPart (wVar 4)) wNoPart)))
  wNext)
  (wSeq (wIfS (wTst (wOp2 opEq (wVar 3) (wC (.int 6)))) (wRet (wRev (wVar 1)))
  wNext)
  (wSeq (wPar 5 6 (wCons (wOp2 opIx (wVar 1) (wCall [true, false] (sp__law_draw K A) [] (wCons (wVar 0) (wCons (wCB opLen (wCons (wVar 1) wNil)) wNil)))) (wCons (wCall [true, false] (sp__law_draw K A) [] (wCons (wVar 0) (wCons (wCB opLen (wCons (wOp2 opIx (wVar 1) (wVar 4)) wNil)) wNil))) wNil)))
  (wSeq (wAsg (wCB opTuple (wCons (wCB opSorted (wCons (wOp2 opAdd (wOp2 opAdd (wSl (wOp2 opIx (wVar 1) (wVar 4)) wNoPart (wPart (wVar 6))) (wSl (wOp2 opIx (wVar 1) (wVar 4)) (wPart (wOp2 opAdd (wVar 6) (wC (.int 1)))) wNoPart)) (wTup (wCons (wOp2 opIx (wVar 5) (wCall [true, false] (sp__law_draw K A) [] (wCons (wVar 0) (wCons (wCB opLen (wCons (wVar 5) wNil)) wNil)))) wNil))) wNil)) wNil)) (wName 7))
  (wRet (wOp2 opAdd (wOp2 opAdd (wSl (wVar 1) wNoPart (wPart (wVar 4))) (wTup (wCons (wVar 7) wNil))) (wSl (wVar 1) (wPart (wOp2 opAdd (wVar 4) (wC (.int 1)))) wNoPart)))))))))))
@[reducible] def ws_is_pair (K : PySem.W.Frag) (A : Ad) : Ws := (wRet (wAndT (wCB (opIsi K) (wCons (wVar 0) (wCons (wC (.ty "tuple")) wNil))) (wOp2 opEq (wCB opLen (wCons (wVar 0) wNil)) (wC (.int 2)))))
@[reducible] def ws_is_link (K : PySem.W.Frag) (A : Ad) : Ws := (wSeq (wIfS (wOr (wNot (wTst (wCall [false] (sp_is_pair K A) [] (wCons (wVar 1) wNil)))) (wNot (wTst (wCB (opFlags fun bs => bs.all id) (wCons (wLcI [2] (wSeqI (wVar 1)) (wName 2) wAny (wCall [false, false, false] (sp_is_within K A) [] (wCons (wVar 2) (wCons (wC (.int 0)) (wCons (wOp2 opSub (wVar 0) (wC (.int 1))) wNil))))) wNil))))) (wRet (wC (.bl false)))
  wNext)
  (wRet (wOp2 opNe (wOp2 opIx (wVar 1) (wC (.int 0))) (wOp2 opIx (wVar 1) (wC (.int 1))))))
@[reducible] def ws_Net___init__ (K : PySem.W.Frag) (A : Ad) : Ws := (wSeq (wIfS (wNot (wTst (wCall [false, false, false] (sp_is_within K A) [] (wCons (wVar 1) (wCons (wC (.int 2)) (wCons (wC (.int 10)) wNil)))))) wNoS
  wNext)
  (wSeq (wIfS (wNot (wTst (wCall [false, false, false] (sp_is_within K A) [] (wCons (wVar 2) (wCons (wC (.int 0)) (wCons (wOp2 opSub (wVar 1) (wC (.int 1))) wNil)))))) wNoS
  wNext)
  (wSeq (wIfS (wOr (wNot (wTst (wCB (opIsi K) (wCons (wVar 3) (wCons (wC (.ty "tuple")) wNil))))) (wTst (wOp2 (opCmp fun i j => decide (j < i)) (wCB opLen (wCons (wVar 3) wNil)) (wC (.int 60))))) wNoS
  wNext)
  (wSeq (wForI (wEn (wCons (wVar 3) wNil)) (wTupG (wGCons (wName 4) (wGCons (wName 5) wGNil))) (wIfS (wNot (wTst (wCall [false, false] (sp_is_link K A) [] (wCons (wVar 1) (wCons (wVar 5) wNil))))) wNoS
  wNext))
  (wSeq (wSetF A.e_Net "many" (wVar 0) (wVar 1))
  (wSeq (wSetF A.e_Net "root" (wVar 0) (wVar 2))
  (wSetF A.e_Net "links" (wVar 0) (wVar 3))))))))
@[reducible] def ws_law (K : PySem.W.Frag) (A : Ad) : Ws := (wSeq (wAsg (wCall [true] (sp__law_parts_of K A) [] (wCons (wVar 1) wNil)) (wName 2))
  (wSeq (wPar 3 4 (wCons (wMake A.e_Net [false, false, false] (sp_Net___init__ K A) [] (wCons (wOp2 opIx (wVar 2) (wC (.int 0))) (wCons (wOp2 opIx (wVar 2) (wC (.int 1))) (wCons (wOp2 opIx (wVar 2) (wC (.int 2))) wNil)))) (wCons (wCB opLen (wCons (wOp2 opIx (wVar 2) (wC (.int 2))) wNil)) wNil)))
  (wSeq (wForI (wRan1 (wCons (wC (.int 2)) wNil)) (wName 5) (wSeq (wAsg (wCall [true, false, false] (sp__law_grown_trees K A) [] (wCons (wVar 1) (wCons (wVar 2) (wCons (wC (.int 12)) wNil)))) (wName 6))
  (wSeq (wIfS (wOr (wNot (wTst (wCall [false, false] (sp__law_is_packing K A) [] (wCons (wVar 2) (wCons (wVar 6) wNil))))) (wNot (wTst (wCall [false, false] (sp__law_is K A) [] (wCons (wCall [false, false] (sp_is_packing K A) [] (wCons (wVar 3) (wCons (wVar 6) wNil))) (wCons (wC (.bl true)) wNil)))))) (wRet (wC (.bl false)))
  wNext)
  (wForI (wRan1 (wCons (wC (.int 8)) wNil)) (wName 7) (wSeq (wAsg (wCall [true, false, false] (sp__law_bent K A) [] (wCons (wVar 1) (wCons (wVar 6) (wCons (wVar 4) wNil)))) (wName 8))
  (wSeq (wAsg (wCB opRepr (wCons (wVar 8) wNil)) (wName 9))
  (wIfS (wOr (wNot (wTst (wCall [false, false] (sp__law_is K A) [] (wCons (wCall [false, false] (sp_is_packing K A) [] (wCons (wVar 3) (wCons (wVar 8) wNil))) (wCons (wCall [false, false] (sp__law_is_packing K A) [] (wCons (wVar 2) (wCons (wVar 8) wNil))) wNil))))) (wTst (wOp2 opNe (wCB opRepr (wCons (wVar 8) wNil)) (wVar 9)))) (wRet (wC (.bl false)))
  wNext)))))))
  (wRet (wAndT (wCall [false, false] (sp__law_is K A) [] (wCons (wCall [false, false] (sp_is_packing K A) [] (wCons (wVar 3) (wCons (wTup wNil) wNil))) (wCons (wC (.bl true)) wNil))) (wCall [false, false] (sp__law_is K A) [] (wCons (wCall [false, false] (sp_is_packing K A) [] (wCons (wVar 3) (wCons (wLst (wCons (wVar 6) wNil)) wNil))) (wCons (wC (.bl false)) wNil))))))))
end Fl

set_option Elab.async false
set_option linter.all false
set_option maxRecDepth 100000
set_option maxHeartbeats 1000000
namespace Fl
open PySem PySem.Spec PyProof.Rows L2
local macro_rules | `(tactic| walk_at "fl") => `(tactic| with_reducible conv => whnf)
local macro_rules | `(tactic| walk_at "yes") => `(tactic| ((with_reducible (conv => whnf)); rw [if_pos rfl]; (with_reducible (conv => whnf))))
local macro_rules | `(tactic| walk_at "no") => `(tactic| ((with_reducible (conv => whnf)); rw [if_neg Bool.false_ne_true]; (with_reducible (conv => whnf))))
local macro_rules | `(tactic| walk_at "len") => `(tactic| (first | (simp only [List.length_map, List.length_append, List.length_cons, List.length_nil, List.length_reverse, List.length_replicate]; omega) | (simp only [List.length_map, List.length_append, List.length_cons, List.length_nil, List.length_reverse, List.length_replicate] at *; omega)))
local macro_rules | `(tactic| walk_at "sd") => `(tactic| first | with_reducible rfl | assumption | exact True.intro | omega | walk_at "len" | rfl | decide)
local macro_rules | `(tactic| walk_at "sds") => `(tactic| first | walk_at "sd" | exact And.intro (by walk_at "sd") (by walk_at "sd") | exact And.intro (by walk_at "sd") (And.intro (by walk_at "sd") (by walk_at "sd")) | exact And.intro (And.intro (by walk_at "sd") (by walk_at "sd")) (by walk_at "sd"))
local macro_rules | `(tactic| walk_at "g1") => `(tactic| ((first | refine And.intro (by walk_at "sds") ?_ | with_reducible refine ifT ?_ | with_reducible refine ifF ?_ | with_reducible refine ifNT ?_ | with_reducible refine ifNF ?_ | with_reducible refine Exists.intro _ (And.intro rfl ?_) | refine isi_plain (by walk_at "sd") (by decide) ?_ | refine Exists.intro _ (And.intro (by assumption) ?_) | refine Exists.intro _ (And.intro rfl ?_) | refine Exists.intro _ (Exists.intro _ (Exists.intro _ (And.intro rfl ?_))) | refine Exists.intro _ (Exists.intro _ (And.intro rfl ?_)) | refine Exists.intro _ (Exists.intro _ (Exists.intro _ (Exists.intro _ (And.intro rfl ?_))))); (with_reducible conv => whnf)))
local macro_rules | `(tactic| walk_at "go") => `(tactic| ((with_reducible conv => whnf); repeat walk_at "g1"))
variable {P : Program} {w : World} {K : PySem.W.Frag} {mg : Str → Option Value} {base : Heap} {A : Ad}
theorem wp_check_net (T : Txt K mg A) (as : List AA) (Q : RV → List AA → Prop) (E : Ex → List AA → Prop) (ha : as.length = 1) (h : sp_check_net K A as Q E) : ws_check_net K A (wEnd as Q E) (argU 0 as 0) := by
  match as, h with
  | [.dv n], ⟨m, r, ls, e, q⟩ =>
    subst e
    walk_at "fl"
    refine isi_same T.i_Net ?_
    walk_at "fl"
    exact q
end Fl

set_option Elab.async false
set_option linter.all false
set_option maxRecDepth 100000
set_option maxHeartbeats 1000000
namespace Fl
open PySem PySem.Spec PyProof.Rows L2
local macro_rules | `(tactic| walk_at "fl") => `(tactic| with_reducible conv => whnf)
local macro_rules | `(tactic| walk_at "yes") => `(tactic| ((with_reducible (conv => whnf)); rw [if_pos rfl]; (with_reducible (conv => whnf))))
local macro_rules | `(tactic| walk_at "no") => `(tactic| ((with_reducible (conv => whnf)); rw [if_neg Bool.false_ne_true]; (with_reducible (conv => whnf))))
local macro_rules | `(tactic| walk_at "len") => `(tactic| (first | (simp only [List.length_map, List.length_append, List.length_cons, List.length_nil, List.length_reverse, List.length_replicate]; omega) | (simp only [List.length_map, List.length_append, List.length_cons, List.length_nil, List.length_reverse, List.length_replicate] at *; omega)))
local macro_rules | `(tactic| walk_at "sd") => `(tactic| first | with_reducible rfl | assumption | exact True.intro | omega | walk_at "len" | rfl | decide)
local macro_rules | `(tactic| walk_at "sds") => `(tactic| first | walk_at "sd" | exact And.intro (by walk_at "sd") (by walk_at "sd") | exact And.intro (by walk_at "sd") (And.intro (by walk_at "sd") (by walk_at "sd")) | exact And.intro (And.intro (by walk_at "sd") (by walk_at "sd")) (by walk_at "sd"))
local macro_rules | `(tactic| walk_at "g1") => `(tactic| ((first | refine And.intro (by walk_at "sds") ?_ | with_reducible refine ifT ?_ | with_reducible refine ifF ?_ | with_reducible refine ifNT ?_ | with_reducible refine ifNF ?_ | with_reducible refine Exists.intro _ (And.intro rfl ?_) | refine isi_plain (by walk_at "sd") (by decide) ?_ | refine Exists.intro _ (And.intro (by assumption) ?_) | refine Exists.intro _ (And.intro rfl ?_) | refine Exists.intro _ (Exists.intro _ (Exists.intro _ (And.intro rfl ?_))) | refine Exists.intro _ (Exists.intro _ (And.intro rfl ?_)) | refine Exists.intro _ (Exists.intro _ (Exists.intro _ (Exists.intro _ (And.intro rfl ?_))))); (with_reducible conv => whnf)))
local macro_rules | `(tactic| walk_at "go") => `(tactic| ((with_reducible conv => whnf); repeat walk_at "g1"))
variable {P : Program} {w : World} {K : PySem.W.Frag} {mg : Str → Option Value} {base : Heap} {A : Ad}
theorem wp_is_integer (T : Txt K mg A) (as : List AA) (Q : RV → List AA → Prop) (E : Ex → List AA → Prop) (ha : as.length = 1) (h : sp_is_integer K A as Q E) : ws_is_integer K A (wEnd as Q E) (argU 0 as 0) := by
  match as, h with
  | [.dv x], ⟨p, q⟩ =>
    walk_at "fl"
    refine isi_plain p (by decide) ?_
    walk_at "fl"
    refine iteB (fun c => ?_) (fun c => ?_)
    · walk_at "fl"
      refine isi_plain p (by decide) ?_
      walk_at "fl"
      cases x <;> first | exact absurd (show false = true from c) Bool.false_ne_true | exact q
    · walk_at "fl"
      cases x <;> first | exact absurd (show true = false from c) (by decide) | exact q
end Fl

set_option Elab.async false
set_option linter.all false
set_option maxRecDepth 100000
set_option maxHeartbeats 1000000
namespace Fl
open PySem PySem.Spec PyProof.Rows L2
local macro_rules | `(tactic| walk_at "fl") => `(tactic| with_reducible conv => whnf)
local macro_rules | `(tactic| walk_at "yes") => `(tactic| ((with_reducible (conv => whnf)); rw [if_pos rfl]; (with_reducible (conv => whnf))))
local macro_rules | `(tactic| walk_at "no") => `(tactic| ((with_reducible (conv => whnf)); rw [if_neg Bool.false_ne_true]; (with_reducible (conv => whnf))))
local macro_rules | `(tactic| walk_at "len") => `(tactic| (first | (simp only [List.length_map, List.length_append, List.length_cons, List.length_nil, List.length_reverse, List.length_replicate]; omega) | (simp only [List.length_map, List.length_append, List.length_cons, List.length_nil, List.length_reverse, List.length_replicate] at *; omega)))
local macro_rules | `(tactic| walk_at "sd") => `(tactic| first | with_reducible rfl | assumption | exact True.intro | omega | walk_at "len" | rfl | decide)
local macro_rules | `(tactic| walk_at "sds") => `(tactic| first | walk_at "sd" | exact And.intro (by walk_at "sd") (by walk_at "sd") | exact And.intro (by walk_at "sd") (And.intro (by walk_at "sd") (by walk_at "sd")) | exact And.intro (And.intro (by walk_at "sd") (by walk_at "sd")) (by walk_at "sd"))
local macro_rules | `(tactic| walk_at "g1") => `(tactic| ((first | refine And.intro (by walk_at "sds") ?_ | with_reducible refine ifT ?_ | with_reducible refine ifF ?_ | with_reducible refine ifNT ?_ | with_reducible refine ifNF ?_ | with_reducible refine Exists.intro _ (And.intro rfl ?_) | refine isi_plain (by walk_at "sd") (by decide) ?_ | refine Exists.intro _ (And.intro (by assumption) ?_) | refine Exists.intro _ (And.intro rfl ?_) | refine Exists.intro _ (Exists.intro _ (Exists.intro _ (And.intro rfl ?_))) | refine Exists.intro _ (Exists.intro _ (And.intro rfl ?_)) | refine Exists.intro _ (Exists.intro _ (Exists.intro _ (Exists.intro _ (And.intro rfl ?_))))); (with_reducible conv => whnf)))
local macro_rules | `(tactic| walk_at "go") => `(tactic| ((with_reducible conv => whnf); repeat walk_at "g1"))
variable {P : Program} {w : World} {K : PySem.W.Frag} {mg : Str → Option Value} {base : Heap} {A : Ad}
theorem wp_is_within (T : Txt K mg A) (as : List AA) (Q : RV → List AA → Prop) (E : Ex → List AA → Prop) (ha : as.length = 3) (h : sp_is_within K A as Q E) : ws_is_within K A (wEnd as Q E) (argU 0 as 0) := by
  match as, h with
  | [.dv x, .dv (.int lo), .dv (.int hi)], ⟨p, q⟩ =>
    walk_at "fl"
    refine ⟨rfl, p, ?_⟩
    walk_at "fl"
    refine iteB (fun c => ?_) (fun c => ?_)
    · cases x <;> first | exact absurd (show false = true from c) Bool.false_ne_true | skip
      rename_i i
      have e : withinD (.int i) lo hi = (decide (lo ≤ i) && decide (i ≤ hi)) := rfl
      rw [e] at q
      walk_at "fl"
      refine iteB (fun c1 => ?_) (fun c1 => ?_)
      · have c1 : decide (lo ≤ i) = true := c1
        rw [c1] at q
        walk_at "fl"
        exact q
      · have c1 : decide (lo ≤ i) = false := c1
        rw [c1] at q
        walk_at "fl"
        exact q
    · walk_at "fl"
      cases x <;> first | exact absurd (show true = false from c) (by decide) | exact q
end Fl

set_option Elab.async false
set_option linter.all false
set_option maxRecDepth 100000
set_option maxHeartbeats 1000000
namespace Fl
open PySem PySem.Spec PyProof.Rows L2
local macro_rules | `(tactic| walk_at "fl") => `(tactic| with_reducible conv => whnf)
local macro_rules | `(tactic| walk_at "yes") => `(tactic| ((with_reducible (conv => whnf)); rw [if_pos rfl]; (with_reducible (conv => whnf))))
local macro_rules | `(tactic| walk_at "no") => `(tactic| ((with_reducible (conv => whnf)); rw [if_neg Bool.false_ne_true]; (with_reducible (conv => whnf))))
local macro_rules | `(tactic| walk_at "len") => `(tactic| (first | (simp only [List.length_map, List.length_append, List.length_cons, List.length_nil, List.length_reverse, List.length_replicate]; omega) | (simp only [List.length_map, List.length_append, List.length_cons, List.length_nil, List.length_reverse, List.length_replicate] at *; omega)))
local macro_rules | `(tactic| walk_at "sd") => `(tactic| first | with_reducible rfl | assumption | exact True.intro | omega | walk_at "len" | rfl | decide)
local macro_rules | `(tactic| walk_at "sds") => `(tactic| first | walk_at "sd" | exact And.intro (by walk_at "sd") (by walk_at "sd") | exact And.intro (by walk_at "sd") (And.intro (by walk_at "sd") (by walk_at "sd")) | exact And.intro (And.intro (by walk_at "sd") (by walk_at "sd")) (by walk_at "sd"))
local macro_rules | `(tactic| walk_at "g1") => `(tactic| ((first | refine And.intro (by walk_at "sds") ?_ | with_reducible refine ifT ?_ | with_reducible refine ifF ?_ | with_reducible refine ifNT ?_ | with_reducible refine ifNF ?_ | with_reducible refine Exists.intro _ (And.intro rfl ?_) | refine isi_plain (by walk_at "sd") (by decide) ?_ | refine Exists.intro _ (And.intro (by assumption) ?_) | refine Exists.intro _ (And.intro rfl ?_) | refine Exists.intro _ (Exists.intro _ (Exists.intro _ (And.intro rfl ?_))) | refine Exists.intro _ (Exists.intro _ (And.intro rfl ?_)) | refine Exists.intro _ (Exists.intro _ (Exists.intro _ (Exists.intro _ (And.intro rfl ?_))))); (with_reducible conv => whnf)))
local macro_rules | `(tactic| walk_at "go") => `(tactic| ((with_reducible conv => whnf); repeat walk_at "g1"))
variable {P : Program} {w : World} {K : PySem.W.Frag} {mg : Str → Option Value} {base : Heap} {A : Ad}
theorem wp_is_lot (T : Txt K mg A) (as : List AA) (Q : RV → List AA → Prop) (E : Ex → List AA → Prop) (ha : as.length = 2) (h : sp_is_lot K A as Q E) : ws_is_lot K A (wEnd as Q E) (argU 0 as 2) := by
  match as, h with
  | [.dv x, .dv (.int m)], ⟨p, q⟩ =>
    walk_at "fl"
    refine isi_plain (pl_plain p) (by decide) ?_
    walk_at "fl"
    refine iteN (fun c => ?_) (fun c => ?_)
    · walk_at "fl"
      cases x <;> first | exact absurd (show true = false from c) (by decide) | exact q
    · cases x <;> first | exact absurd (show false = true from c) Bool.false_ne_true | skip
      rename_i ds
      walk_at "fl"
      refine ⟨fun done rest ρ => (∀ d ∈ rest, pl d = true) ∧ ∃ (l : Int) (a : Fl.A), ρ = [.fz (.tup ds), .fz (.int m), .fz (.int l), a] ∧ lotB m (.tup ds) = lotGo m l rest, ⟨pl_tup p, -1, .un, rfl, rfl⟩, ?_, ?_⟩
      · rintro done d rest ρ2 ⟨hp, l, a, rfl, e⟩
        have pd := hp d (by simp)
        walk_at "fl"
        refine ⟨rfl, pl_plain pd, ?_⟩
        walk_at "fl"
        refine iteN (fun c1 => ?_) (fun c1 => ?_)
        · rw [lotGo_out c1] at e
          walk_at "fl"
          rw [e] at q
          exact q
        · obtain ⟨i, rfl, _, _⟩ := withinD_int c1
          rw [lotGo_in c1] at e
          walk_at "fl"
          exact ⟨fun d hd => hp d (List.mem_cons_of_mem _ hd), i, _, rfl, e⟩
      · rintro done ρ2 ⟨hp, l, a, rfl, e⟩
        walk_at "fl"
        rw [e] at q
        exact q
end Fl

set_option Elab.async false
set_option linter.all false
set_option maxRecDepth 100000
set_option maxHeartbeats 1000000
namespace Fl
open PySem PySem.Spec PyProof.Rows L2
local macro_rules | `(tactic| walk_at "fl") => `(tactic| with_reducible conv => whnf)
local macro_rules | `(tactic| walk_at "yes") => `(tactic| ((with_reducible (conv => whnf)); rw [if_pos rfl]; (with_reducible (conv => whnf))))
local macro_rules | `(tactic| walk_at "no") => `(tactic| ((with_reducible (conv => whnf)); rw [if_neg Bool.false_ne_true]; (with_reducible (conv => whnf))))
local macro_rules | `(tactic| walk_at "len") => `(tactic| (first | (simp only [List.length_map, List.length_append, List.length_cons, List.length_nil, List.length_reverse, List.length_replicate]; omega) | (simp only [List.length_map, List.length_append, List.length_cons, List.length_nil, List.length_reverse, List.length_replicate] at *; omega)))
local macro_rules | `(tactic| walk_at "sd") => `(tactic| first | with_reducible rfl | assumption | exact True.intro | omega | walk_at "len" | rfl | decide)
local macro_rules | `(tactic| walk_at "sds") => `(tactic| first | walk_at "sd" | exact And.intro (by walk_at "sd") (by walk_at "sd") | exact And.intro (by walk_at "sd") (And.intro (by walk_at "sd") (by walk_at "sd")) | exact And.intro (And.intro (by walk_at "sd") (by walk_at "sd")) (by walk_at "sd"))
local macro_rules | `(tactic| walk_at "g1") => `(tactic| ((first | refine And.intro (by walk_at "sds") ?_ | with_reducible refine ifT ?_ | with_reducible refine ifF ?_ | with_reducible refine ifNT ?_ | with_reducible refine ifNF ?_ | with_reducible refine Exists.intro _ (And.intro rfl ?_) | refine isi_plain (by walk_at "sd") (by decide) ?_ | refine Exists.intro _ (And.intro (by assumption) ?_) | refine Exists.intro _ (And.intro rfl ?_) | refine Exists.intro _ (Exists.intro _ (Exists.intro _ (And.intro rfl ?_))) | refine Exists.intro _ (Exists.intro _ (And.intro rfl ?_)) | refine Exists.intro _ (Exists.intro _ (Exists.intro _ (Exists.intro _ (And.intro rfl ?_))))); (with_reducible conv => whnf)))
local macro_rules | `(tactic| walk_at "go") => `(tactic| ((with_reducible conv => whnf); repeat walk_at "g1"))
variable {P : Program} {w : World} {K : PySem.W.Frag} {mg : Str → Option Value} {base : Heap} {A : Ad}
theorem wp_is_lot_of (T : Txt K mg A) (as : List AA) (Q : RV → List AA → Prop) (E : Ex → List AA → Prop) (ha : as.length = 2) (h : sp_is_lot_of K A as Q E) : ws_is_lot_of K A (wEnd as Q E) (argU 0 as 0) := by
  match as, h with
  | [.dv n, .dv x], ⟨m, r, ls, e, p, q⟩ =>
    subst e
    walk_at "fl"
    refine ⟨rfl, _, rfl, ?_⟩
    walk_at "fl"
    rw [List.length_map]
    exact ⟨rfl, p, q⟩
end Fl

set_option Elab.async false
set_option linter.all false
set_option maxRecDepth 100000
set_option maxHeartbeats 1000000
namespace Fl
open PySem PySem.Spec PyProof.Rows L2
local macro_rules | `(tactic| walk_at "fl") => `(tactic| with_reducible conv => whnf)
local macro_rules | `(tactic| walk_at "yes") => `(tactic| ((with_reducible (conv => whnf)); rw [if_pos rfl]; (with_reducible (conv => whnf))))
local macro_rules | `(tactic| walk_at "no") => `(tactic| ((with_reducible (conv => whnf)); rw [if_neg Bool.false_ne_true]; (with_reducible (conv => whnf))))
local macro_rules | `(tactic| walk_at "len") => `(tactic| (first | (simp only [List.length_map, List.length_append, List.length_cons, List.length_nil, List.length_reverse, List.length_replicate]; omega) | (simp only [List.length_map, List.length_append, List.length_cons, List.length_nil, List.length_reverse, List.length_replicate] at *; omega)))
local macro_rules | `(tactic| walk_at "sd") => `(tactic| first | with_reducible rfl | assumption | exact True.intro | omega | walk_at "len" | rfl | decide)
local macro_rules | `(tactic| walk_at "sds") => `(tactic| first | walk_at "sd" | exact And.intro (by walk_at "sd") (by walk_at "sd") | exact And.intro (by walk_at "sd") (And.intro (by walk_at "sd") (by walk_at "sd")) | exact And.intro (And.intro (by walk_at "sd") (by walk_at "sd")) (by walk_at "sd"))
local macro_rules | `(tactic| walk_at "g1") => `(tactic| ((first | refine And.intro (by walk_at "sds") ?_ | with_reducible refine ifT ?_ | with_reducible refine ifF ?_ | with_reducible refine ifNT ?_ | with_reducible refine ifNF ?_ | with_reducible refine Exists.intro _ (And.intro rfl ?_) | refine isi_plain (by walk_at "sd") (by decide) ?_ | refine Exists.intro _ (And.intro (by assumption) ?_) | refine Exists.intro _ (And.intro rfl ?_) | refine Exists.intro _ (Exists.intro _ (Exists.intro _ (And.intro rfl ?_))) | refine Exists.intro _ (Exists.intro _ (And.intro rfl ?_)) | refine Exists.intro _ (Exists.intro _ (Exists.intro _ (Exists.intro _ (And.intro rfl ?_))))); (with_reducible conv => whnf)))
local macro_rules | `(tactic| walk_at "go") => `(tactic| ((with_reducible conv => whnf); repeat walk_at "g1"))
variable {P : Program} {w : World} {K : PySem.W.Frag} {mg : Str → Option Value} {base : Heap} {A : Ad}
theorem wp_reached (T : Txt K mg A) (as : List AA) (Q : RV → List AA → Prop) (E : Ex → List AA → Prop) (ha : as.length = 3) (h : sp_reached K A as Q E) : ws_reached K A (wEnd as Q E) (argU 0 as 6) := by
  match as, h with
  | [.dv n, .dv x, .dv y], ⟨m, r, ls, js, ps, e1, N, e2, hl, e3, nd, hp, q⟩ =>
    subst e1 e2 e3
    have h60 : js.length ≤ 60 := by
      have := few_of (n := ls.length) hl.nodup fun x hx => hl.1 x hx
      have := N.len
      omega
    walk_at "fl"
    refine ⟨fun k ρ => ∃ (found : List Int) (b : Bool) (a5 a7 : Fl.A), ρ = [.fz (netD A m r ls), .fz (lotD js), .fz (.lst (ps.map D.int)), .ow (.lst (found.map D.int)), .fz (.bl b), a5, .un, a7, .un] ∧
      found.Nodup ∧ (∀ x ∈ found, (0 ≤ x ∧ x < m) ∧ RS (edges ls js) ps x) ∧ (∀ x ∈ ps, x ∈ found) ∧ (b = false → ∀ e ∈ edges ls js, e.1 ∈ found → e.2 ∈ found) ∧ k = 2 * (m.toNat - found.length) + b.toNat,
      ⟨_, ps, true, .un, .un, rfl, nd, fun x hx => ⟨hp x hx, .base hx⟩, fun x hx => hx, fun z => (by cases z), rfl⟩, ?_⟩
    rintro k ρ1 ⟨found, b, a5, a7, rfl, fnd, hin, hps, hcl, hk⟩
    walk_at "fl"
    cases b with
    | false =>
      refine ifF ?_
      walk_at "fl"
      refine q found fun z => ⟨fun hz => (hin z hz).2, fun hz => ?_⟩
      induction hz with
      | base h => exact hps _ h
      | step h _ ih => exact hcl rfl _ h ih
    | true =>
      refine ifT ?_
      walk_at "fl"
      refine ⟨⟨⟨rfl, True.intro⟩, by rw [List.length_map]; omega⟩, fun rest acc ρ => ∃ (a b : List Int), js = a ++ b ∧ rest = b.map D.int ∧ acc = ((a.filter fun j => decide ((lk ls j).1 ∈ found)).map fun j => (lk ls j).2).map D.int ∧
        ρ = [.fz (netD A m r ls), .fz (lotD js), .fz (.lst (ps.map D.int)), .ow (.lst (found.map D.int)), .fz (.bl true), a5, .un, a7, .un], ⟨[], js, rfl, rfl, rfl, rfl⟩, ?_, ?_⟩
      · rintro d rest acc ρ2 ⟨a, b, e1, e2, rfl, rfl⟩
        cases b with
        | nil => cases e2
        | cons j b =>
          rw [List.map_cons] at e2
          injection e2 with e2 e3
          subst e2 e3
          have hj := hl.1 j (by rw [e1]; simp)
          walk_at "fl"
          refine ⟨rfl, _, rfl, ?_⟩
          walk_at "fl"
          refine ⟨_, at_links hj.1 hj.2, ?_⟩
          walk_at "fl"
          refine ⟨_, rfl, ?_⟩
          walk_at "fl"
          refine ⟨.inl (by rw [flat_ints]; rfl), ?_⟩
          walk_at "fl"
          rw [mem_ints]
          refine iteB (fun c => ?_) (fun c => ?_)
          · walk_at "fl"
            refine ⟨rfl, _, rfl, ?_⟩
            walk_at "fl"
            refine ⟨_, at_links hj.1 hj.2, ?_⟩
            walk_at "fl"
            refine ⟨_, rfl, ?_⟩
            walk_at "fl"
            refine ⟨a ++ [j], b, by rw [e1, List.append_assoc]; rfl, rfl, ?_, rfl⟩
            rw [List.filter_append, List.filter_cons, if_pos c]
            simp
          · walk_at "fl"
            refine ⟨a ++ [j], b, by rw [e1, List.append_assoc]; rfl, rfl, ?_, rfl⟩
            rw [List.filter_append, List.filter_cons, if_neg (by rw [c]; exact Bool.false_ne_true)]
            simp
      · rintro acc ρ2 ⟨a, b, e1, e2, rfl, rfl⟩
        have : b = [] := by cases b <;> first | rfl | cases e2
        subst this
        rw [List.append_nil] at e1
        subst e1
        generalize he : ((js.filter fun j => decide ((lk ls j).1 ∈ found)).map fun j => (lk ls j).2) = es
        have es60 : es.length ≤ 60 := by
          rw [← he, List.length_map]
          exact Nat.le_trans (List.length_filter_le _ _) h60
        walk_at "fl"
        refine ⟨⟨⟨rfl, True.intro⟩, by rw [List.length_map]; omega⟩, fun rest acc ρ => ∃ (a b : List Int), es = a ++ b ∧ rest = b.map D.int ∧ acc = (a.filter fun x => !decide (x ∈ found)).map D.int ∧
          ρ = [.fz (netD A m r ls), .fz (lotD js), .fz (.lst (ps.map D.int)), .ow (.lst (found.map D.int)), .fz (.bl true), .fz (.lst (es.map D.int)), .un, a7, .un], ⟨[], es, rfl, rfl, rfl, rfl⟩, ?_, ?_⟩
        · rintro d rest acc ρ2 ⟨a, b, e1, e2, rfl, rfl⟩
          cases b with
          | nil => cases e2
          | cons x b =>
            rw [List.map_cons] at e2
            injection e2 with e2 e3
            subst e2 e3
            walk_at "fl"
            refine ⟨.inl (by rw [flat_ints]; rfl), ?_⟩
            walk_at "fl"
            rw [mem_ints]
            refine iteB (fun c => ?_) (fun c => ?_)
            · walk_at "fl"
              refine ⟨a ++ [x], b, by rw [e1, List.append_assoc]; rfl, rfl, ?_, rfl⟩
              rw [List.filter_append, List.filter_cons, if_pos c]
              simp
            · walk_at "fl"
              refine ⟨a ++ [x], b, by rw [e1, List.append_assoc]; rfl, rfl, ?_, rfl⟩
              rw [List.filter_append, List.filter_cons, if_neg (by rw [c]; exact Bool.false_ne_true)]
              simp
        · rintro acc ρ2 ⟨a, b, e1, e2, rfl, rfl⟩
          have : b = [] := by cases b <;> first | rfl | cases e2
          subst this
          rw [List.append_nil] at e1
          subst e1
          generalize hn : (es.filter fun x => !decide (x ∈ found)) = ns
          have ns60 : ns.length ≤ 60 := by rw [← hn]; exact Nat.le_trans (List.length_filter_le _ _) es60
          have mem : ∀ z, z ∈ isort (dups ns) ↔ z ∉ found ∧ ∃ e ∈ edges ls js, e.1 ∈ found ∧ e.2 = z := fun z => by
            rw [(isort_perm _).mem_iff, mem_dups, ← hn, List.mem_filter, ← he, List.mem_map]
            simp only [List.mem_filter, decide_eq_true_eq, Bool.not_eq_true', decide_eq_false_iff_not, edges, List.mem_map]
            constructor
            · rintro ⟨⟨j, ⟨h1, h2⟩, rfl⟩, h3⟩
              exact ⟨h3, _, ⟨j, h1, rfl⟩, h2, rfl⟩
            · rintro ⟨h3, _, ⟨j, h1, rfl⟩, h2, rfl⟩
              exact ⟨⟨j, ⟨h1, h2⟩, rfl⟩, h3⟩
          have mnd : (isort (dups ns)).Nodup := (isort_perm _).nodup_iff.mpr (nodup_dups _)
          walk_at "fl"
          refine ⟨_, rfl, by omega, ?_⟩
          walk_at "fl"
          refine ⟨by omega, ?_⟩
          generalize isort (dups ns) = mo at mem mnd ⊢
          have mn : ∀ z ∈ mo, 0 ≤ z ∧ z < m := fun z hz => by
            obtain ⟨_, e, he, _, rfl⟩ := (mem z).mp hz
            exact (edge_range N hl e he).2.1
          have f10 : found.length ≤ m.toNat := few_of fnd fun z hz => by have := (hin z hz).1; omega
          have m10 : mo.length ≤ m.toNat := few_of mnd fun z hz => by have := mn z hz; omega
          have N10 := N.m10
          have snd : (found ++ mo).Nodup := List.nodup_append.mpr ⟨fnd, mnd, fun a ha b hb e => by
            subst e
            exact ((mem a).mp hb).1 ha⟩
          have s10 : (found ++ mo).length ≤ m.toNat := few_of snd fun z hz => by
            rcases List.mem_append.mp hz with hz | hz
            · have := (hin z hz).1; omega
            · have := mn z hz; omega
          walk_at "fl"
          refine ⟨rfl, ?_⟩
          walk_at "fl"
          rw [List.length_map, List.length_map]
          refine ⟨by omega, ?_⟩
          walk_at "fl"
          refine ⟨_, ?_, found ++ mo, decide ((0 : Int) < (mo.length : Nat)), .fz (.lst (es.map D.int)), .fz (.lst (mo.map D.int)), ?_, snd, fun z hz => ?_, fun z hz => List.mem_append.mpr (.inl (hps z hz)), fun hb e he h1 => ?_, rfl⟩
          · rw [hk]
            rw [List.length_append] at s10 ⊢
            by_cases hm : (0 : Int) < (mo.length : Nat)
            · rw [decide_eq_true hm]
              show 2 * (m.toNat - (found.length + mo.length)) + 1 < 2 * (m.toNat - found.length) + 1
              omega
            · rw [decide_eq_false hm]
              show 2 * (m.toNat - (found.length + mo.length)) + 0 < 2 * (m.toNat - found.length) + 1
              omega
          · rw [List.map_append]
          · rcases List.mem_append.mp hz with hz | hz
            · exact hin z hz
            · obtain ⟨_, e, he, h1, rfl⟩ := (mem z).mp hz
              exact ⟨mn _ hz, .step (a := e.1) he (hin _ h1).2⟩
          · have hm := of_decide_eq_false hb
            have h0 : mo = [] := List.eq_nil_of_length_eq_zero (by omega)
            subst h0
            rw [List.append_nil] at h1 ⊢
            refine Classical.byContradiction fun hno => ?_
            have := (mem e.2).mpr ⟨hno, e, he, h1, rfl⟩
            cases this
end Fl

set_option Elab.async false
set_option linter.all false
set_option maxRecDepth 100000
set_option maxHeartbeats 1000000
namespace Fl
open PySem PySem.Spec PyProof.Rows L2
local macro_rules | `(tactic| walk_at "fl") => `(tactic| with_reducible conv => whnf)
local macro_rules | `(tactic| walk_at "yes") => `(tactic| ((with_reducible (conv => whnf)); rw [if_pos rfl]; (with_reducible (conv => whnf))))
local macro_rules | `(tactic| walk_at "no") => `(tactic| ((with_reducible (conv => whnf)); rw [if_neg Bool.false_ne_true]; (with_reducible (conv => whnf))))
local macro_rules | `(tactic| walk_at "len") => `(tactic| (first | (simp only [List.length_map, List.length_append, List.length_cons, List.length_nil, List.length_reverse, List.length_replicate]; omega) | (simp only [List.length_map, List.length_append, List.length_cons, List.length_nil, List.length_reverse, List.length_replicate] at *; omega)))
local macro_rules | `(tactic| walk_at "sd") => `(tactic| first | with_reducible rfl | assumption | exact True.intro | omega | walk_at "len" | rfl | decide)
local macro_rules | `(tactic| walk_at "sds") => `(tactic| first | walk_at "sd" | exact And.intro (by walk_at "sd") (by walk_at "sd") | exact And.intro (by walk_at "sd") (And.intro (by walk_at "sd") (by walk_at "sd")) | exact And.intro (And.intro (by walk_at "sd") (by walk_at "sd")) (by walk_at "sd"))
local macro_rules | `(tactic| walk_at "g1") => `(tactic| ((first | refine And.intro (by walk_at "sds") ?_ | with_reducible refine ifT ?_ | with_reducible refine ifF ?_ | with_reducible refine ifNT ?_ | with_reducible refine ifNF ?_ | with_reducible refine Exists.intro _ (And.intro rfl ?_) | refine isi_plain (by walk_at "sd") (by decide) ?_ | refine Exists.intro _ (And.intro (by assumption) ?_) | refine Exists.intro _ (And.intro rfl ?_) | refine Exists.intro _ (Exists.intro _ (Exists.intro _ (And.intro rfl ?_))) | refine Exists.intro _ (Exists.intro _ (And.intro rfl ?_)) | refine Exists.intro _ (Exists.intro _ (Exists.intro _ (Exists.intro _ (And.intro rfl ?_))))); (with_reducible conv => whnf)))
local macro_rules | `(tactic| walk_at "go") => `(tactic| ((with_reducible conv => whnf); repeat walk_at "g1"))
variable {P : Program} {w : World} {K : PySem.W.Frag} {mg : Str → Option Value} {base : Heap} {A : Ad}
theorem wp_is_wood (T : Txt K mg A) (as : List AA) (Q : RV → List AA → Prop) (E : Ex → List AA → Prop) (ha : as.length = 3) (h : sp_is_wood K A as Q E) : ws_is_wood K A (wEnd as Q E) (argU 0 as 4) := by
  match as, h with
  | [.dv n, .dv x, .dv y], ⟨m, r, ls, js, ps, e1, N, e2, hl, e3, nd, hp, q⟩ =>
    subst e1 e2 e3
    walk_at "fl"
    have h60 : js.length ≤ 60 := by
      have := few_of (n := ls.length) hl.nodup fun x hx => hl.1 x hx
      have := N.len
      omega
    refine ⟨⟨⟨rfl, True.intro⟩, by rw [List.length_map]; omega⟩, fun rest acc ρ => ∃ (a b : List Int), js = a ++ b ∧ rest = b.map D.int ∧ acc = (heads ls a).map D.int ∧ ρ = [.fz (netD A m r ls), .fz (lotD js), .fz (.lst (ps.map D.int)), .un, .un, .un, .un], ⟨[], js, rfl, rfl, rfl, rfl⟩, ?_, ?_⟩
    · rintro d rest acc ρ2 ⟨a, b, e1, e2, rfl, rfl⟩
      cases b with
      | nil => cases e2
      | cons j b =>
        rw [List.map_cons] at e2
        injection e2 with e2 e3
        subst e2 e3
        have hj := hl.1 j (by rw [e1]; simp)
        walk_at "fl"
        refine ifT ?_
        walk_at "fl"
        refine ⟨rfl, _, rfl, ?_⟩
        walk_at "fl"
        refine ⟨_, at_links hj.1 hj.2, ?_⟩
        walk_at "fl"
        refine ⟨_, rfl, ?_⟩
        walk_at "fl"
        refine ⟨a ++ [j], b, by rw [e1, List.append_assoc]; rfl, rfl, ?_, rfl⟩
        simp [heads, edges]
    · rintro acc ρ2 ⟨a, b, e1, e2, rfl, rfl⟩
      have : b = [] := by cases b <;> first | rfl | cases e2
      subst this
      rw [List.append_nil] at e1
      subst e1
      have hh := heads_len (ls := ls) (js := js)
      walk_at "fl"
      refine ⟨_, rfl, by omega, ?_⟩
      walk_at "fl"
      refine ⟨by omega, ?_⟩
      walk_at "fl"
      rw [List.length_map]
      refine iteB (fun c => ?_) (fun c => ?_)
      · refine ifT ?_
        walk_at "fl"
        refine q false ⟨fun z => (by cases z), fun g => ?_⟩
        have c := of_decide_eq_true c
        have := dups_same.mpr g.once
        omega
      · have once : (heads ls js).Nodup := by
          have c := of_decide_eq_false c
          have := dups_len (heads ls js)
          exact dups_same.mp (by omega)
        walk_at "fl"
        refine ⟨⟨⟨rfl, True.intro⟩, by
          have := few_of (n := m.toNat) nd fun x hx => by have := hp x hx; omega
          have := N.m10
          rw [List.length_map]
          omega⟩, fun rest acc ρ => ∃ (a b : List Int) (bs : List Bool), ps = a ++ b ∧ rest = b.map D.int ∧ acc = bs.map D.bl ∧ (bs.any id = true ↔ ∃ x ∈ a, x ∈ heads ls js) ∧ ρ = [.fz (netD A m r ls), .fz (lotD js), .fz (.lst (ps.map D.int)), .ow (.lst ((heads ls js).map D.int)), .un, .un, .un],
          ⟨[], ps, [], rfl, rfl, rfl, by simp, rfl⟩, ?_, ?_⟩
        · rintro d rest acc ρ2 ⟨a, b, bs, e1, e2, rfl, hb, rfl⟩
          cases b with
          | nil => cases e2
          | cons x b =>
            rw [List.map_cons] at e2
            injection e2 with e2 e3
            subst e2 e3
            walk_at "fl"
            refine ifT ?_
            walk_at "fl"
            refine ⟨.inl (by rw [flat_ints]; rfl), ?_⟩
            walk_at "fl"
            rw [mem_ints]
            refine ⟨a ++ [x], b, bs ++ [decide (x ∈ heads ls js)], by rw [e1, List.append_assoc]; rfl, rfl, by rw [List.map_append]; rfl, any_snoc hb decide_eq_true_iff, rfl⟩
        · rintro acc ρ2 ⟨a, b, bs, e1, e2, rfl, hb, rfl⟩
          have : b = [] := by cases b <;> first | rfl | cases e2
          subst this
          rw [List.append_nil] at e1
          subst e1
          walk_at "fl"
          refine ⟨bs, rfl, ?_⟩
          walk_at "fl"
          refine iteB (fun c2 => ?_) (fun c2 => ?_)
          · have c2 : bs.any id = true := c2
            walk_at "fl"
            refine q false ⟨fun z => (by cases z), fun g => ?_⟩
            obtain ⟨x, h1, h2⟩ := hb.mp c2
            exact absurd h2 (g.out x h1)
          · have c2 : bs.any id = false := c2
            have out : ∀ x ∈ ps, x ∉ heads ls js := fun x h1 h2 => by
              rw [hb.mpr ⟨x, h1, h2⟩] at c2
              cases c2
            walk_at "fl"
            refine ⟨rfl, m, r, ls, js, ps, rfl, N, rfl, hl, rfl, nd, hp, fun found hf => ?_⟩
            walk_at "fl"
            refine ⟨⟨⟨rfl, True.intro⟩, by rw [List.length_map]; omega⟩, fun rest acc ρ => ∃ (a b : List Int) (bs : List Bool), heads ls js = a ++ b ∧ rest = b.map D.int ∧ acc = bs.map D.bl ∧ (bs.all id = true ↔ ∀ x ∈ a, x ∈ found) ∧
              ρ = [.fz (netD A m r ls), .fz (lotD js), .fz (.lst (ps.map D.int)), .fz (.lst ((heads ls js).map D.int)), .un, .un, .ow (.lst (found.map D.int))], ⟨[], heads ls js, [], rfl, rfl, rfl, by simp, rfl⟩, ?_, ?_⟩
            · rintro d rest acc ρ2 ⟨a, b, bs, e1, e2, rfl, hb, rfl⟩
              cases b with
              | nil => cases e2
              | cons x b =>
                rw [List.map_cons] at e2
                injection e2 with e2 e3
                subst e2 e3
                walk_at "fl"
                refine ifT ?_
                walk_at "fl"
                refine ⟨.inl (by rw [flat_ints]; rfl), ?_⟩
                walk_at "fl"
                rw [mem_ints]
                refine ⟨a ++ [x], b, bs ++ [decide (x ∈ found)], by rw [e1, List.append_assoc]; rfl, rfl, by rw [List.map_append]; rfl, all_snoc hb decide_eq_true_iff, rfl⟩
            · rintro acc ρ2 ⟨a, b, bs, e1, e2, rfl, hb, rfl⟩
              have : b = [] := by cases b <;> first | rfl | cases e2
              subst this
              rw [List.append_nil] at e1
              rw [← e1] at hb
              walk_at "fl"
              refine ⟨bs, rfl, ?_⟩
              walk_at "fl"
              refine q _ (Iff.trans hb ⟨fun h => ⟨hl, once, out, fun x hx => (hf x).mp (h x hx)⟩, fun g x hx => (hf x).mpr (g.all x hx)⟩)
end Fl

set_option Elab.async false
set_option linter.all false
set_option maxRecDepth 100000
set_option maxHeartbeats 1000000
namespace Fl
open PySem PySem.Spec PyProof.Rows L2
local macro_rules | `(tactic| walk_at "fl") => `(tactic| with_reducible conv => whnf)
local macro_rules | `(tactic| walk_at "yes") => `(tactic| ((with_reducible (conv => whnf)); rw [if_pos rfl]; (with_reducible (conv => whnf))))
local macro_rules | `(tactic| walk_at "no") => `(tactic| ((with_reducible (conv => whnf)); rw [if_neg Bool.false_ne_true]; (with_reducible (conv => whnf))))
local macro_rules | `(tactic| walk_at "len") => `(tactic| (first | (simp only [List.length_map, List.length_append, List.length_cons, List.length_nil, List.length_reverse, List.length_replicate]; omega) | (simp only [List.length_map, List.length_append, List.length_cons, List.length_nil, List.length_reverse, List.length_replicate] at *; omega)))
local macro_rules | `(tactic| walk_at "sd") => `(tactic| first | with_reducible rfl | assumption | exact True.intro | omega | walk_at "len" | rfl | decide)
local macro_rules | `(tactic| walk_at "sds") => `(tactic| first | walk_at "sd" | exact And.intro (by walk_at "sd") (by walk_at "sd") | exact And.intro (by walk_at "sd") (And.intro (by walk_at "sd") (by walk_at "sd")) | exact And.intro (And.intro (by walk_at "sd") (by walk_at "sd")) (by walk_at "sd"))
local macro_rules | `(tactic| walk_at "g1") => `(tactic| ((first | refine And.intro (by walk_at "sds") ?_ | with_reducible refine ifT ?_ | with_reducible refine ifF ?_ | with_reducible refine ifNT ?_ | with_reducible refine ifNF ?_ | with_reducible refine Exists.intro _ (And.intro rfl ?_) | refine isi_plain (by walk_at "sd") (by decide) ?_ | refine Exists.intro _ (And.intro (by assumption) ?_) | refine Exists.intro _ (And.intro rfl ?_) | refine Exists.intro _ (Exists.intro _ (Exists.intro _ (And.intro rfl ?_))) | refine Exists.intro _ (Exists.intro _ (And.intro rfl ?_)) | refine Exists.intro _ (Exists.intro _ (Exists.intro _ (Exists.intro _ (And.intro rfl ?_))))); (with_reducible conv => whnf)))
local macro_rules | `(tactic| walk_at "go") => `(tactic| ((with_reducible conv => whnf); repeat walk_at "g1"))
variable {P : Program} {w : World} {K : PySem.W.Frag} {mg : Str → Option Value} {base : Heap} {A : Ad}
theorem wp_is_grown (T : Txt K mg A) (as : List AA) (Q : RV → List AA → Prop) (E : Ex → List AA → Prop) (ha : as.length = 2) (h : sp_is_grown K A as Q E) : ws_is_grown K A (wEnd as Q E) (argU 0 as 0) := by
  match as, h with
  | [.dv n, .dv x], ⟨m, r, ls, e, N, p, q⟩ =>
    subst e
    walk_at "fl"
    refine ⟨rfl, m, r, ls, rfl, ?_⟩
    walk_at "fl"
    refine ⟨rfl, m, r, ls, rfl, p, ?_⟩
    walk_at "fl"
    refine iteB (fun c => ?_) (fun c => ?_)
    · obtain ⟨js, rfl, hl⟩ := lotB_iff.mp c
      walk_at "fl"
      refine ⟨rfl, _, rfl, ?_⟩
      walk_at "fl"
      refine ⟨rfl, m, r, ls, js, [r], rfl, N, rfl, hl, rfl, by simp, fun p hp => by rw [List.mem_singleton.mp hp]; exact ⟨N.r0, N.rm⟩, fun b hb => ?_⟩
      walk_at "fl"
      refine q b (hb.trans ⟨fun g => ⟨js, rfl, g⟩, ?_⟩)
      rintro ⟨js', e, g⟩
      have : js = js' := ints_inj (by injection e)
      rw [this]; exact g
    · walk_at "fl"
      refine q _ ?_
      rw [c]
      refine ⟨fun z => (by cases z), ?_⟩
      rintro ⟨js, rfl, g⟩
      rw [lotB_iff.mpr ⟨js, rfl, g.lot⟩] at c
      cases c
end Fl

set_option Elab.async false
set_option linter.all false
set_option maxRecDepth 100000
set_option maxHeartbeats 1000000
namespace Fl
open PySem PySem.Spec PyProof.Rows L2
local macro_rules | `(tactic| walk_at "fl") => `(tactic| with_reducible conv => whnf)
local macro_rules | `(tactic| walk_at "yes") => `(tactic| ((with_reducible (conv => whnf)); rw [if_pos rfl]; (with_reducible (conv => whnf))))
local macro_rules | `(tactic| walk_at "no") => `(tactic| ((with_reducible (conv => whnf)); rw [if_neg Bool.false_ne_true]; (with_reducible (conv => whnf))))
local macro_rules | `(tactic| walk_at "len") => `(tactic| (first | (simp only [List.length_map, List.length_append, List.length_cons, List.length_nil, List.length_reverse, List.length_replicate]; omega) | (simp only [List.length_map, List.length_append, List.length_cons, List.length_nil, List.length_reverse, List.length_replicate] at *; omega)))
local macro_rules | `(tactic| walk_at "sd") => `(tactic| first | with_reducible rfl | assumption | exact True.intro | omega | walk_at "len" | rfl | decide)
local macro_rules | `(tactic| walk_at "sds") => `(tactic| first | walk_at "sd" | exact And.intro (by walk_at "sd") (by walk_at "sd") | exact And.intro (by walk_at "sd") (And.intro (by walk_at "sd") (by walk_at "sd")) | exact And.intro (And.intro (by walk_at "sd") (by walk_at "sd")) (by walk_at "sd"))
local macro_rules | `(tactic| walk_at "g1") => `(tactic| ((first | refine And.intro (by walk_at "sds") ?_ | with_reducible refine ifT ?_ | with_reducible refine ifF ?_ | with_reducible refine ifNT ?_ | with_reducible refine ifNF ?_ | with_reducible refine Exists.intro _ (And.intro rfl ?_) | refine isi_plain (by walk_at "sd") (by decide) ?_ | refine Exists.intro _ (And.intro (by assumption) ?_) | refine Exists.intro _ (And.intro rfl ?_) | refine Exists.intro _ (Exists.intro _ (Exists.intro _ (And.intro rfl ?_))) | refine Exists.intro _ (Exists.intro _ (And.intro rfl ?_)) | refine Exists.intro _ (Exists.intro _ (Exists.intro _ (Exists.intro _ (And.intro rfl ?_))))); (with_reducible conv => whnf)))
local macro_rules | `(tactic| walk_at "go") => `(tactic| ((with_reducible conv => whnf); repeat walk_at "g1"))
variable {P : Program} {w : World} {K : PySem.W.Frag} {mg : Str → Option Value} {base : Heap} {A : Ad}
theorem wp_is_tree (T : Txt K mg A) (as : List AA) (Q : RV → List AA → Prop) (E : Ex → List AA → Prop) (ha : as.length = 2) (h : sp_is_tree K A as Q E) : ws_is_tree K A (wEnd as Q E) (argU 0 as 0) := by
  match as, h with
  | [.dv n, .dv x], ⟨m, r, ls, e, N, p, q⟩ =>
    subst e
    walk_at "fl"
    refine ⟨rfl, m, r, ls, rfl, N, p, fun b hb => ?_⟩
    walk_at "fl"
    refine iteB (fun c => ?_) (fun c => ?_)
    · obtain ⟨js, rfl, g⟩ := hb.mp c
      walk_at "fl"
      refine ⟨rfl, _, rfl, ?_⟩
      walk_at "fl"
      refine q _ ?_
      rw [List.length_map, decide_eq_true_iff]
      constructor
      · intro e; exact ⟨js, rfl, g, e⟩
      · rintro ⟨js', e, _, e2⟩
        have : js = js' := ints_inj (by injection e)
        rw [this]; exact e2
    · rw [c] at hb
      walk_at "fl"
      refine q _ ?_
      rw [c]
      refine ⟨fun z => (by cases z), ?_⟩
      rintro ⟨js, e, g, _⟩
      exact hb.mpr ⟨js, e, g⟩
end Fl

set_option Elab.async false
set_option linter.all false
set_option maxRecDepth 100000
set_option maxHeartbeats 1000000
namespace Fl
open PySem PySem.Spec PyProof.Rows L2
local macro_rules | `(tactic| walk_at "fl") => `(tactic| with_reducible conv => whnf)
local macro_rules | `(tactic| walk_at "yes") => `(tactic| ((with_reducible (conv => whnf)); rw [if_pos rfl]; (with_reducible (conv => whnf))))
local macro_rules | `(tactic| walk_at "no") => `(tactic| ((with_reducible (conv => whnf)); rw [if_neg Bool.false_ne_true]; (with_reducible (conv => whnf))))
local macro_rules | `(tactic| walk_at "len") => `(tactic| (first | (simp only [List.length_map, List.length_append, List.length_cons, List.length_nil, List.length_reverse, List.length_replicate]; omega) | (simp only [List.length_map, List.length_append, List.length_cons, List.length_nil, List.length_reverse, List.length_replicate] at *; omega)))
local macro_rules | `(tactic| walk_at "sd") => `(tactic| first | with_reducible rfl | assumption | exact True.intro | omega | walk_at "len" | rfl | decide)
local macro_rules | `(tactic| walk_at "sds") => `(tactic| first | walk_at "sd" | exact And.intro (by walk_at "sd") (by walk_at "sd") | exact And.intro (by walk_at "sd") (And.intro (by walk_at "sd") (by walk_at "sd")) | exact And.intro (And.intro (by walk_at "sd") (by walk_at "sd")) (by walk_at "sd"))
local macro_rules | `(tactic| walk_at "g1") => `(tactic| ((first | refine And.intro (by walk_at "sds") ?_ | with_reducible refine ifT ?_ | with_reducible refine ifF ?_ | with_reducible refine ifNT ?_ | with_reducible refine ifNF ?_ | with_reducible refine Exists.intro _ (And.intro rfl ?_) | refine isi_plain (by walk_at "sd") (by decide) ?_ | refine Exists.intro _ (And.intro (by assumption) ?_) | refine Exists.intro _ (And.intro rfl ?_) | refine Exists.intro _ (Exists.intro _ (Exists.intro _ (And.intro rfl ?_))) | refine Exists.intro _ (Exists.intro _ (And.intro rfl ?_)) | refine Exists.intro _ (Exists.intro _ (Exists.intro _ (Exists.intro _ (And.intro rfl ?_))))); (with_reducible conv => whnf)))
local macro_rules | `(tactic| walk_at "go") => `(tactic| ((with_reducible conv => whnf); repeat walk_at "g1"))
variable {P : Program} {w : World} {K : PySem.W.Frag} {mg : Str → Option Value} {base : Heap} {A : Ad}
theorem wp_are_apart (T : Txt K mg A) (as : List AA) (Q : RV → List AA → Prop) (E : Ex → List AA → Prop) (ha : as.length = 1) (h : sp_are_apart K A as Q E) : ws_are_apart K A (wEnd as Q E) (argU 0 as 2) := by
  match as, h with
  | [.dv x], ⟨jss, e, hz, q⟩ =>
    subst e
    walk_at "fl"
    refine ⟨fun done rest ρ => ∃ (js1 js2 : List (List Int)) (a : Fl.A), ρ = [.fz (.tup (jss.map lotD)), .ow (.lst (js1.flatten.map D.int)), a] ∧ rest = js2.map lotD ∧ jss = js1 ++ js2, ⟨[], jss, .un, rfl, rfl, rfl⟩, ?_, ?_⟩
    · rintro done d rest ρ2 ⟨js1, js2, a, rfl, er, ej⟩
      cases js2 with
      | nil => cases er
      | cons j js2 =>
        rw [List.map_cons] at er
        injection er with e1 e2
        subst e1 e2
        have hz2 : js1.flatten.length + j.length ≤ 1000 := by
          rw [ej, List.flatten_append, List.flatten_cons, List.length_append, List.length_append] at hz
          omega
        walk_at "fl"
        refine ⟨rfl, ?_⟩
        walk_at "fl"
        rw [List.length_map, List.length_map]
        refine ⟨by omega, ?_⟩
        walk_at "fl"
        refine ⟨js1 ++ [j], js2, .fz (lotD j), ?_, rfl, by rw [ej, List.append_assoc]; rfl⟩
        show [_, Fl.A.ow (.lst (js1.flatten.map D.int ++ j.map D.int)), _] = _
        rw [List.flatten_append, List.map_append]
        simp
    · rintro done ρ2 ⟨js1, js2, a, rfl, er, ej⟩
      have : js2 = [] := by cases js2 <;> first | rfl | cases er
      subst this
      rw [List.append_nil] at ej
      subst ej
      walk_at "fl"
      refine ⟨_, rfl, hz, ?_⟩
      walk_at "fl"
      refine ⟨by omega, ?_⟩
      walk_at "fl"
      have e : decide (((dups jss.flatten).length : Int) = ((jss.flatten.map D.int).length : Nat)) = decide jss.flatten.Nodup := by
        rw [decide_eq_decide, List.length_map, ← dups_same]
        omega
      rw [e]
      exact q
end Fl

set_option Elab.async false
set_option linter.all false
set_option maxRecDepth 100000
set_option maxHeartbeats 1000000
namespace Fl
open PySem PySem.Spec PyProof.Rows L2
local macro_rules | `(tactic| walk_at "fl") => `(tactic| with_reducible conv => whnf)
local macro_rules | `(tactic| walk_at "yes") => `(tactic| ((with_reducible (conv => whnf)); rw [if_pos rfl]; (with_reducible (conv => whnf))))
local macro_rules | `(tactic| walk_at "no") => `(tactic| ((with_reducible (conv => whnf)); rw [if_neg Bool.false_ne_true]; (with_reducible (conv => whnf))))
local macro_rules | `(tactic| walk_at "len") => `(tactic| (first | (simp only [List.length_map, List.length_append, List.length_cons, List.length_nil, List.length_reverse, List.length_replicate]; omega) | (simp only [List.length_map, List.length_append, List.length_cons, List.length_nil, List.length_reverse, List.length_replicate] at *; omega)))
local macro_rules | `(tactic| walk_at "sd") => `(tactic| first | with_reducible rfl | assumption | exact True.intro | omega | walk_at "len" | rfl | decide)
local macro_rules | `(tactic| walk_at "sds") => `(tactic| first | walk_at "sd" | exact And.intro (by walk_at "sd") (by walk_at "sd") | exact And.intro (by walk_at "sd") (And.intro (by walk_at "sd") (by walk_at "sd")) | exact And.intro (And.intro (by walk_at "sd") (by walk_at "sd")) (by walk_at "sd"))
local macro_rules | `(tactic| walk_at "g1") => `(tactic| ((first | refine And.intro (by walk_at "sds") ?_ | with_reducible refine ifT ?_ | with_reducible refine ifF ?_ | with_reducible refine ifNT ?_ | with_reducible refine ifNF ?_ | with_reducible refine Exists.intro _ (And.intro rfl ?_) | refine isi_plain (by walk_at "sd") (by decide) ?_ | refine Exists.intro _ (And.intro (by assumption) ?_) | refine Exists.intro _ (And.intro rfl ?_) | refine Exists.intro _ (Exists.intro _ (Exists.intro _ (And.intro rfl ?_))) | refine Exists.intro _ (Exists.intro _ (And.intro rfl ?_)) | refine Exists.intro _ (Exists.intro _ (Exists.intro _ (Exists.intro _ (And.intro rfl ?_))))); (with_reducible conv => whnf)))
local macro_rules | `(tactic| walk_at "go") => `(tactic| ((with_reducible conv => whnf); repeat walk_at "g1"))
variable {P : Program} {w : World} {K : PySem.W.Frag} {mg : Str → Option Value} {base : Heap} {A : Ad}
theorem wp_is_packing (T : Txt K mg A) (as : List AA) (Q : RV → List AA → Prop) (E : Ex → List AA → Prop) (ha : as.length = 2) (h : sp_is_packing K A as Q E) : ws_is_packing K A (wEnd as Q E) (argU 0 as 1) := by
  match as, h with
  | [.dv n, .dv x], ⟨m, r, ls, e, N, p, hz, q⟩ =>
    subst e
    walk_at "fl"
    refine ⟨rfl, m, r, ls, rfl, ?_⟩
    walk_at "fl"
    refine isi_plain (pl_plain p) (by decide) ?_
    walk_at "fl"
    refine iteN (fun c => ?_) (fun c => ?_)
    · walk_at "fl"
      refine q false ⟨fun z => (by cases z), ?_⟩
      rintro ⟨jss, rfl, _⟩
      cases c
    · cases x <;> first | exact absurd (show false = true from c) Bool.false_ne_true | skip
      rename_i ds
      have hz := hz ds rfl
      walk_at "fl"
      refine ⟨⟨⟨rfl, True.intro⟩, by omega⟩, fun rest acc ρ => ∃ (done : List D) (bs : List Bool), ds = done ++ rest ∧ acc = bs.map D.bl ∧ (bs.all id = true ↔ ∀ d ∈ done, IsTree m r ls d) ∧ ρ = [.fz (netD A m r ls), .fz (.tup ds), .un], ⟨[], [], rfl, rfl, by simp, rfl⟩, ?_, ?_⟩
      · rintro d rest acc ρ2 ⟨done, bs, e1, rfl, hb, rfl⟩
        walk_at "fl"
        refine ⟨rfl, m, r, ls, rfl, N, pl_tup p d (by rw [e1]; simp), fun b h2 => ?_⟩
        walk_at "fl"
        refine ⟨done ++ [d], bs ++ [b], by rw [e1, List.append_assoc]; rfl, by rw [List.map_append]; rfl, all_snoc hb h2, rfl⟩
      · rintro acc ρ2 ⟨done, bs, e1, rfl, hb, rfl⟩
        rw [List.append_nil] at e1
        subst e1
        walk_at "fl"
        refine ⟨bs, rfl, ?_⟩
        walk_at "fl"
        refine iteN (fun c2 => ?_) (fun c2 => ?_)
        · have c2 : bs.all id = false := c2
          walk_at "fl"
          refine q false ⟨fun z => (by cases z), ?_⟩
          rintro ⟨jss, e, h1, _⟩
          injection e with e
          have := hb.mpr fun d hd => by
            rw [e] at hd
            obtain ⟨js, hj, rfl⟩ := List.mem_map.mp hd
            exact h1 js hj
          rw [this] at c2
          cases c2
        · obtain ⟨jss, rfl, hj⟩ := trees_lots (hb.mp c2)
          walk_at "fl"
          refine ⟨rfl, jss, rfl, ?_, ?_⟩
          · rw [List.length_map] at hz
            have := flat_few (n := 100) (k := 9) (jss := jss) (fun js h => by have := tree_len (hj js h); have := N.m10; omega) hz
            omega
          · walk_at "fl"
            refine q _ ?_
            rw [decide_eq_true_iff]
            constructor
            · intro nd; exact ⟨jss, rfl, hj, nd⟩
            · rintro ⟨jss', e, _, nd⟩
              have : jss = jss' := lots_inj (by injection e)
              rw [this]; exact nd
end Fl

set_option Elab.async false
set_option linter.all false
set_option maxRecDepth 100000
set_option maxHeartbeats 1000000
namespace Fl
open PySem PySem.Spec PyProof.Rows L2
local macro_rules | `(tactic| walk_at "fl") => `(tactic| with_reducible conv => whnf)
local macro_rules | `(tactic| walk_at "yes") => `(tactic| ((with_reducible (conv => whnf)); rw [if_pos rfl]; (with_reducible (conv => whnf))))
local macro_rules | `(tactic| walk_at "no") => `(tactic| ((with_reducible (conv => whnf)); rw [if_neg Bool.false_ne_true]; (with_reducible (conv => whnf))))
local macro_rules | `(tactic| walk_at "len") => `(tactic| (first | (simp only [List.length_map, List.length_append, List.length_cons, List.length_nil, List.length_reverse, List.length_replicate]; omega) | (simp only [List.length_map, List.length_append, List.length_cons, List.length_nil, List.length_reverse, List.length_replicate] at *; omega)))
local macro_rules | `(tactic| walk_at "sd") => `(tactic| first | with_reducible rfl | assumption | exact True.intro | omega | walk_at "len" | rfl | decide)
local macro_rules | `(tactic| walk_at "sds") => `(tactic| first | walk_at "sd" | exact And.intro (by walk_at "sd") (by walk_at "sd") | exact And.intro (by walk_at "sd") (And.intro (by walk_at "sd") (by walk_at "sd")) | exact And.intro (And.intro (by walk_at "sd") (by walk_at "sd")) (by walk_at "sd"))
local macro_rules | `(tactic| walk_at "g1") => `(tactic| ((first | refine And.intro (by walk_at "sds") ?_ | with_reducible refine ifT ?_ | with_reducible refine ifF ?_ | with_reducible refine ifNT ?_ | with_reducible refine ifNF ?_ | with_reducible refine Exists.intro _ (And.intro rfl ?_) | refine isi_plain (by walk_at "sd") (by decide) ?_ | refine Exists.intro _ (And.intro (by assumption) ?_) | refine Exists.intro _ (And.intro rfl ?_) | refine Exists.intro _ (Exists.intro _ (Exists.intro _ (And.intro rfl ?_))) | refine Exists.intro _ (Exists.intro _ (And.intro rfl ?_)) | refine Exists.intro _ (Exists.intro _ (Exists.intro _ (Exists.intro _ (And.intro rfl ?_))))); (with_reducible conv => whnf)))
local macro_rules | `(tactic| walk_at "go") => `(tactic| ((with_reducible conv => whnf); repeat walk_at "g1"))
variable {P : Program} {w : World} {K : PySem.W.Frag} {mg : Str → Option Value} {base : Heap} {A : Ad}
theorem ok__law_hand (T : Txt K mg A) : My.OkG P w K mg base (L2.CX P w) 1 A.a__law_hand A.d__law_hand P__law_hand (spHand K TLa) := by
  refine okHand T.F__law_hand sc__law_hand fun cdv AA out s H a ns Q E hg hr hs hl hQ => ?_
  refine ⟨_, (pss_one (ps_ret (pe_lst (pa_cons (pe_lc (own := [("_law_cell", 1)]) (g := gName 1) (tt := tYes) (by rfl) sc__law_hand.nd (pi_list (pe_slice sl_list (pv 0) po_none (po_some pe_int))) (blkOk_by (own := [("_law_cell", 1)]) (N := N__law_hand) (sc := defScope s__law_hand) (by decide +kernel))
    (fun _ _ _ _ _ => pg_name (i := 1) sc__law_hand.nd rfl (Or.inl rfl)) (fun _ _ _ _ _ => pts_nil) (fun _ _ _ _ _ => pe_callTy call_int1 (by rfl) T.b_int (by decide +kernel) (pa_cons (pv 1) pa_nil))) (pa_cons pe_int (pa_cons pe_int (pa_cons pe_int pa_nil))))))), ?_⟩
  have ec : cutV (ns.map V.int) none (some 63) = ns.map V.int := by
    rw [show (63 : Int) = ((63 : Nat) : Int) from rfl, cutV_to, List.take_of_length_le (by rw [List.length_map]; exact hl)]
  refine ⟨_, rfl, _, rfl, a, _, rfl, hs, fun p np => ?_⟩
  rw [ec]
  refine ⟨p, rfl, ⟨_, SqL.of upd_same⟩, fun D hD => hand_lc (f := id) (N := 2) hl np rfl (by decide) hD (fun c H' Q' q => ⟨_, rfl, .inl ⟨_, rfl, q⟩⟩) fun H' k1 k2 k3 k4 => ⟨show 4 ≤ sizeLine by decide, fun d hd => ?_⟩⟩
  rw [List.map_id] at k3
  have ndD : d ≠ D := fun e => by rw [e, k3] at hd; cases hd
  refine hQ _ d D ns [0, 0, 0] ⟨rfl, hl⟩ (fun b o e => by rw [upd_ne (ne_of_none (k1 b o e) hd)]; exact k1 b o e) (k4 d hd) k2 ndD (by rw [upd_ne (Ne.symm ndD)]; exact k3) upd_same
end Fl

set_option Elab.async false
set_option linter.all false
set_option maxRecDepth 100000
set_option maxHeartbeats 1000000
namespace Fl
open PySem PySem.Spec PyProof.Rows L2
local macro_rules | `(tactic| walk_at "fl") => `(tactic| with_reducible conv => whnf)
local macro_rules | `(tactic| walk_at "yes") => `(tactic| ((with_reducible (conv => whnf)); rw [if_pos rfl]; (with_reducible (conv => whnf))))
local macro_rules | `(tactic| walk_at "no") => `(tactic| ((with_reducible (conv => whnf)); rw [if_neg Bool.false_ne_true]; (with_reducible (conv => whnf))))
local macro_rules | `(tactic| walk_at "len") => `(tactic| (first | (simp only [List.length_map, List.length_append, List.length_cons, List.length_nil, List.length_reverse, List.length_replicate]; omega) | (simp only [List.length_map, List.length_append, List.length_cons, List.length_nil, List.length_reverse, List.length_replicate] at *; omega)))
local macro_rules | `(tactic| walk_at "sd") => `(tactic| first | with_reducible rfl | assumption | exact True.intro | omega | walk_at "len" | rfl | decide)
local macro_rules | `(tactic| walk_at "sds") => `(tactic| first | walk_at "sd" | exact And.intro (by walk_at "sd") (by walk_at "sd") | exact And.intro (by walk_at "sd") (And.intro (by walk_at "sd") (by walk_at "sd")) | exact And.intro (And.intro (by walk_at "sd") (by walk_at "sd")) (by walk_at "sd"))
local macro_rules | `(tactic| walk_at "g1") => `(tactic| ((first | refine And.intro (by walk_at "sds") ?_ | with_reducible refine ifT ?_ | with_reducible refine ifF ?_ | with_reducible refine ifNT ?_ | with_reducible refine ifNF ?_ | with_reducible refine Exists.intro _ (And.intro rfl ?_) | refine isi_plain (by walk_at "sd") (by decide) ?_ | refine Exists.intro _ (And.intro (by assumption) ?_) | refine Exists.intro _ (And.intro rfl ?_) | refine Exists.intro _ (Exists.intro _ (Exists.intro _ (And.intro rfl ?_))) | refine Exists.intro _ (Exists.intro _ (And.intro rfl ?_)) | refine Exists.intro _ (Exists.intro _ (Exists.intro _ (Exists.intro _ (And.intro rfl ?_))))); (with_reducible conv => whnf)))
local macro_rules | `(tactic| walk_at "go") => `(tactic| ((with_reducible conv => whnf); repeat walk_at "g1"))
variable {P : Program} {w : World} {K : PySem.W.Frag} {mg : Str → Option Value} {base : Heap} {A : Ad}
theorem wp__law_is (T : Txt K mg A) (as : List AA) (Q : RV → List AA → Prop) (E : Ex → List AA → Prop) (ha : as.length = 2) (h : sp__law_is K A as Q E) : ws__law_is K A (wEnd as Q E) (argU 0 as 0) := by
  match as, h with
  | [.dv (.bl a), .dv (.bl b)], q =>
    walk_at "fl"
    refine isi_plain rfl (by decide) ?_
    walk_at "fl"
    refine iteB (fun _ => ?_) (fun c => absurd (show true = false from c) (by decide))
    walk_at "fl"
    exact q
end Fl

set_option Elab.async false
set_option linter.all false
set_option maxRecDepth 100000
set_option maxHeartbeats 1000000
namespace Fl
open PySem PySem.Spec PyProof.Rows L2
local macro_rules | `(tactic| walk_at "fl") => `(tactic| with_reducible conv => whnf)
local macro_rules | `(tactic| walk_at "yes") => `(tactic| ((with_reducible (conv => whnf)); rw [if_pos rfl]; (with_reducible (conv => whnf))))
local macro_rules | `(tactic| walk_at "no") => `(tactic| ((with_reducible (conv => whnf)); rw [if_neg Bool.false_ne_true]; (with_reducible (conv => whnf))))
local macro_rules | `(tactic| walk_at "len") => `(tactic| (first | (simp only [List.length_map, List.length_append, List.length_cons, List.length_nil, List.length_reverse, List.length_replicate]; omega) | (simp only [List.length_map, List.length_append, List.length_cons, List.length_nil, List.length_reverse, List.length_replicate] at *; omega)))
local macro_rules | `(tactic| walk_at "sd") => `(tactic| first | with_reducible rfl | assumption | exact True.intro | omega | walk_at "len" | rfl | decide)
local macro_rules | `(tactic| walk_at "sds") => `(tactic| first | walk_at "sd" | exact And.intro (by walk_at "sd") (by walk_at "sd") | exact And.intro (by walk_at "sd") (And.intro (by walk_at "sd") (by walk_at "sd")) | exact And.intro (And.intro (by walk_at "sd") (by walk_at "sd")) (by walk_at "sd"))
local macro_rules | `(tactic| walk_at "g1") => `(tactic| ((first | refine And.intro (by walk_at "sds") ?_ | with_reducible refine ifT ?_ | with_reducible refine ifF ?_ | with_reducible refine ifNT ?_ | with_reducible refine ifNF ?_ | with_reducible refine Exists.intro _ (And.intro rfl ?_) | refine isi_plain (by walk_at "sd") (by decide) ?_ | refine Exists.intro _ (And.intro (by assumption) ?_) | refine Exists.intro _ (And.intro rfl ?_) | refine Exists.intro _ (Exists.intro _ (Exists.intro _ (And.intro rfl ?_))) | refine Exists.intro _ (Exists.intro _ (And.intro rfl ?_)) | refine Exists.intro _ (Exists.intro _ (Exists.intro _ (Exists.intro _ (And.intro rfl ?_))))); (with_reducible conv => whnf)))
local macro_rules | `(tactic| walk_at "go") => `(tactic| ((with_reducible conv => whnf); repeat walk_at "g1"))
variable {P : Program} {w : World} {K : PySem.W.Frag} {mg : Str → Option Value} {base : Heap} {A : Ad}
theorem wp__law_mixed (T : Txt K mg A) (as : List AA) (Q : RV → List AA → Prop) (E : Ex → List AA → Prop) (ha : as.length = 2) (h : sp__law_mixed K A as Q E) : ws__law_mixed K A (wEnd as Q E) (argU 0 as 1) := by
  match as, h with
  | [.dv (.int c), .dv (.int t)], q =>
    have sm : ∀ {i j : Int}, 0 ≤ i → i < 2147483647 → CMul i j := fun h1 h2 => .inl ⟨by omega, by omega⟩
    walk_at "fl"
    refine ⟨by decide, ?_⟩
    walk_at "fl"
    refine ⟨.inl (.inl ⟨by decide, by decide⟩), ?_⟩
    walk_at "fl"
    refine ⟨.inl (.inr ⟨by decide, by decide⟩), ?_⟩
    walk_at "fl"
    refine ⟨by decide, ?_⟩
    have a1 := Int.emod_nonneg ((c % 2147483647 + 7919 * t + 1) * 48271) (show (2147483647 : Int) ≠ 0 by decide)
    have a2 := Int.emod_lt_of_pos ((c % 2147483647 + 7919 * t + 1) * 48271) (show (0 : Int) < 2147483647 by decide)
    generalize ((c % 2147483647 + 7919 * t + 1) * 48271) % 2147483647 = x at a1 a2 ⊢
    walk_at "fl"
    refine ⟨⟨by decide, by decide⟩, ?_⟩
    walk_at "fl"
    refine ⟨.inl (sm a1 a2), ?_⟩
    walk_at "fl"
    refine ⟨by decide, ?_⟩
    have b1 := Int.emod_nonneg (x * (x / 1009 + 69621)) (show (2147483647 : Int) ≠ 0 by decide)
    have b2 := Int.emod_lt_of_pos (x * (x / 1009 + 69621)) (show (0 : Int) < 2147483647 by decide)
    generalize (x * (x / 1009 + 69621)) % 2147483647 = y at b1 b2 ⊢
    walk_at "fl"
    refine ⟨⟨by decide, by decide⟩, ?_⟩
    walk_at "fl"
    refine ⟨.inl (sm b1 b2), ?_⟩
    walk_at "fl"
    refine ⟨by decide, ?_⟩
    walk_at "fl"
    refine ⟨⟨by decide, by decide⟩, ?_⟩
    walk_at "fl"
    exact q _
end Fl

set_option Elab.async false
set_option linter.all false
set_option maxRecDepth 100000
set_option maxHeartbeats 1000000
namespace Fl
open PySem PySem.Spec PyProof.Rows L2
local macro_rules | `(tactic| walk_at "fl") => `(tactic| with_reducible conv => whnf)
local macro_rules | `(tactic| walk_at "yes") => `(tactic| ((with_reducible (conv => whnf)); rw [if_pos rfl]; (with_reducible (conv => whnf))))
local macro_rules | `(tactic| walk_at "no") => `(tactic| ((with_reducible (conv => whnf)); rw [if_neg Bool.false_ne_true]; (with_reducible (conv => whnf))))
local macro_rules | `(tactic| walk_at "len") => `(tactic| (first | (simp only [List.length_map, List.length_append, List.length_cons, List.length_nil, List.length_reverse, List.length_replicate]; omega) | (simp only [List.length_map, List.length_append, List.length_cons, List.length_nil, List.length_reverse, List.length_replicate] at *; omega)))
local macro_rules | `(tactic| walk_at "sd") => `(tactic| first | with_reducible rfl | assumption | exact True.intro | omega | walk_at "len" | rfl | decide)
local macro_rules | `(tactic| walk_at "sds") => `(tactic| first | walk_at "sd" | exact And.intro (by walk_at "sd") (by walk_at "sd") | exact And.intro (by walk_at "sd") (And.intro (by walk_at "sd") (by walk_at "sd")) | exact And.intro (And.intro (by walk_at "sd") (by walk_at "sd")) (by walk_at "sd"))
local macro_rules | `(tactic| walk_at "g1") => `(tactic| ((first | refine And.intro (by walk_at "sds") ?_ | with_reducible refine ifT ?_ | with_reducible refine ifF ?_ | with_reducible refine ifNT ?_ | with_reducible refine ifNF ?_ | with_reducible refine Exists.intro _ (And.intro rfl ?_) | refine isi_plain (by walk_at "sd") (by decide) ?_ | refine Exists.intro _ (And.intro (by assumption) ?_) | refine Exists.intro _ (And.intro rfl ?_) | refine Exists.intro _ (Exists.intro _ (Exists.intro _ (And.intro rfl ?_))) | refine Exists.intro _ (Exists.intro _ (And.intro rfl ?_)) | refine Exists.intro _ (Exists.intro _ (Exists.intro _ (Exists.intro _ (And.intro rfl ?_))))); (with_reducible conv => whnf)))
local macro_rules | `(tactic| walk_at "go") => `(tactic| ((with_reducible conv => whnf); repeat walk_at "g1"))
variable {P : Program} {w : World} {K : PySem.W.Frag} {mg : Str → Option Value} {base : Heap} {A : Ad}
theorem wp__law_draw (T : Txt K mg A) (as : List AA) (Q : RV → List AA → Prop) (E : Ex → List AA → Prop) (ha : as.length = 2) (h : sp__law_draw K A as Q E) : ws__law_draw K A (wEnd as Q E) (argU 0 as 4) := by
  match as, h with
  | [.ob x, .dv (.int n)], ⟨⟨ms, i, b, t, e, hi, hb⟩, hn, q⟩ =>
    subst e
    have mo : ∀ c : Int, 0 ≤ c % n ∧ c % n < n := fun c => ⟨Int.emod_nonneg _ (by omega), Int.emod_lt_of_pos _ hn.1⟩
    have dv : (0 : Int) < n ∧ n < 2 ^ 200 := ⟨hn.1, by have := hn.2; omega⟩
    walk_at "fl"
    refine ⟨_, rfl, ?_⟩
    walk_at "fl"
    refine ⟨.lst (ms.map D.int) :: [i, b, t + 1].map D.int, rfl, ?_⟩
    walk_at "fl"
    refine ⟨_, rfl, ?_⟩
    walk_at "fl"
    refine iteB (fun c => ?_) (fun c => ?_)
    · have c : 0 < b := of_decide_eq_true c
      walk_at "fl"
      refine ⟨_, rfl, ?_⟩
      walk_at "fl"
      refine ⟨hn.1, ?_⟩
      walk_at "fl"
      refine ⟨_, rfl, ?_⟩
      walk_at "fl"
      refine ⟨dv, ?_⟩
      walk_at "fl"
      refine ⟨.lst (ms.map D.int) :: [i, b / n, t + 1].map D.int, rfl, ?_⟩
      walk_at "fl"
      exact q _ _ ⟨ms, i, b / n, t + 1, rfl, hi, Int.ediv_nonneg hb (by omega)⟩ (mo _).1 (mo _).2
    · walk_at "fl"
      refine ⟨_, rfl, ?_⟩
      walk_at "fl"
      refine ⟨_, rfl, ?_⟩
      walk_at "fl"
      refine ⟨⟨rfl, rfl⟩, ?_⟩
      walk_at "fl"
      refine ⟨.lst (ms.map D.int) :: [i + 1, b, t + 1].map D.int, rfl, ?_⟩
      walk_at "fl"
      rw [List.length_map]
      have fin : ∀ {r : Int} {b' : Int}, 0 ≤ b' → Q (.val (.int (r % n))) [.ob (handD ms [i + 1, b', t + 1]), .dv (.int n)] := fun hb' => q _ _ ⟨ms, i + 1, _, t + 1, rfl, by omega, hb'⟩ (mo _).1 (mo _).2
      refine iteB (fun c1 => ?_) (fun c1 => ?_)
      · walk_at "fl"
        refine ⟨_, rfl, ?_⟩
        walk_at "fl"
        refine ⟨rfl, fun r => ?_⟩
        walk_at "fl"
        refine ⟨hn.1, ?_⟩
        walk_at "fl"
        exact fin hb
      · have c1 : ¬ (ms.length : Int) = 0 := of_decide_eq_false c1
        have h1 := Int.emod_nonneg i c1
        have h2 := Int.emod_lt_of_pos i (show (0 : Int) < ms.length by omega)
        walk_at "fl"
        rw [List.length_map]
        refine ⟨by omega, ?_⟩
        walk_at "fl"
        refine ⟨_, at_ints h1 h2, ?_⟩
        generalize ms.getD (i % (ms.length : Int)).toNat 0 = c
        have rest : ∀ E' : QE, wRet (wOp2 opMod (wCB opInt (wCons (wCall [false, false] (sp__law_mixed K A) [] (wCons (wVar 5) (wCons (wOp2 opIx (wVar 0) (wC (.int 3))) wNil))) wNil)) (wVar 1)) (wEnd [.ob (handD ms [i, b, t]), .dv (.int n)] Q E)
            [.pr 0 (handD ms [i + 1, b, t + 1]), .fz (.int n), .un, .fz (.lst (ms.map D.int)), .fz (.int i), .fz (.int c)] := fun _ => by
          walk_at "fl"
          refine ⟨_, rfl, ?_⟩
          walk_at "fl"
          refine ⟨rfl, fun r => ?_⟩
          walk_at "fl"
          refine ⟨hn.1, ?_⟩
          walk_at "fl"
          exact fin hb
        walk_at "fl"
        rw [List.length_map]
        refine iteB (fun c2 => ?_) (fun c2 => ?_)
        · walk_at "fl"
          refine ⟨⟨by decide, by decide, by decide⟩, ?_⟩
          walk_at "fl"
          refine iteB (fun c3 => ?_) (fun c3 => ?_)
          · walk_at "fl"
            refine ⟨dv, ?_⟩
            walk_at "fl"
            refine ⟨.lst (ms.map D.int) :: [i + 1, (if c < 0 then -c else c) / n, t + 1].map D.int, rfl, ?_⟩
            walk_at "fl"
            refine ⟨hn.1, ?_⟩
            walk_at "fl"
            exact fin (Int.ediv_nonneg (by split <;> omega) (by omega))
          · exact rest (fun _ _ => False)
        · walk_at "no"
          exact rest (fun _ _ => False)
end Fl

set_option Elab.async false
set_option linter.all false
set_option maxRecDepth 100000
set_option maxHeartbeats 1000000
namespace Fl
open PySem PySem.Spec PyProof.Rows L2
local macro_rules | `(tactic| walk_at "fl") => `(tactic| with_reducible conv => whnf)
local macro_rules | `(tactic| walk_at "yes") => `(tactic| ((with_reducible (conv => whnf)); rw [if_pos rfl]; (with_reducible (conv => whnf))))
local macro_rules | `(tactic| walk_at "no") => `(tactic| ((with_reducible (conv => whnf)); rw [if_neg Bool.false_ne_true]; (with_reducible (conv => whnf))))
local macro_rules | `(tactic| walk_at "len") => `(tactic| (first | (simp only [List.length_map, List.length_append, List.length_cons, List.length_nil, List.length_reverse, List.length_replicate]; omega) | (simp only [List.length_map, List.length_append, List.length_cons, List.length_nil, List.length_reverse, List.length_replicate] at *; omega)))
local macro_rules | `(tactic| walk_at "sd") => `(tactic| first | with_reducible rfl | assumption | exact True.intro | omega | walk_at "len" | rfl | decide)
local macro_rules | `(tactic| walk_at "sds") => `(tactic| first | walk_at "sd" | exact And.intro (by walk_at "sd") (by walk_at "sd") | exact And.intro (by walk_at "sd") (And.intro (by walk_at "sd") (by walk_at "sd")) | exact And.intro (And.intro (by walk_at "sd") (by walk_at "sd")) (by walk_at "sd"))
local macro_rules | `(tactic| walk_at "g1") => `(tactic| ((first | refine And.intro (by walk_at "sds") ?_ | with_reducible refine ifT ?_ | with_reducible refine ifF ?_ | with_reducible refine ifNT ?_ | with_reducible refine ifNF ?_ | with_reducible refine Exists.intro _ (And.intro rfl ?_) | refine isi_plain (by walk_at "sd") (by decide) ?_ | refine Exists.intro _ (And.intro (by assumption) ?_) | refine Exists.intro _ (And.intro rfl ?_) | refine Exists.intro _ (Exists.intro _ (Exists.intro _ (And.intro rfl ?_))) | refine Exists.intro _ (Exists.intro _ (And.intro rfl ?_)) | refine Exists.intro _ (Exists.intro _ (Exists.intro _ (Exists.intro _ (And.intro rfl ?_))))); (with_reducible conv => whnf)))
local macro_rules | `(tactic| walk_at "go") => `(tactic| ((with_reducible conv => whnf); repeat walk_at "g1"))
variable {P : Program} {w : World} {K : PySem.W.Frag} {mg : Str → Option Value} {base : Heap} {A : Ad}
theorem wp__law_shuffled (T : Txt K mg A) (as : List AA) (Q : RV → List AA → Prop) (E : Ex → List AA → Prop) (ha : as.length = 2) (h : sp__law_shuffled K A as Q E) : ws__law_shuffled K A (wEnd as Q E) (argU 0 as 3) := by
  match as, h with
  | [.ob x, .dv y], ⟨hx, ds, ey, hz, q⟩ =>
    rcases ey with rfl | rfl
    all_goals
      walk_at "fl"
      refine ⟨⟨rfl, rfl⟩, ?_⟩
      walk_at "fl"
      refine ⟨⟨by omega, by omega⟩, fun done rest ρ => ∃ (x' : D) (l f : List D) (a : Fl.A), HandOk x' ∧ ρ = [.pr 0 x', .fz _, .ow (.lst l), .ow (.lst f), a] ∧ (l ++ f).Perm ds ∧ l.length = rest.length,
        ⟨x, ds, [], .un, hx, rfl, by rw [List.append_nil], by unfold ranD; rw [List.length_map, List.length_range]; rfl⟩, ?_, ?_⟩
      · rintro done d rest ρ2 ⟨x', l, f, a, hx', rfl, hp, hl⟩
        rw [List.length_cons] at hl
        have hpl := hp.length_eq
        rw [List.length_append] at hpl
        walk_at "fl"
        refine ⟨rfl, ?_⟩
        walk_at "fl"
        refine ⟨rfl, ?_⟩
        walk_at "fl"
        refine ⟨rfl, hx', ⟨by omega, by omega⟩, fun x2 r h2 r0 r1 => ?_⟩
        obtain ⟨z, ez, _⟩ := at_any r0 r1
        have er : l[r.toNat]? = some z := by
          unfold atI at ez
          rw [ixN_of r0 r1] at ez
          exact ez
        walk_at "fl"
        refine ⟨r.toNat, z, ixN_of r0 r1, er, ⟨by omega, by omega⟩, ?_⟩
        walk_at "fl"
        refine ⟨by omega, ?_⟩
        walk_at "fl"
        have pp := pop_perm er
        refine ⟨x2, l.eraseIdx r.toNat, f ++ [z], _, h2, rfl, ?_, ?_⟩
        · refine List.Perm.trans ?_ hp
          refine List.Perm.trans ?_ (pp.append_right f)
          rw [← List.append_assoc]
          exact List.perm_append_comm
        · have := pp.length_eq
          rw [List.length_cons] at this
          omega
      · rintro done ρ2 ⟨x', l, f, a, hx', rfl, hp, hl⟩
        have : l = [] := List.eq_nil_of_length_eq_zero hl
        subst this
        walk_at "fl"
        exact q _ _ hx' hp
end Fl

set_option Elab.async false
set_option linter.all false
set_option maxRecDepth 100000
set_option maxHeartbeats 1000000
namespace Fl
open PySem PySem.Spec PyProof.Rows L2
local macro_rules | `(tactic| walk_at "fl") => `(tactic| with_reducible conv => whnf)
local macro_rules | `(tactic| walk_at "yes") => `(tactic| ((with_reducible (conv => whnf)); rw [if_pos rfl]; (with_reducible (conv => whnf))))
local macro_rules | `(tactic| walk_at "no") => `(tactic| ((with_reducible (conv => whnf)); rw [if_neg Bool.false_ne_true]; (with_reducible (conv => whnf))))
local macro_rules | `(tactic| walk_at "len") => `(tactic| (first | (simp only [List.length_map, List.length_append, List.length_cons, List.length_nil, List.length_reverse, List.length_replicate]; omega) | (simp only [List.length_map, List.length_append, List.length_cons, List.length_nil, List.length_reverse, List.length_replicate] at *; omega)))
local macro_rules | `(tactic| walk_at "sd") => `(tactic| first | with_reducible rfl | assumption | exact True.intro | omega | walk_at "len" | rfl | decide)
local macro_rules | `(tactic| walk_at "sds") => `(tactic| first | walk_at "sd" | exact And.intro (by walk_at "sd") (by walk_at "sd") | exact And.intro (by walk_at "sd") (And.intro (by walk_at "sd") (by walk_at "sd")) | exact And.intro (And.intro (by walk_at "sd") (by walk_at "sd")) (by walk_at "sd"))
local macro_rules | `(tactic| walk_at "g1") => `(tactic| ((first | refine And.intro (by walk_at "sds") ?_ | with_reducible refine ifT ?_ | with_reducible refine ifF ?_ | with_reducible refine ifNT ?_ | with_reducible refine ifNF ?_ | with_reducible refine Exists.intro _ (And.intro rfl ?_) | refine isi_plain (by walk_at "sd") (by decide) ?_ | refine Exists.intro _ (And.intro (by assumption) ?_) | refine Exists.intro _ (And.intro rfl ?_) | refine Exists.intro _ (Exists.intro _ (Exists.intro _ (And.intro rfl ?_))) | refine Exists.intro _ (Exists.intro _ (And.intro rfl ?_)) | refine Exists.intro _ (Exists.intro _ (Exists.intro _ (Exists.intro _ (And.intro rfl ?_))))); (with_reducible conv => whnf)))
local macro_rules | `(tactic| walk_at "go") => `(tactic| ((with_reducible conv => whnf); repeat walk_at "g1"))
variable {P : Program} {w : World} {K : PySem.W.Frag} {mg : Str → Option Value} {base : Heap} {A : Ad}
theorem wp__law_some_tree (T : Txt K mg A) (as : List AA) (Q : RV → List AA → Prop) (E : Ex → List AA → Prop) (ha : as.length = 3) (h : sp__law_some_tree K A as Q E) : ws__law_some_tree K A (wEnd as Q E) (argU 0 as 5) := by
  match as, h with
  | [.ob x, .dv (.int m), .dv (.int r)], ⟨hx, hm, hr, q⟩ =>
    walk_at "fl"
    refine ⟨rfl, hx, ⟨by decide, by decide⟩, fun x2 d h2 _ _ => ?_⟩
    walk_at "fl"
    refine ⟨⟨rfl, rfl, rfl⟩, ?_⟩
    walk_at "fl"
    refine ⟨⟨by omega, by omega⟩, ⟨⟨rfl, True.intro⟩, by rw [ran_ints, List.length_map, len_rgI]; omega⟩, fun rest acc ρ => ∃ (a b : List Int), rgI m.toNat = a ++ b ∧ rest = b.map D.int ∧ acc = (a.filter fun p => !decide (p = r)).map D.int ∧
      ρ = [.pr 0 x2, .fz (.int m), .fz (.int r), .ow (.lst [.int r]), .ow (.lst []), .fz (.bl (decide (d = 0))), .un, .un], ⟨[], rgI m.toNat, rfl, ran_ints, rfl, rfl⟩, ?_, ?_⟩
    · rintro d' rest acc ρ2 ⟨a, b, e1, e2, rfl, rfl⟩
      cases b with
      | nil => cases e2
      | cons p b =>
        rw [List.map_cons] at e2
        injection e2 with e2 e3
        subst e2 e3
        walk_at "fl"
        refine iteB (fun c => ?_) (fun c => ?_)
        · walk_at "fl"
          refine ⟨a ++ [p], b, by rw [e1, List.append_assoc]; rfl, rfl, ?_, rfl⟩
          rw [List.filter_append, List.filter_cons, if_pos c]
          simp
        · walk_at "fl"
          refine ⟨a ++ [p], b, by rw [e1, List.append_assoc]; rfl, rfl, ?_, rfl⟩
          rw [List.filter_append, List.filter_cons, if_neg (by rw [c]; exact Bool.false_ne_true)]
          simp
    · rintro acc ρ2 ⟨a, b, e1, e2, rfl, rfl⟩
      have : b = [] := by cases b <;> first | rfl | cases e2
      subst this
      rw [List.append_nil] at e1
      subst e1
      generalize hps : ((rgI m.toNat).filter fun p => !decide (p = r)) = ps
      have pnd : ps.Nodup := by rw [← hps]; exact nodup_rgI.filter _
      have pin : ∀ p ∈ ps, (0 ≤ p ∧ p < m) ∧ p ≠ r := fun p hp => by
        rw [← hps, List.mem_filter, mem_rgI] at hp
        have := hp.1
        refine ⟨by omega, ?_⟩
        simpa using hp.2
      have p10 : ps.length ≤ 10 := by
        have : ps.length ≤ (rgI m.toNat).length := by rw [← hps]; exact List.length_filter_le _ _
        rw [len_rgI] at this
        omega
      walk_at "fl"
      refine ⟨rfl, h2, _, .inl rfl, by rw [List.length_map]; omega, fun x3 es h3 hp => ?_⟩
      obtain ⟨qs, rfl, hq⟩ := map_perm_back hp
      have qnd : qs.Nodup := hq.nodup_iff.mpr pnd
      have qin : ∀ p ∈ qs, (0 ≤ p ∧ p < m) ∧ p ≠ r := fun p hp => pin p (hq.mem_iff.mp hp)
      have q10 : qs.length ≤ 10 := by rw [hq.length_eq]; exact p10
      walk_at "fl"
      refine ⟨fun done rest ρ => ∃ (x' : D) (hs qs : List Int) (ls : List Lk) (a6 a7 : Fl.A), HandOk x' ∧ ρ = [.pr 0 x', .fz (.int m), .fz (.int r), .ow (.lst (hs.map D.int)), .ow (.lst (ls.map pairD)), .fz (.bl (decide (d = 0))), a6, a7] ∧
        hs ≠ [] ∧ hs.length ≤ ls.length + 1 ∧ (∀ h ∈ hs, 0 ≤ h ∧ h < m) ∧ rest = qs.map D.int ∧ qs.Nodup ∧ (∀ p ∈ qs, (0 ≤ p ∧ p < m) ∧ p ∉ hs) ∧ Good m ls ∧ ls.length + qs.length ≤ 10,
        ⟨x3, [r], qs, [], .un, .un, h3, rfl, by simp, by simp, fun h hh => by rw [List.mem_singleton.mp hh]; exact hr, rfl, qnd, fun p hp => ⟨(qin p hp).1, fun z => (qin p hp).2 (List.mem_singleton.mp z)⟩, fun p hp => (by cases hp), by simpa using q10⟩, ?_, ?_⟩
      · rintro done d2 rest ρ2 ⟨x', hs, qs, ls, a6, a7, hx', rfl, hne, hle, hin, er, hnd, hqs, hg, hz⟩
        cases qs with
        | nil => cases er
        | cons p qs =>
          rw [List.map_cons] at er
          injection er with er1 er2
          subst er1 er2
          rw [List.nodup_cons] at hnd
          rw [List.length_cons] at hz
          have hp := hqs p (by simp)
          have stepI : ∀ (x5 : D) (o : Int), HandOk x5 → o ∈ hs → ∃ (x' : D) (hs' qs' : List Int) (ls' : List Lk) (a6 a7 : Fl.A), HandOk x' ∧
              [Fl.A.pr 0 x5, .fz (.int m), .fz (.int r), .ow (.lst (hs.map D.int ++ [.int p])), .ow (.lst (ls.map pairD ++ [.tup [.int o, .int p]])), .fz (.bl (decide (d = 0))), .fz (.int p), .fz (.int o)] = [.pr 0 x', .fz (.int m), .fz (.int r), .ow (.lst (hs'.map D.int)), .ow (.lst (ls'.map pairD)), .fz (.bl (decide (d = 0))), a6, a7] ∧
              hs' ≠ [] ∧ hs'.length ≤ ls'.length + 1 ∧ (∀ h ∈ hs', 0 ≤ h ∧ h < m) ∧ qs.map D.int = qs'.map D.int ∧ qs'.Nodup ∧ (∀ p ∈ qs', (0 ≤ p ∧ p < m) ∧ p ∉ hs') ∧ Good m ls' ∧ ls'.length + qs'.length ≤ 10 := fun x5 o h5 ho => by
            refine ⟨x5, hs ++ [p], qs, ls ++ [(o, p)], _, _, h5, by rw [List.map_append, List.map_append]; rfl, by simp, by simp; omega, fun h hh => ?_, rfl, hnd.2, fun z hz => ⟨(hqs z (List.mem_cons_of_mem _ hz)).1, fun zz => ?_⟩, hg.snoc ⟨hin o ho, hp.1, fun e => hp.2 (by have e : o = p := e; rw [← e]; exact ho)⟩, by simp; omega⟩
            · rcases List.mem_append.mp hh with hh | hh
              · exact hin h hh
              · rw [List.mem_singleton.mp hh]; exact hp.1
            · rcases List.mem_append.mp zz with hh | hh
              · exact (hqs z (List.mem_cons_of_mem _ hz)).2 hh
              · rw [List.mem_singleton.mp hh] at hz; exact hnd.1 hz
          walk_at "fl"
          refine iteB (fun c => ?_) (fun c => ?_)
          · obtain ⟨z, ez, mz⟩ := at_last (xs := hs.map D.int) (by simpa using hne)
            obtain ⟨o, ho, rfl⟩ := List.mem_map.mp mz
            walk_at "fl"
            refine ⟨_, ez, ?_⟩
            walk_at "fl"
            refine ⟨rfl, ?_⟩
            walk_at "fl"
            rw [List.length_map]
            refine ⟨by omega, ?_⟩
            walk_at "fl"
            refine ⟨rfl, ?_⟩
            walk_at "fl"
            rw [List.length_map]
            refine ⟨by omega, ?_⟩
            exact stepI x' o hx' ho
          · walk_at "fl"
            rw [List.length_map]
            have hpos : 0 < hs.length := List.length_pos_iff.mpr hne
            refine ⟨rfl, hx', ⟨by omega, by omega⟩, fun x5 k h5 k0 k1 => ?_⟩
            obtain ⟨z, ez, mz⟩ := at_any (xs := hs.map D.int) k0 (by rw [List.length_map]; exact k1)
            obtain ⟨o, ho, rfl⟩ := List.mem_map.mp mz
            walk_at "fl"
            refine ⟨_, ez, ?_⟩
            walk_at "fl"
            refine ⟨rfl, ?_⟩
            walk_at "fl"
            rw [List.length_map]
            refine ⟨by omega, ?_⟩
            walk_at "fl"
            refine ⟨rfl, ?_⟩
            walk_at "fl"
            rw [List.length_map]
            refine ⟨by omega, ?_⟩
            exact stepI x5 o h5 ho
      · rintro done ρ2 ⟨x', hs, qs, ls, a6, a7, hx', rfl, hne, hle, hin, er, hnd, hqs, hg, hz⟩
        walk_at "fl"
        exact q x' ls hx' hg (by omega)
end Fl

set_option Elab.async false
set_option linter.all false
set_option maxRecDepth 100000
set_option maxHeartbeats 1000000
namespace Fl
open PySem PySem.Spec PyProof.Rows L2
local macro_rules | `(tactic| walk_at "fl") => `(tactic| with_reducible conv => whnf)
local macro_rules | `(tactic| walk_at "yes") => `(tactic| ((with_reducible (conv => whnf)); rw [if_pos rfl]; (with_reducible (conv => whnf))))
local macro_rules | `(tactic| walk_at "no") => `(tactic| ((with_reducible (conv => whnf)); rw [if_neg Bool.false_ne_true]; (with_reducible (conv => whnf))))
local macro_rules | `(tactic| walk_at "len") => `(tactic| (first | (simp only [List.length_map, List.length_append, List.length_cons, List.length_nil, List.length_reverse, List.length_replicate]; omega) | (simp only [List.length_map, List.length_append, List.length_cons, List.length_nil, List.length_reverse, List.length_replicate] at *; omega)))
local macro_rules | `(tactic| walk_at "sd") => `(tactic| first | with_reducible rfl | assumption | exact True.intro | omega | walk_at "len" | rfl | decide)
local macro_rules | `(tactic| walk_at "sds") => `(tactic| first | walk_at "sd" | exact And.intro (by walk_at "sd") (by walk_at "sd") | exact And.intro (by walk_at "sd") (And.intro (by walk_at "sd") (by walk_at "sd")) | exact And.intro (And.intro (by walk_at "sd") (by walk_at "sd")) (by walk_at "sd"))
local macro_rules | `(tactic| walk_at "g1") => `(tactic| ((first | refine And.intro (by walk_at "sds") ?_ | with_reducible refine ifT ?_ | with_reducible refine ifF ?_ | with_reducible refine ifNT ?_ | with_reducible refine ifNF ?_ | with_reducible refine Exists.intro _ (And.intro rfl ?_) | refine isi_plain (by walk_at "sd") (by decide) ?_ | refine Exists.intro _ (And.intro (by assumption) ?_) | refine Exists.intro _ (And.intro rfl ?_) | refine Exists.intro _ (Exists.intro _ (Exists.intro _ (And.intro rfl ?_))) | refine Exists.intro _ (Exists.intro _ (And.intro rfl ?_)) | refine Exists.intro _ (Exists.intro _ (Exists.intro _ (Exists.intro _ (And.intro rfl ?_))))); (with_reducible conv => whnf)))
local macro_rules | `(tactic| walk_at "go") => `(tactic| ((with_reducible conv => whnf); repeat walk_at "g1"))
variable {P : Program} {w : World} {K : PySem.W.Frag} {mg : Str → Option Value} {base : Heap} {A : Ad}
theorem wp__law_some_links (T : Txt K mg A) (as : List AA) (Q : RV → List AA → Prop) (E : Ex → List AA → Prop) (ha : as.length = 3) (h : sp__law_some_links K A as Q E) : ws__law_some_links K A (wEnd as Q E) (argU 0 as 4) := by
  match as, h with
  | [.ob x, .dv (.int m), .dv (.int n)], ⟨hx, hm, hn, q⟩ =>
    walk_at "fl"
    refine ⟨rfl, hx, ⟨by omega, by omega⟩, fun x2 k h2 k0 k1 => ?_⟩
    walk_at "fl"
    refine ⟨⟨by omega, by omega⟩, fun done rest ρ => ∃ (x' : D) (ls : List Lk) (a4 a5 a6 : Fl.A), HandOk x' ∧ ρ = [.pr 0 x', .fz (.int m), .fz (.int n), .ow (.lst (ls.map pairD)), a4, a5, a6] ∧ Good m ls ∧ ls.length + rest.length ≤ 100,
      ⟨x2, [], .un, .un, .un, h2, rfl, fun p hp => (by cases hp), by unfold ranD; rw [List.length_map, List.length_range]; simp; omega⟩, ?_, ?_⟩
    · rintro done d rest ρ2 ⟨x', ls, a4, a5, a6, hx', rfl, hg, hz⟩
      rw [List.length_cons] at hz
      walk_at "fl"
      refine ⟨rfl, hx', ⟨by omega, by omega⟩, fun x3 o h3 o0 o1 => ?_⟩
      walk_at "fl"
      refine ⟨rfl, h3, ⟨by omega, by omega⟩, fun x4 t h4 t0 t1 => ?_⟩
      have tt := turned (a := o) (d := t) (m := m) o0 o1 t0 t1
      walk_at "fl"
      refine ⟨by omega, ?_⟩
      generalize (o + 1 + t) % m = u at tt ⊢
      walk_at "fl"
      rw [List.length_map]
      refine iteB (fun c => ?_) (fun c => ?_)
      · have c : (0 : Int) < (ls.length : Nat) := of_decide_eq_true c
        walk_at "fl"
        refine ⟨rfl, h4, ⟨by decide, by decide⟩, fun x5 e h5 _ _ => ?_⟩
        walk_at "fl"
        refine iteB (fun c2 => ?_) (fun c2 => ?_)
        · walk_at "fl"
          rw [List.length_map]
          refine ⟨rfl, h5, ⟨by omega, by omega⟩, fun x6 j h6 j0 j1 => ?_⟩
          obtain ⟨z, ez, mz⟩ := at_any (xs := ls.map pairD) j0 (by rw [List.length_map]; exact j1)
          obtain ⟨p, hp, rfl⟩ := List.mem_map.mp mz
          walk_at "fl"
          refine ⟨_, ez, ?_⟩
          walk_at "fl"
          refine ⟨rfl, ?_⟩
          walk_at "fl"
          rw [List.length_map]
          refine ⟨by omega, ?_⟩
          walk_at "fl"
          exact ⟨x6, ls ++ [p], _, _, _, h6, by rw [List.map_append]; rfl, hg.snoc (hg p hp), by simp; omega⟩
        · walk_at "fl"
          refine ⟨rfl, ?_⟩
          walk_at "fl"
          rw [List.length_map]
          refine ⟨by omega, ?_⟩
          walk_at "fl"
          exact ⟨x5, ls ++ [(o, u)], _, _, _, h5, by rw [List.map_append]; rfl, hg.snoc ⟨⟨o0, o1⟩, tt.2, tt.1⟩, by simp; omega⟩
      · walk_at "no"
        refine ⟨rfl, ?_⟩
        walk_at "fl"
        rw [List.length_map]
        refine ⟨by omega, ?_⟩
        walk_at "fl"
        exact ⟨x4, ls ++ [(o, u)], _, _, _, h4, by rw [List.map_append]; rfl, hg.snoc ⟨⟨o0, o1⟩, tt.2, tt.1⟩, by simp; omega⟩
    · rintro done ρ2 ⟨x', ls, a4, a5, a6, hx', rfl, hg, hz⟩
      walk_at "fl"
      exact q x' ls hx' hg (by omega)
end Fl

set_option Elab.async false
set_option linter.all false
set_option maxRecDepth 100000
set_option maxHeartbeats 1000000
namespace Fl
open PySem PySem.Spec PyProof.Rows L2
local macro_rules | `(tactic| walk_at "fl") => `(tactic| with_reducible conv => whnf)
local macro_rules | `(tactic| walk_at "yes") => `(tactic| ((with_reducible (conv => whnf)); rw [if_pos rfl]; (with_reducible (conv => whnf))))
local macro_rules | `(tactic| walk_at "no") => `(tactic| ((with_reducible (conv => whnf)); rw [if_neg Bool.false_ne_true]; (with_reducible (conv => whnf))))
local macro_rules | `(tactic| walk_at "len") => `(tactic| (first | (simp only [List.length_map, List.length_append, List.length_cons, List.length_nil, List.length_reverse, List.length_replicate]; omega) | (simp only [List.length_map, List.length_append, List.length_cons, List.length_nil, List.length_reverse, List.length_replicate] at *; omega)))
local macro_rules | `(tactic| walk_at "sd") => `(tactic| first | with_reducible rfl | assumption | exact True.intro | omega | walk_at "len" | rfl | decide)
local macro_rules | `(tactic| walk_at "sds") => `(tactic| first | walk_at "sd" | exact And.intro (by walk_at "sd") (by walk_at "sd") | exact And.intro (by walk_at "sd") (And.intro (by walk_at "sd") (by walk_at "sd")) | exact And.intro (And.intro (by walk_at "sd") (by walk_at "sd")) (by walk_at "sd"))
local macro_rules | `(tactic| walk_at "g1") => `(tactic| ((first | refine And.intro (by walk_at "sds") ?_ | with_reducible refine ifT ?_ | with_reducible refine ifF ?_ | with_reducible refine ifNT ?_ | with_reducible refine ifNF ?_ | with_reducible refine Exists.intro _ (And.intro rfl ?_) | refine isi_plain (by walk_at "sd") (by decide) ?_ | refine Exists.intro _ (And.intro (by assumption) ?_) | refine Exists.intro _ (And.intro rfl ?_) | refine Exists.intro _ (Exists.intro _ (Exists.intro _ (And.intro rfl ?_))) | refine Exists.intro _ (Exists.intro _ (And.intro rfl ?_)) | refine Exists.intro _ (Exists.intro _ (Exists.intro _ (Exists.intro _ (And.intro rfl ?_))))); (with_reducible conv => whnf)))
local macro_rules | `(tactic| walk_at "go") => `(tactic| ((with_reducible conv => whnf); repeat walk_at "g1"))
variable {P : Program} {w : World} {K : PySem.W.Frag} {mg : Str → Option Value} {base : Heap} {A : Ad}
theorem wp__law_parts_of (T : Txt K mg A) (as : List AA) (Q : RV → List AA → Prop) (E : Ex → List AA → Prop) (ha : as.length = 1) (h : sp__law_parts_of K A as Q E) : ws__law_parts_of K A (wEnd as Q E) (argU 0 as 5) := by
  match as, h with
  | [.ob x], ⟨hx, q⟩ =>
    walk_at "fl"
    refine ⟨rfl, hx, ⟨by decide, by decide⟩, fun x1 k h1 k0 k1 => ?_⟩
    have pick : ∃ m : Int, atI [D.int 2, .int 3, .int 3, .int 4, .int 4, .int 5, .int 5, .int 6, .int 7, .int 8, .int 9, .int 10] k = some (.int m) ∧ 2 ≤ m ∧ m ≤ 10 := by
      obtain ⟨z, ez, mz⟩ := at_any (xs := [2, 3, 3, 4, 4, 5, 5, 6, 7, 8, 9, (10 : Int)].map D.int) k0 (by simpa using k1)
      obtain ⟨m, hm, rfl⟩ := List.mem_map.mp mz
      refine ⟨m, ez, ?_⟩
      simp only [List.mem_cons, List.not_mem_nil, or_false] at hm
      omega
    obtain ⟨m, em, hm⟩ := pick
    walk_at "fl"
    refine ⟨_, em, ?_⟩
    walk_at "fl"
    refine ⟨rfl, h1, ⟨by omega, by omega⟩, fun x2 r h2 r0 r1 => ?_⟩
    walk_at "fl"
    refine ⟨rfl, h2, ⟨by decide, by decide⟩, fun x3 kd h3 _ _ => ?_⟩
    walk_at "fl"
    refine ⟨⟨rfl, rfl⟩, ?_⟩
    walk_at "fl"
    refine ⟨fun ρ => ∃ (x' : D) (ls : List Lk) (a5 : Fl.A), HandOk x' ∧ ρ = [.pr 0 x', .fz (.int m), .fz (.int r), .fz (.int kd), .ow (.lst (ls.map pairD)), a5] ∧ Good m ls ∧ ls.length ≤ 100, ?_, ?_⟩
    · walk_at "fl"
      refine iteB (fun _ => ?_) (fun _ => ?_)
      · walk_at "fl"
        refine ⟨⟨by omega, by omega⟩, ?_⟩
        have m1 : 0 < (if 50 / m > 1 then 50 / m else (1 : Int)) ∧ (if 50 / m > 1 then 50 / m else (1 : Int)) ≤ 1000000 := by
          have a1 : 50 / m ≤ 50 := Int.ediv_le_self _ (by decide)
          split <;> omega
        walk_at "fl"
        refine ⟨rfl, h3, m1, fun x4 t h4 t0 t1 => ?_⟩
        walk_at "fl"
        refine ⟨⟨by omega, by omega⟩, fun done rest ρ => ∃ (x' : D) (ls : List Lk) (a5 : Fl.A), HandOk x' ∧ ρ = [.pr 0 x', .fz (.int m), .fz (.int r), .fz (.int kd), .ow (.lst (ls.map pairD)), a5] ∧ Good m ls ∧ ls.length ≤ 100, ⟨x4, [], .un, h4, rfl, fun p hp => (by cases hp), by simp⟩, ?_, ?_⟩
        · rintro done d rest ρ2 ⟨x', ls, a5, hx', rfl, hg, hz⟩
          walk_at "fl"
          rw [List.length_map]
          refine iteB (fun c => ?_) (fun c => ?_)
          · have c : ((ls.length : Nat) : Int) + m ≤ 52 := of_decide_eq_true c
            walk_at "fl"
            refine ⟨rfl, hx', hm, ⟨r0, r1⟩, fun x5 ks h5 hk hk10 => ?_⟩
            walk_at "fl"
            rw [List.length_map, List.length_map]
            refine ⟨by omega, ?_⟩
            walk_at "fl"
            exact ⟨x5, ls ++ ks, _, h5, by rw [List.map_append], hg.app hk, by rw [List.length_append]; omega⟩
          · walk_at "fl"
            exact ⟨x', ls, _, hx', rfl, hg, hz⟩
        · rintro done ρ2 ⟨x', ls, a5, hx', rfl, hg, hz⟩
          exact ⟨x', ls, a5, hx', rfl, hg, hz⟩
      · walk_at "fl"
        exact ⟨x3, [], .un, h3, rfl, fun p hp => (by cases hp), by simp⟩
    · rintro ρ' ⟨x', ls, a5, hx', rfl, hg, hz⟩
      have pk2 : ∃ n : Int, atI [D.int 8, .int 60] (if decide (kd = 0) = true then 1 else 0) = some (.int n) ∧ 0 ≤ n ∧ n ≤ 100 := by
        by_cases c : decide (kd = 0) = true
        · rw [if_pos c]; exact ⟨60, rfl, by decide, by decide⟩
        · rw [if_neg c]; exact ⟨8, rfl, by decide, by decide⟩
      obtain ⟨n, en, hn⟩ := pk2
      walk_at "fl"
      refine ⟨_, en, ?_⟩
      walk_at "fl"
      refine ⟨rfl, hx', hm, hn, fun x5 ks h5 hk hk100 => ?_⟩
      walk_at "fl"
      rw [List.length_map, List.length_map]
      refine ⟨by omega, ?_⟩
      walk_at "fl"
      refine ⟨rfl, h5, _, .inl rfl, by rw [List.length_append, List.length_map, List.length_map]; omega, fun x6 es h6 hp => ?_⟩
      rw [← List.map_append] at hp
      obtain ⟨js, rfl, hj⟩ := map_perm_back hp
      have hgj : Good m js := fun p hp => hg.app hk p (hj.mem_iff.mp hp)
      walk_at "fl"
      have cut : cutD (js.map pairD) none (some 60) = (js.take 60).map pairD := by
        rw [List.map_take]
        exact cut_to (n := 60)
      rw [cut]
      walk_at "fl"
      refine ⟨rfl, h6, ⟨by decide, by decide⟩, fun x7 t h7 t0 t1 => ?_⟩
      walk_at "fl"
      refine ⟨⟨by omega, by omega⟩, fun done rest ρ => ∃ (x' : D) (ls : List Lk) (a5 : Fl.A), HandOk x' ∧ ρ = [.pr 0 x', .fz (.int m), .fz (.int r), .fz (.int kd), .ow (.lst (ls.map pairD)), a5] ∧ Good m ls ∧ ls.length ≤ 60,
        ⟨x7, js.take 60, _, h7, rfl, fun p hp => hgj p (List.mem_of_mem_take hp), by rw [List.length_take]; omega⟩, ?_, ?_⟩
      · rintro done d rest ρ2 ⟨x', ls, a5, hx', rfl, hg, hz⟩
        walk_at "fl"
        rw [List.length_map]
        refine iteB (fun c => ?_) (fun c => ?_)
        · have c : (0 : Int) < (ls.length : Nat) := of_decide_eq_true c
          walk_at "fl"
          refine iteB (fun c2 => ?_) (fun c2 => ?_)
          · walk_at "fl"
            refine ⟨rfl, ?_⟩
            walk_at "fl"
            rw [List.length_map]
            refine ⟨rfl, hx', ⟨by omega, by omega⟩, fun x8 j h8 j0 j1 => ?_⟩
            obtain ⟨z, ez, _⟩ := at_any (xs := ls) j0 j1
            have er : ls[j.toNat]? = some z := by
              unfold atI at ez
              rw [ixN_of j0 j1] at ez
              exact ez
            walk_at "fl"
            refine ⟨j.toNat, pairD z, ?_, ?_, ⟨by omega, by omega⟩, ?_⟩
            · rw [List.length_map]; exact ixN_of j0 j1
            · rw [List.getElem?_map, er]; rfl
            · walk_at "fl"
              refine ⟨x8, ls.eraseIdx j.toNat, .fz d, h8, ?_, fun p hp => hg p (List.mem_of_mem_eraseIdx hp), Nat.le_trans (List.length_eraseIdx_le _ _) hz⟩
              show [_, _, _, _, Fl.A.ow (.lst ((ls.map pairD).eraseIdx j.toNat)), _] = _
              rw [map_erase]
          · walk_at "fl"
            exact ⟨x', ls, _, hx', rfl, hg, hz⟩
        · walk_at "no"
          exact ⟨x', ls, _, hx', rfl, hg, hz⟩
      · rintro done ρ2 ⟨x', ls, a5, hx', rfl, hg, hz⟩
        walk_at "fl"
        exact q x' m r ls hx' ⟨hm.1, hm.2, r0, r1, hz, hg⟩
end Fl

set_option Elab.async false
set_option linter.all false
set_option maxRecDepth 100000
set_option maxHeartbeats 1000000
namespace Fl
open PySem PySem.Spec PyProof.Rows L2
local macro_rules | `(tactic| walk_at "fl") => `(tactic| with_reducible conv => whnf)
local macro_rules | `(tactic| walk_at "yes") => `(tactic| ((with_reducible (conv => whnf)); rw [if_pos rfl]; (with_reducible (conv => whnf))))
local macro_rules | `(tactic| walk_at "no") => `(tactic| ((with_reducible (conv => whnf)); rw [if_neg Bool.false_ne_true]; (with_reducible (conv => whnf))))
local macro_rules | `(tactic| walk_at "len") => `(tactic| (first | (simp only [List.length_map, List.length_append, List.length_cons, List.length_nil, List.length_reverse, List.length_replicate]; omega) | (simp only [List.length_map, List.length_append, List.length_cons, List.length_nil, List.length_reverse, List.length_replicate] at *; omega)))
local macro_rules | `(tactic| walk_at "sd") => `(tactic| first | with_reducible rfl | assumption | exact True.intro | omega | walk_at "len" | rfl | decide)
local macro_rules | `(tactic| walk_at "sds") => `(tactic| first | walk_at "sd" | exact And.intro (by walk_at "sd") (by walk_at "sd") | exact And.intro (by walk_at "sd") (And.intro (by walk_at "sd") (by walk_at "sd")) | exact And.intro (And.intro (by walk_at "sd") (by walk_at "sd")) (by walk_at "sd"))
local macro_rules | `(tactic| walk_at "g1") => `(tactic| ((first | refine And.intro (by walk_at "sds") ?_ | with_reducible refine ifT ?_ | with_reducible refine ifF ?_ | with_reducible refine ifNT ?_ | with_reducible refine ifNF ?_ | with_reducible refine Exists.intro _ (And.intro rfl ?_) | refine isi_plain (by walk_at "sd") (by decide) ?_ | refine Exists.intro _ (And.intro (by assumption) ?_) | refine Exists.intro _ (And.intro rfl ?_) | refine Exists.intro _ (Exists.intro _ (Exists.intro _ (And.intro rfl ?_))) | refine Exists.intro _ (Exists.intro _ (And.intro rfl ?_)) | refine Exists.intro _ (Exists.intro _ (Exists.intro _ (Exists.intro _ (And.intro rfl ?_))))); (with_reducible conv => whnf)))
local macro_rules | `(tactic| walk_at "go") => `(tactic| ((with_reducible conv => whnf); repeat walk_at "g1"))
variable {P : Program} {w : World} {K : PySem.W.Frag} {mg : Str → Option Value} {base : Heap} {A : Ad}
theorem wp__law_is_int (T : Txt K mg A) (as : List AA) (Q : RV → List AA → Prop) (E : Ex → List AA → Prop) (ha : as.length = 3) (h : sp__law_is_int K A as Q E) : ws__law_is_int K A (wEnd as Q E) (argU 0 as 0) := by
  match as, h with
  | [.dv x, .dv (.int lo), .dv (.int hi)], ⟨p, q⟩ =>
    walk_at "fl"
    refine isi_plain p (by decide) ?_
    walk_at "fl"
    refine iteB (fun c => ?_) (fun c => ?_)
    · walk_at "fl"
      refine isi_plain p (by decide) ?_
      walk_at "fl"
      refine iteB (fun c1 => ?_) (fun c1 => ?_)
      · cases x <;> first | exact absurd (show false = true from c) Bool.false_ne_true | exact absurd (show false = true from c1) Bool.false_ne_true | skip
        rename_i i
        have e : withinD (.int i) lo hi = (decide (lo ≤ i) && decide (i ≤ hi)) := rfl
        rw [e] at q
        walk_at "fl"
        refine iteB (fun c1 => ?_) (fun c1 => ?_)
        · have c1 : decide (lo ≤ i) = true := c1
          rw [c1] at q
          walk_at "fl"
          exact q
        · have c1 : decide (lo ≤ i) = false := c1
          rw [c1] at q
          walk_at "fl"
          exact q
      · walk_at "fl"
        cases x <;> first | exact absurd (show true = false from c1) (by decide) | exact absurd (show false = true from c) Bool.false_ne_true | exact q
    · walk_at "fl"
      cases x <;> first | exact absurd (show true = false from c) (by decide) | exact q
end Fl

set_option Elab.async false
set_option linter.all false
set_option maxRecDepth 100000
set_option maxHeartbeats 1000000
namespace Fl
open PySem PySem.Spec PyProof.Rows L2
local macro_rules | `(tactic| walk_at "fl") => `(tactic| with_reducible conv => whnf)
local macro_rules | `(tactic| walk_at "yes") => `(tactic| ((with_reducible (conv => whnf)); rw [if_pos rfl]; (with_reducible (conv => whnf))))
local macro_rules | `(tactic| walk_at "no") => `(tactic| ((with_reducible (conv => whnf)); rw [if_neg Bool.false_ne_true]; (with_reducible (conv => whnf))))
local macro_rules | `(tactic| walk_at "len") => `(tactic| (first | (simp only [List.length_map, List.length_append, List.length_cons, List.length_nil, List.length_reverse, List.length_replicate]; omega) | (simp only [List.length_map, List.length_append, List.length_cons, List.length_nil, List.length_reverse, List.length_replicate] at *; omega)))
local macro_rules | `(tactic| walk_at "sd") => `(tactic| first | with_reducible rfl | assumption | exact True.intro | omega | walk_at "len" | rfl | decide)
local macro_rules | `(tactic| walk_at "sds") => `(tactic| first | walk_at "sd" | exact And.intro (by walk_at "sd") (by walk_at "sd") | exact And.intro (by walk_at "sd") (And.intro (by walk_at "sd") (by walk_at "sd")) | exact And.intro (And.intro (by walk_at "sd") (by walk_at "sd")) (by walk_at "sd"))
local macro_rules | `(tactic| walk_at "g1") => `(tactic| ((first | refine And.intro (by walk_at "sds") ?_ | with_reducible refine ifT ?_ | with_reducible refine ifF ?_ | with_reducible refine ifNT ?_ | with_reducible refine ifNF ?_ | with_reducible refine Exists.intro _ (And.intro rfl ?_) | refine isi_plain (by walk_at "sd") (by decide) ?_ | refine Exists.intro _ (And.intro (by assumption) ?_) | refine Exists.intro _ (And.intro rfl ?_) | refine Exists.intro _ (Exists.intro _ (Exists.intro _ (And.intro rfl ?_))) | refine Exists.intro _ (Exists.intro _ (And.intro rfl ?_)) | refine Exists.intro _ (Exists.intro _ (Exists.intro _ (Exists.intro _ (And.intro rfl ?_))))); (with_reducible conv => whnf)))
local macro_rules | `(tactic| walk_at "go") => `(tactic| ((with_reducible conv => whnf); repeat walk_at "g1"))
variable {P : Program} {w : World} {K : PySem.W.Frag} {mg : Str → Option Value} {base : Heap} {A : Ad}
theorem wp__law_is_lot (T : Txt K mg A) (as : List AA) (Q : RV → List AA → Prop) (E : Ex → List AA → Prop) (ha : as.length = 2) (h : sp__law_is_lot K A as Q E) : ws__law_is_lot K A (wEnd as Q E) (argU 0 as 2) := by
  match as, h with
  | [.dv x, .dv (.int m)], ⟨p, q⟩ =>
    walk_at "fl"
    refine isi_plain (pl_plain p) (by decide) ?_
    walk_at "fl"
    refine iteN (fun c => ?_) (fun c => ?_)
    · walk_at "fl"
      cases x <;> first | exact absurd (show true = false from c) (by decide) | exact q
    · cases x <;> first | exact absurd (show false = true from c) Bool.false_ne_true | skip
      rename_i ds
      walk_at "fl"
      refine ⟨fun done rest ρ => (∀ d ∈ rest, pl d = true) ∧ ∃ (l : Int) (a : Fl.A), ρ = [.fz (.tup ds), .fz (.int m), .fz (.int l), a] ∧ lotB m (.tup ds) = lotGo m l rest, ⟨pl_tup p, -1, .un, rfl, rfl⟩, ?_, ?_⟩
      · rintro done d rest ρ2 ⟨hp, l, a, rfl, e⟩
        have pd := hp d (by simp)
        walk_at "fl"
        refine ⟨rfl, pl_plain pd, ?_⟩
        walk_at "fl"
        refine iteN (fun c1 => ?_) (fun c1 => ?_)
        · rw [lotGo_out c1] at e
          walk_at "fl"
          rw [e] at q
          exact q
        · obtain ⟨i, rfl, _, _⟩ := withinD_int c1
          rw [lotGo_in c1] at e
          walk_at "fl"
          exact ⟨fun d hd => hp d (List.mem_cons_of_mem _ hd), i, _, rfl, e⟩
      · rintro done ρ2 ⟨hp, l, a, rfl, e⟩
        walk_at "fl"
        rw [e] at q
        exact q
end Fl

set_option Elab.async false
set_option linter.all false
set_option maxRecDepth 100000
set_option maxHeartbeats 1000000
namespace Fl
open PySem PySem.Spec PyProof.Rows L2
local macro_rules | `(tactic| walk_at "fl") => `(tactic| with_reducible conv => whnf)
local macro_rules | `(tactic| walk_at "yes") => `(tactic| ((with_reducible (conv => whnf)); rw [if_pos rfl]; (with_reducible (conv => whnf))))
local macro_rules | `(tactic| walk_at "no") => `(tactic| ((with_reducible (conv => whnf)); rw [if_neg Bool.false_ne_true]; (with_reducible (conv => whnf))))
local macro_rules | `(tactic| walk_at "len") => `(tactic| (first | (simp only [List.length_map, List.length_append, List.length_cons, List.length_nil, List.length_reverse, List.length_replicate]; omega) | (simp only [List.length_map, List.length_append, List.length_cons, List.length_nil, List.length_reverse, List.length_replicate] at *; omega)))
local macro_rules | `(tactic| walk_at "sd") => `(tactic| first | with_reducible rfl | assumption | exact True.intro | omega | walk_at "len" | rfl | decide)
local macro_rules | `(tactic| walk_at "sds") => `(tactic| first | walk_at "sd" | exact And.intro (by walk_at "sd") (by walk_at "sd") | exact And.intro (by walk_at "sd") (And.intro (by walk_at "sd") (by walk_at "sd")) | exact And.intro (And.intro (by walk_at "sd") (by walk_at "sd")) (by walk_at "sd"))
local macro_rules | `(tactic| walk_at "g1") => `(tactic| ((first | refine And.intro (by walk_at "sds") ?_ | with_reducible refine ifT ?_ | with_reducible refine ifF ?_ | with_reducible refine ifNT ?_ | with_reducible refine ifNF ?_ | with_reducible refine Exists.intro _ (And.intro rfl ?_) | refine isi_plain (by walk_at "sd") (by decide) ?_ | refine Exists.intro _ (And.intro (by assumption) ?_) | refine Exists.intro _ (And.intro rfl ?_) | refine Exists.intro _ (Exists.intro _ (Exists.intro _ (And.intro rfl ?_))) | refine Exists.intro _ (Exists.intro _ (And.intro rfl ?_)) | refine Exists.intro _ (Exists.intro _ (Exists.intro _ (Exists.intro _ (And.intro rfl ?_))))); (with_reducible conv => whnf)))
local macro_rules | `(tactic| walk_at "go") => `(tactic| ((with_reducible conv => whnf); repeat walk_at "g1"))
variable {P : Program} {w : World} {K : PySem.W.Frag} {mg : Str → Option Value} {base : Heap} {A : Ad}
theorem wp__law_is_wood (T : Txt K mg A) (as : List AA) (Q : RV → List AA → Prop) (E : Ex → List AA → Prop) (ha : as.length = 3) (h : sp__law_is_wood K A as Q E) : ws__law_is_wood K A (wEnd as Q E) (argU 0 as 7) := by
  match as, h with
  | [.dv n, .dv y, .dv x], ⟨m, r, ls, e1, N, e2, p, hz, q⟩ =>
    subst e1 e2
    have no : ∀ {b : Bool}, b = false → (¬ IsTree m r ls x) → Q (.val (.bl b)) [.dv (partsD m r ls), .dv (.tup [.int r]), .dv x] := fun e h => q _ ⟨fun z => (by rw [e] at z; cases z), fun z => absurd z h⟩
    walk_at "fl"
    refine ⟨_, rfl, ?_⟩
    walk_at "fl"
    refine ⟨_, rfl, ?_⟩
    walk_at "fl"
    refine ⟨⟨rfl, rfl⟩, ?_⟩
    walk_at "fl"
    refine ⟨rfl, p, ?_⟩
    walk_at "fl"
    rw [List.length_map]
    refine iteN (fun c => ?_) (fun c => ?_)
    · walk_at "fl"
      refine no rfl ?_
      rintro ⟨js, rfl, g, _⟩
      rw [lotB_iff.mpr ⟨js, rfl, g.lot⟩] at c
      cases c
    · obtain ⟨js, rfl, hl⟩ := lotB_iff.mp c
      walk_at "fl"
      rw [List.length_map]
      refine iteN (fun c2 => ?_) (fun c2 => ?_)
      · have c2 := of_decide_eq_false c2
        walk_at "fl"
        refine no rfl ?_
        rintro ⟨js', e, _, hlen⟩
        have : js = js' := ints_inj (by injection e)
        subst this
        exact c2 hlen
      · have c2 : (js.length : Int) = m - 1 := of_decide_eq_true c2
        have m10 := N.m10
        have m2 := N.m2
        have key : IsTree m r ls (.tup (js.map D.int)) ↔ Grown ls [r] js := by
          constructor
          · rintro ⟨js', e, g, _⟩
            have : js = js' := ints_inj (by injection e)
            rw [this]; exact g
          · intro g; exact ⟨js, rfl, g, c2⟩
        walk_at "fl"
        refine ⟨fun done rest ρ => ∃ (a b : List Int) (a6 : Fl.A), js = a ++ b ∧ rest = b.map D.int ∧ (heads ls a).Nodup ∧ r ∉ heads ls a ∧
          ρ = [.fz (partsD m r ls), .fz (.tup [.int r]), .fz (.tup (js.map D.int)), .fz (.int m), .fz (.tup (ls.map pairD)), .ow (.dic (aheadD (edges ls a))), a6, .un, .un, .un], ⟨[], js, .un, rfl, rfl, List.nodup_nil, by simp [heads, edges], rfl⟩, ?_, ?_⟩
        · rintro done d rest ρ2 ⟨a, b, a6, e1, e2, hnd, hro, rfl⟩
          cases b with
          | nil => cases e2
          | cons j b =>
            rw [List.map_cons] at e2
            injection e2 with e2 e3
            subst e2 e3
            have hj := hl.1 j (by rw [e1]; simp)
            have hs : heads ls js = heads ls a ++ (lk ls j).2 :: heads ls b := by
              rw [e1, heads_sub]
              rfl
            walk_at "fl"
            refine ⟨_, at_links hj.1 hj.2, ?_⟩
            walk_at "fl"
            refine ⟨_, rfl, ?_⟩
            walk_at "fl"
            rw [some_ahead]
            refine iteB (fun c3 => ?_) (fun c3 => ?_)
            · have c3 : (lk ls j).2 ∈ heads ls a := of_decide_eq_true c3
              walk_at "yes"
              refine no rfl fun g => ?_
              have g := (key.mp g).once
              rw [hs, List.nodup_append] at g
              exact g.2.2 _ c3 _ (by simp) rfl
            · have c3 : (lk ls j).2 ∉ heads ls a := of_decide_eq_false c3
              walk_at "fl"
              refine ⟨_, at_links hj.1 hj.2, ?_⟩
              walk_at "fl"
              refine ⟨_, rfl, ?_⟩
              walk_at "fl"
              refine ⟨rfl, ?_⟩
              walk_at "fl"
              have em : memD (.int (lk ls j).2) [.int r] = decide ((lk ls j).2 ∈ [r]) := mem_ints (ns := [r])
              rw [em]
              refine iteB (fun c4 => ?_) (fun c4 => ?_)
              · have c4 := List.mem_singleton.mp (of_decide_eq_true c4)
                walk_at "fl"
                refine no rfl fun g => ?_
                refine (key.mp g).out r (by simp) ?_
                rw [hs, c4]
                simp
              · have c4 : (lk ls j).2 ≠ r := fun z => of_decide_eq_false c4 (List.mem_singleton.mpr z)
                walk_at "fl"
                refine ⟨_, at_links hj.1 hj.2, ?_⟩
                walk_at "fl"
                refine ⟨_, rfl, ?_⟩
                walk_at "fl"
                refine ⟨_, at_links hj.1 hj.2, ?_⟩
                walk_at "fl"
                refine ⟨_, rfl, ?_⟩
                walk_at "fl"
                refine ⟨_, rfl, ?_, ?_⟩
                · have f1 := few_of (n := ls.length) hl.nodup fun x hx => hl.1 x hx
                  have f2 := N.len
                  rw [e1, List.length_append] at f1
                  unfold aheadD edges
                  rw [List.length_map, List.length_map]
                  omega
                · walk_at "fl"
                  refine ⟨a ++ [j], b, .fz (.int j), by rw [e1, List.append_assoc]; rfl, rfl, ?_, ?_, ?_⟩
                  · rw [heads_snoc]
                    refine List.nodup_append.mpr ⟨hnd, by simp, fun x hx y hy e => ?_⟩
                    rw [List.mem_singleton.mp hy] at e
                    exact c3 (e ▸ hx)
                  · rw [heads_snoc, List.mem_append, not_or]
                    exact ⟨hro, fun z => c4 (List.mem_singleton.mp z).symm⟩
                  · have : putD (aheadD (edges ls a)) (Sum.inl (lk ls j).2 : Key) (.int (lk ls j).1) = aheadD (edges ls (a ++ [j])) := by
                      rw [put_ahead c3]
                      unfold edges
                      rw [List.map_append]
                      rfl
                    rw [← this]
        · rintro done ρ2 ⟨a, b, a6, e1, e2, hnd, hro, rfl⟩
          have : b = [] := by cases b <;> first | rfl | cases e2
          subst this
          rw [List.append_nil] at e1
          subst e1
          have tree := tree_iff N hl c2 hnd hro
          generalize hes : edges ls js = es at tree
          walk_at "fl"
          refine ⟨⟨by omega, by omega⟩, fun done rest ρ => ∃ (a b : List Int) (a7 a8 a9 : Fl.A), rgI m.toNat = a ++ b ∧ rest = b.map D.int ∧ (∀ p ∈ a, itr es m.toNat p = r) ∧
            ρ = [.fz (partsD m r ls), .fz (.tup [.int r]), .fz (.tup (js.map D.int)), .fz (.int m), .fz (.tup (ls.map pairD)), .ow (.dic (aheadD es)), a6, a7, a8, a9], ⟨[], rgI m.toNat, .un, .un, .un, rfl, ran_ints, by simp, rfl⟩, ?_, ?_⟩
          · rintro done d rest ρ2 ⟨a, b, a7, a8, a9, e1, e2, hall, rfl⟩
            cases b with
            | nil => cases e2
            | cons p b =>
              rw [List.map_cons] at e2
              injection e2 with e2 e3
              subst e2 e3
              have hp := mem_rgI.mp (show p ∈ rgI m.toNat by rw [e1]; simp)
              walk_at "fl"
              refine ⟨⟨by omega, by omega⟩, fun done2 rest2 ρ => done2.length + rest2.length = m.toNat ∧ ∃ a9 : Fl.A,
                ρ = [.fz (partsD m r ls), .fz (.tup [.int r]), .fz (.tup (js.map D.int)), .fz (.int m), .fz (.tup (ls.map pairD)), .ow (.dic (aheadD es)), a6, .fz (.int p), .fz (.int (itr es done2.length p)), a9], ⟨by unfold ranD; simp, _, rfl⟩, ?_, ?_⟩
              · rintro done2 d2 rest2 ρ3 ⟨hlen, a9, rfl⟩
                walk_at "fl"
                refine ⟨True.intro, ?_⟩
                walk_at "fl"
                have nxt : par es (itr es done2.length p) = itr es (done2 ++ [d2]).length p := by rw [List.length_append]; rfl
                rcases look_par (es := es) (x := itr es done2.length p) with ⟨h1, h2⟩ | h1
                · rw [h1]
                  walk_at "fl"
                  refine ⟨by rw [List.length_append, ← hlen]; simp; omega, .fz d2, ?_⟩
                  rw [← nxt, h2]
                · rw [h1]
                  walk_at "fl"
                  refine ⟨by rw [List.length_append, ← hlen]; simp; omega, .fz d2, ?_⟩
                  rw [← nxt]
              · rintro done2 ρ3 ⟨hlen, a9, rfl⟩
                have hlen : done2.length = m.toNat := by simpa using hlen
                rw [hlen]
                walk_at "fl"
                refine ⟨rfl, ?_⟩
                walk_at "fl"
                have em : memD (.int (itr es m.toNat p)) [.int r] = decide (itr es m.toNat p ∈ [r]) := mem_ints (ns := [r])
                rw [em]
                refine iteN (fun c4 => ?_) (fun c4 => ?_)
                · walk_at "fl"
                  refine no rfl fun g => ?_
                  have g := (key.mp g).all
                  rw [hes] at g
                  have := tree.mp g p hp.1 (by omega)
                  exact of_decide_eq_false c4 (List.mem_singleton.mpr this)
                · walk_at "fl"
                  refine ⟨a ++ [p], b, _, _, _, by rw [e1, List.append_assoc]; rfl, rfl, fun x hx => ?_, rfl⟩
                  rcases List.mem_append.mp hx with hx | hx
                  · exact hall x hx
                  · rw [List.mem_singleton.mp hx]; exact List.mem_singleton.mp (of_decide_eq_true c4)
          · rintro done ρ2 ⟨a, b, a7, a8, a9, e1, e2, hall, rfl⟩
            have : b = [] := by cases b <;> first | rfl | cases e2
            subst this
            rw [List.append_nil] at e1
            walk_at "fl"
            refine q true ⟨fun _ => key.mpr ⟨hl, hnd, fun x hx => by rw [List.mem_singleton.mp hx]; exact hro, ?_⟩, fun _ => rfl⟩
            rw [hes]
            exact tree.mpr fun p h0 h1 => hall p (by rw [← e1]; exact mem_rgI.mpr ⟨h0, by omega⟩)
end Fl

set_option Elab.async false
set_option linter.all false
set_option maxRecDepth 100000
set_option maxHeartbeats 1000000
namespace Fl
open PySem PySem.Spec PyProof.Rows L2
local macro_rules | `(tactic| walk_at "fl") => `(tactic| with_reducible conv => whnf)
local macro_rules | `(tactic| walk_at "yes") => `(tactic| ((with_reducible (conv => whnf)); rw [if_pos rfl]; (with_reducible (conv => whnf))))
local macro_rules | `(tactic| walk_at "no") => `(tactic| ((with_reducible (conv => whnf)); rw [if_neg Bool.false_ne_true]; (with_reducible (conv => whnf))))
local macro_rules | `(tactic| walk_at "len") => `(tactic| (first | (simp only [List.length_map, List.length_append, List.length_cons, List.length_nil, List.length_reverse, List.length_replicate]; omega) | (simp only [List.length_map, List.length_append, List.length_cons, List.length_nil, List.length_reverse, List.length_replicate] at *; omega)))
local macro_rules | `(tactic| walk_at "sd") => `(tactic| first | with_reducible rfl | assumption | exact True.intro | omega | walk_at "len" | rfl | decide)
local macro_rules | `(tactic| walk_at "sds") => `(tactic| first | walk_at "sd" | exact And.intro (by walk_at "sd") (by walk_at "sd") | exact And.intro (by walk_at "sd") (And.intro (by walk_at "sd") (by walk_at "sd")) | exact And.intro (And.intro (by walk_at "sd") (by walk_at "sd")) (by walk_at "sd"))
local macro_rules | `(tactic| walk_at "g1") => `(tactic| ((first | refine And.intro (by walk_at "sds") ?_ | with_reducible refine ifT ?_ | with_reducible refine ifF ?_ | with_reducible refine ifNT ?_ | with_reducible refine ifNF ?_ | with_reducible refine Exists.intro _ (And.intro rfl ?_) | refine isi_plain (by walk_at "sd") (by decide) ?_ | refine Exists.intro _ (And.intro (by assumption) ?_) | refine Exists.intro _ (And.intro rfl ?_) | refine Exists.intro _ (Exists.intro _ (Exists.intro _ (And.intro rfl ?_))) | refine Exists.intro _ (Exists.intro _ (And.intro rfl ?_)) | refine Exists.intro _ (Exists.intro _ (Exists.intro _ (Exists.intro _ (And.intro rfl ?_))))); (with_reducible conv => whnf)))
local macro_rules | `(tactic| walk_at "go") => `(tactic| ((with_reducible conv => whnf); repeat walk_at "g1"))
variable {P : Program} {w : World} {K : PySem.W.Frag} {mg : Str → Option Value} {base : Heap} {A : Ad}
theorem wp__law_are_apart (T : Txt K mg A) (as : List AA) (Q : RV → List AA → Prop) (E : Ex → List AA → Prop) (ha : as.length = 1) (h : sp__law_are_apart K A as Q E) : ws__law_are_apart K A (wEnd as Q E) (argU 0 as 2) := by
  match as, h with
  | [.dv x], ⟨jss, e, hz, q⟩ =>
    subst e
    walk_at "fl"
    refine ⟨fun done rest ρ => ∃ (js1 js2 : List (List Int)) (a : Fl.A), ρ = [.fz (.tup (jss.map lotD)), .ow (.lst (js1.flatten.map D.int)), a] ∧ rest = js2.map lotD ∧ jss = js1 ++ js2, ⟨[], jss, .un, rfl, rfl, rfl⟩, ?_, ?_⟩
    · rintro done d rest ρ2 ⟨js1, js2, a, rfl, er, ej⟩
      cases js2 with
      | nil => cases er
      | cons j js2 =>
        rw [List.map_cons] at er
        injection er with e1 e2
        subst e1 e2
        have hz2 : js1.flatten.length + j.length ≤ 1000 := by
          rw [ej, List.flatten_append, List.flatten_cons, List.length_append, List.length_append] at hz
          omega
        walk_at "fl"
        rw [List.length_map, List.length_map]
        refine ⟨by omega, ?_⟩
        walk_at "fl"
        refine ⟨js1 ++ [j], js2, .fz (lotD j), ?_, rfl, by rw [ej, List.append_assoc]; rfl⟩
        show [_, Fl.A.ow (.lst (js1.flatten.map D.int ++ j.map D.int)), _] = _
        rw [List.flatten_append, List.map_append]
        simp
    · rintro done ρ2 ⟨js1, js2, a, rfl, er, ej⟩
      have : js2 = [] := by cases js2 <;> first | rfl | cases er
      subst this
      rw [List.append_nil] at ej
      subst ej
      walk_at "fl"
      refine ⟨_, rfl, hz, ?_⟩
      walk_at "fl"
      refine ⟨by omega, ?_⟩
      walk_at "fl"
      have e : decide (((dups jss.flatten).length : Int) = ((jss.flatten.map D.int).length : Nat)) = decide jss.flatten.Nodup := by
        rw [decide_eq_decide, List.length_map, ← dups_same]
        omega
      rw [e]
      exact q
end Fl

set_option Elab.async false
set_option linter.all false
set_option maxRecDepth 100000
set_option maxHeartbeats 1000000
namespace Fl
open PySem PySem.Spec PyProof.Rows L2
local macro_rules | `(tactic| walk_at "fl") => `(tactic| with_reducible conv => whnf)
local macro_rules | `(tactic| walk_at "yes") => `(tactic| ((with_reducible (conv => whnf)); rw [if_pos rfl]; (with_reducible (conv => whnf))))
local macro_rules | `(tactic| walk_at "no") => `(tactic| ((with_reducible (conv => whnf)); rw [if_neg Bool.false_ne_true]; (with_reducible (conv => whnf))))
local macro_rules | `(tactic| walk_at "len") => `(tactic| (first | (simp only [List.length_map, List.length_append, List.length_cons, List.length_nil, List.length_reverse, List.length_replicate]; omega) | (simp only [List.length_map, List.length_append, List.length_cons, List.length_nil, List.length_reverse, List.length_replicate] at *; omega)))
local macro_rules | `(tactic| walk_at "sd") => `(tactic| first | with_reducible rfl | assumption | exact True.intro | omega | walk_at "len" | rfl | decide)
local macro_rules | `(tactic| walk_at "sds") => `(tactic| first | walk_at "sd" | exact And.intro (by walk_at "sd") (by walk_at "sd") | exact And.intro (by walk_at "sd") (And.intro (by walk_at "sd") (by walk_at "sd")) | exact And.intro (And.intro (by walk_at "sd") (by walk_at "sd")) (by walk_at "sd"))
local macro_rules | `(tactic| walk_at "g1") => `(tactic| ((first | refine And.intro (by walk_at "sds") ?_ | with_reducible refine ifT ?_ | with_reducible refine ifF ?_ | with_reducible refine ifNT ?_ | with_reducible refine ifNF ?_ | with_reducible refine Exists.intro _ (And.intro rfl ?_) | refine isi_plain (by walk_at "sd") (by decide) ?_ | refine Exists.intro _ (And.intro (by assumption) ?_) | refine Exists.intro _ (And.intro rfl ?_) | refine Exists.intro _ (Exists.intro _ (Exists.intro _ (And.intro rfl ?_))) | refine Exists.intro _ (Exists.intro _ (And.intro rfl ?_)) | refine Exists.intro _ (Exists.intro _ (Exists.intro _ (Exists.intro _ (And.intro rfl ?_))))); (with_reducible conv => whnf)))
local macro_rules | `(tactic| walk_at "go") => `(tactic| ((with_reducible conv => whnf); repeat walk_at "g1"))
variable {P : Program} {w : World} {K : PySem.W.Frag} {mg : Str → Option Value} {base : Heap} {A : Ad}
theorem wp__law_is_packing (T : Txt K mg A) (as : List AA) (Q : RV → List AA → Prop) (E : Ex → List AA → Prop) (ha : as.length = 2) (h : sp__law_is_packing K A as Q E) : ws__law_is_packing K A (wEnd as Q E) (argU 0 as 1) := by
  match as, h with
  | [.dv n, .dv x], ⟨m, r, ls, e, N, p, hz, q⟩ =>
    subst e
    walk_at "fl"
    refine isi_plain (pl_plain p) (by decide) ?_
    walk_at "fl"
    refine iteN (fun c => ?_) (fun c => ?_)
    · walk_at "fl"
      refine q false ⟨fun z => (by cases z), ?_⟩
      rintro ⟨jss, rfl, _⟩
      cases c
    · cases x <;> first | exact absurd (show false = true from c) Bool.false_ne_true | skip
      rename_i ds
      have hz := hz ds rfl
      walk_at "fl"
      refine ⟨⟨⟨rfl, True.intro⟩, by omega⟩, fun rest acc ρ => ∃ (done : List D) (bs : List Bool), ds = done ++ rest ∧ acc = bs.map D.bl ∧ (bs.all id = true ↔ ∀ d ∈ done, IsTree m r ls d) ∧ ρ = [.fz (partsD m r ls), .fz (.tup ds), .un], ⟨[], [], rfl, rfl, by simp, rfl⟩, ?_, ?_⟩
      · rintro d rest acc ρ2 ⟨done, bs, e1, rfl, hb, rfl⟩
        walk_at "fl"
        refine ifT ?_
        walk_at "fl"
        refine ⟨_, rfl, ?_⟩
        walk_at "fl"
        have hd : d ∈ ds := by rw [e1]; simp
        refine ⟨rfl, m, r, ls, rfl, N, rfl, pl_tup p d hd, hz.2 d hd, fun b h2 => ?_⟩
        walk_at "fl"
        refine ⟨done ++ [d], bs ++ [b], by rw [e1, List.append_assoc]; rfl, by rw [List.map_append]; rfl, all_snoc hb h2, rfl⟩
      · rintro acc ρ2 ⟨done, bs, e1, rfl, hb, rfl⟩
        rw [List.append_nil] at e1
        subst e1
        walk_at "fl"
        refine ⟨bs, rfl, ?_⟩
        walk_at "fl"
        refine iteN (fun c2 => ?_) (fun c2 => ?_)
        · have c2 : bs.all id = false := c2
          walk_at "fl"
          refine q false ⟨fun z => (by cases z), ?_⟩
          rintro ⟨jss, e, h1, _⟩
          injection e with e
          have := hb.mpr fun d hd => by
            rw [e] at hd
            obtain ⟨js, hj, rfl⟩ := List.mem_map.mp hd
            exact h1 js hj
          rw [this] at c2
          cases c2
        · obtain ⟨jss, rfl, hj⟩ := trees_lots (hb.mp c2)
          walk_at "fl"
          refine ⟨rfl, jss, rfl, ?_, ?_⟩
          · have hz := hz.1
            rw [List.length_map] at hz
            have := flat_few (n := 100) (k := 9) (jss := jss) (fun js h => by have := tree_len (hj js h); have := N.m10; omega) hz
            omega
          · walk_at "fl"
            refine q _ ?_
            rw [decide_eq_true_iff]
            constructor
            · intro nd; exact ⟨jss, rfl, hj, nd⟩
            · rintro ⟨jss', e, _, nd⟩
              have : jss = jss' := lots_inj (by injection e)
              rw [this]; exact nd
end Fl

set_option Elab.async false
set_option linter.all false
set_option maxRecDepth 100000
set_option maxHeartbeats 1000000
namespace Fl
open PySem PySem.Spec PyProof.Rows L2
local macro_rules | `(tactic| walk_at "fl") => `(tactic| with_reducible conv => whnf)
local macro_rules | `(tactic| walk_at "yes") => `(tactic| ((with_reducible (conv => whnf)); rw [if_pos rfl]; (with_reducible (conv => whnf))))
local macro_rules | `(tactic| walk_at "no") => `(tactic| ((with_reducible (conv => whnf)); rw [if_neg Bool.false_ne_true]; (with_reducible (conv => whnf))))
local macro_rules | `(tactic| walk_at "len") => `(tactic| (first | (simp only [List.length_map, List.length_append, List.length_cons, List.length_nil, List.length_reverse, List.length_replicate]; omega) | (simp only [List.length_map, List.length_append, List.length_cons, List.length_nil, List.length_reverse, List.length_replicate] at *; omega)))
local macro_rules | `(tactic| walk_at "sd") => `(tactic| first | with_reducible rfl | assumption | exact True.intro | omega | walk_at "len" | rfl | decide)
local macro_rules | `(tactic| walk_at "sds") => `(tactic| first | walk_at "sd" | exact And.intro (by walk_at "sd") (by walk_at "sd") | exact And.intro (by walk_at "sd") (And.intro (by walk_at "sd") (by walk_at "sd")) | exact And.intro (And.intro (by walk_at "sd") (by walk_at "sd")) (by walk_at "sd"))
local macro_rules | `(tactic| walk_at "g1") => `(tactic| ((first | refine And.intro (by walk_at "sds") ?_ | with_reducible refine ifT ?_ | with_reducible refine ifF ?_ | with_reducible refine ifNT ?_ | with_reducible refine ifNF ?_ | with_reducible refine Exists.intro _ (And.intro rfl ?_) | refine isi_plain (by walk_at "sd") (by decide) ?_ | refine Exists.intro _ (And.intro (by assumption) ?_) | refine Exists.intro _ (And.intro rfl ?_) | refine Exists.intro _ (Exists.intro _ (Exists.intro _ (And.intro rfl ?_))) | refine Exists.intro _ (Exists.intro _ (And.intro rfl ?_)) | refine Exists.intro _ (Exists.intro _ (Exists.intro _ (Exists.intro _ (And.intro rfl ?_))))); (with_reducible conv => whnf)))
local macro_rules | `(tactic| walk_at "go") => `(tactic| ((with_reducible conv => whnf); repeat walk_at "g1"))
variable {P : Program} {w : World} {K : PySem.W.Frag} {mg : Str → Option Value} {base : Heap} {A : Ad}
theorem wp__law_grow (T : Txt K mg A) (as : List AA) (Q : RV → List AA → Prop) (E : Ex → List AA → Prop) (ha : as.length = 5) (h : sp__law_grow K A as Q E) : ws__law_grow K A (wEnd as Q E) (argU 0 as 6) := by
  match as, h with
  | [.ob x, .dv n, .dv y, .dv z, .dv (.int k)], ⟨hx, m, r, ls, free, e1, N, e2, e3, hf, hf60, hk, q⟩ =>
    subst e1 e2 e3
    have q' : ∀ (x' : D) (js : List Int), HandOk x' → (r :: heads ls js).Nodup → (∀ j ∈ js, j ∈ free) → (∀ x ∈ heads ls js, RS (edges ls js) [r] x) → Q (.val (.tup ((isort js).map D.int))) [.ob x', .dv (partsD m r ls), .dv (.lst [.int r]), .dv (.lst (free.map D.int)), .dv (.int k)] := fun x' js hx' hnd hin hrs =>
      q x' (isort js) hx' (grown_sort hnd (fun j hj => hf j (hin j hj)) hrs) fun j hj => hin j ((isort_perm js).mem_iff.mp hj)
    walk_at "fl"
    refine ⟨_, rfl, ?_⟩
    walk_at "fl"
    refine ⟨⟨rfl, rfl, rfl⟩, ?_⟩
    walk_at "fl"
    refine ⟨⟨by omega, by omega⟩, fun done rest ρ => ∃ (x' : D) (js : List Int) (a8 a9 : Fl.A), HandOk x' ∧ ρ = [.pr 0 x', .fz (partsD m r ls), .fz (.lst [.int r]), .fz (.lst (free.map D.int)), .fz (.int k), .fz (.tup (ls.map pairD)), .ow (.lst ((r :: heads ls js).map D.int)), .ow (.lst (js.map D.int)), a8, a9, .un] ∧
      (r :: heads ls js).Nodup ∧ (∀ j ∈ js, j ∈ free) ∧ (∀ x ∈ heads ls js, RS (edges ls js) [r] x), ⟨x, [], .un, .un, hx, rfl, by simp [heads, edges], by simp, by simp [heads, edges]⟩, ?_, ?_⟩
    · rintro done d rest ρ2 ⟨x', js, a8, a9, hx', rfl, hnd, hin, hrs⟩
      have hs10 : (r :: heads ls js).length ≤ 10 := by
        have := few_of (n := m.toNat) hnd fun x hx => by
          have := N.r0; have := N.rm
          rcases List.mem_cons.mp hx with rfl | hx
          · omega
          · obtain ⟨e, he, rfl⟩ := List.mem_map.mp hx
            obtain ⟨j, hj, rfl⟩ := List.mem_map.mp he
            have := hf j (hin j hj)
            have := (N.good _ (lk_mem this.1 this.2)).2.1
            omega
        have := N.m10
        omega
      walk_at "fl"
      refine ⟨⟨⟨rfl, True.intro⟩, by rw [List.length_map]; omega⟩, fun rest acc ρ => ∃ (a b : List Int), free = a ++ b ∧ rest = b.map D.int ∧ acc = (a.filter fun j => decide ((lk ls j).1 ∈ r :: heads ls js) && !decide ((lk ls j).2 ∈ r :: heads ls js)).map D.int ∧
        ρ = [.pr 0 x', .fz (partsD m r ls), .fz (.lst [.int r]), .fz (.lst (free.map D.int)), .fz (.int k), .fz (.tup (ls.map pairD)), .ow (.lst ((r :: heads ls js).map D.int)), .ow (.lst (js.map D.int)), .fz d, a9, .un], ⟨[], free, rfl, rfl, rfl, rfl⟩, ?_, ?_⟩
      · rintro d2 rest2 acc ρ3 ⟨a, b, e1, e2, rfl, rfl⟩
        cases b with
        | nil => cases e2
        | cons j b =>
          rw [List.map_cons] at e2
          injection e2 with e2 e3
          subst e2 e3
          have hj := hf j (by rw [e1]; simp)
          walk_at "fl"
          refine ⟨_, at_links hj.1 hj.2, ?_⟩
          walk_at "fl"
          refine ⟨_, rfl, ?_⟩
          walk_at "fl"
          refine ⟨.inl (by rw [flat_ints]; rfl), ?_⟩
          walk_at "fl"
          rw [mem_ints]
          refine iteB (fun c => ?_) (fun c => ?_)
          · walk_at "fl"
            refine ⟨_, at_links hj.1 hj.2, ?_⟩
            walk_at "fl"
            refine ⟨_, rfl, ?_⟩
            walk_at "fl"
            refine ⟨.inl (by rw [flat_ints]; rfl), ?_⟩
            walk_at "fl"
            rw [mem_ints]
            refine iteB (fun c1 => ?_) (fun c1 => ?_)
            · walk_at "fl"
              refine ⟨a ++ [j], b, by rw [e1, List.append_assoc]; rfl, rfl, ?_, rfl⟩
              rw [List.filter_append, List.filter_cons, if_pos (by rw [c, c1]; rfl)]
              simp
            · walk_at "fl"
              refine ⟨a ++ [j], b, by rw [e1, List.append_assoc]; rfl, rfl, ?_, rfl⟩
              rw [List.filter_append, List.filter_cons, if_neg (by rw [Bool.and_eq_true, not_and]; intro _; rw [c1]; exact Bool.false_ne_true)]
              simp
          · walk_at "no"
            refine ⟨a ++ [j], b, by rw [e1, List.append_assoc]; rfl, rfl, ?_, rfl⟩
            rw [List.filter_append, List.filter_cons, if_neg (by rw [c, Bool.false_and]; exact Bool.false_ne_true)]
            simp
      · rintro acc ρ3 ⟨a, b, e1, e2, rfl, rfl⟩
        have : b = [] := by cases b <;> first | rfl | cases e2
        subst this
        rw [List.append_nil] at e1
        subst e1
        generalize hso : (free.filter fun j => decide ((lk ls j).1 ∈ r :: heads ls js) && !decide ((lk ls j).2 ∈ r :: heads ls js)) = so
        have so60 : so.length ≤ 60 := by rw [← hso]; exact Nat.le_trans (List.length_filter_le _ _) hf60
        have soin : ∀ j ∈ so, j ∈ free ∧ (lk ls j).1 ∈ r :: heads ls js ∧ (lk ls j).2 ∉ r :: heads ls js := fun j hj => by
          rw [← hso, List.mem_filter, Bool.and_eq_true, decide_eq_true_iff, Bool.not_eq_true', decide_eq_false_iff_not] at hj
          exact hj
        walk_at "fl"
        rw [List.length_map]
        refine iteB (fun c => ?_) (fun c => ?_)
        · walk_at "fl"
          refine ⟨js, rfl, ?_⟩
          walk_at "fl"
          exact q' x' js hx' hnd hin hrs
        · have c : ¬ (so.length : Int) = 0 := of_decide_eq_false c
          walk_at "fl"
          refine ⟨rfl, ?_⟩
          walk_at "fl"
          rw [List.length_map]
          refine ⟨rfl, hx', ⟨by omega, by omega⟩, fun x2 t h2 t0 t1 => ?_⟩
          obtain ⟨zz, ez, mz⟩ := at_any (xs := so.map D.int) t0 (by rw [List.length_map]; exact t1)
          obtain ⟨j, hj, rfl⟩ := List.mem_map.mp mz
          obtain ⟨s1, s2, s3⟩ := soin j hj
          have hj2 := hf j s1
          walk_at "fl"
          refine ⟨_, ez, ?_⟩
          walk_at "fl"
          rw [List.length_map]
          have jl := heads_len (ls := ls) (js := js)
          rw [List.length_cons] at hs10
          refine ⟨by omega, ?_⟩
          walk_at "fl"
          refine ⟨rfl, ?_⟩
          walk_at "fl"
          refine ⟨_, at_snoc, ?_⟩
          walk_at "fl"
          refine ⟨_, at_links hj2.1 hj2.2, ?_⟩
          walk_at "fl"
          refine ⟨_, rfl, ?_⟩
          walk_at "fl"
          rw [List.length_map]
          refine ⟨by rw [List.length_cons]; omega, ?_⟩
          walk_at "fl"
          refine ⟨x2, js ++ [j], .fz d, .ow (.lst (so.map D.int)), h2, ?_, ?_, ?_, ?_⟩
          · rw [heads_snoc, List.map_append, ← List.cons_append, List.map_append]
            rfl
          · rw [heads_snoc, ← List.cons_append]
            exact List.nodup_append.mpr ⟨hnd, by simp, fun x hx y hy e => by
              rw [List.mem_singleton.mp hy] at e
              exact s3 (e ▸ hx)⟩
          · intro i hi
            rcases List.mem_append.mp hi with hi | hi
            · exact hin i hi
            · rw [List.mem_singleton.mp hi]; exact s1
          · have up : ∀ e ∈ edges ls js, e ∈ edges ls (js ++ [j]) := fun e he => by
              unfold edges at he ⊢
              rw [List.map_append]
              exact List.mem_append.mpr (.inl he)
            intro x hx
            rw [heads_snoc] at hx
            rcases List.mem_append.mp hx with hx | hx
            · exact (hrs x hx).mono up
            · rw [List.mem_singleton.mp hx]
              refine .step (a := (lk ls j).1) ?_ ?_
              · unfold edges
                rw [List.map_append]
                simp
              · rcases List.mem_cons.mp s2 with e | e
                · rw [e]; exact .base (by simp)
                · exact (hrs _ e).mono up
    · rintro done ρ2 ⟨x', js, a8, a9, hx', rfl, hnd, hin, hrs⟩
      walk_at "fl"
      refine ⟨js, rfl, ?_⟩
      walk_at "fl"
      exact q' x' js hx' hnd hin hrs
end Fl

set_option Elab.async false
set_option linter.all false
set_option maxRecDepth 100000
set_option maxHeartbeats 1000000
namespace Fl
open PySem PySem.Spec PyProof.Rows L2
local macro_rules | `(tactic| walk_at "fl") => `(tactic| with_reducible conv => whnf)
local macro_rules | `(tactic| walk_at "yes") => `(tactic| ((with_reducible (conv => whnf)); rw [if_pos rfl]; (with_reducible (conv => whnf))))
local macro_rules | `(tactic| walk_at "no") => `(tactic| ((with_reducible (conv => whnf)); rw [if_neg Bool.false_ne_true]; (with_reducible (conv => whnf))))
local macro_rules | `(tactic| walk_at "len") => `(tactic| (first | (simp only [List.length_map, List.length_append, List.length_cons, List.length_nil, List.length_reverse, List.length_replicate]; omega) | (simp only [List.length_map, List.length_append, List.length_cons, List.length_nil, List.length_reverse, List.length_replicate] at *; omega)))
local macro_rules | `(tactic| walk_at "sd") => `(tactic| first | with_reducible rfl | assumption | exact True.intro | omega | walk_at "len" | rfl | decide)
local macro_rules | `(tactic| walk_at "sds") => `(tactic| first | walk_at "sd" | exact And.intro (by walk_at "sd") (by walk_at "sd") | exact And.intro (by walk_at "sd") (And.intro (by walk_at "sd") (by walk_at "sd")) | exact And.intro (And.intro (by walk_at "sd") (by walk_at "sd")) (by walk_at "sd"))
local macro_rules | `(tactic| walk_at "g1") => `(tactic| ((first | refine And.intro (by walk_at "sds") ?_ | with_reducible refine ifT ?_ | with_reducible refine ifF ?_ | with_reducible refine ifNT ?_ | with_reducible refine ifNF ?_ | with_reducible refine Exists.intro _ (And.intro rfl ?_) | refine isi_plain (by walk_at "sd") (by decide) ?_ | refine Exists.intro _ (And.intro (by assumption) ?_) | refine Exists.intro _ (And.intro rfl ?_) | refine Exists.intro _ (Exists.intro _ (Exists.intro _ (And.intro rfl ?_))) | refine Exists.intro _ (Exists.intro _ (And.intro rfl ?_)) | refine Exists.intro _ (Exists.intro _ (Exists.intro _ (Exists.intro _ (And.intro rfl ?_))))); (with_reducible conv => whnf)))
local macro_rules | `(tactic| walk_at "go") => `(tactic| ((with_reducible conv => whnf); repeat walk_at "g1"))
variable {P : Program} {w : World} {K : PySem.W.Frag} {mg : Str → Option Value} {base : Heap} {A : Ad}
theorem wp__law_grown_trees (T : Txt K mg A) (as : List AA) (Q : RV → List AA → Prop) (E : Ex → List AA → Prop) (ha : as.length = 3) (h : sp__law_grown_trees K A as Q E) : ws__law_grown_trees K A (wEnd as Q E) (argU 0 as 5) := by
  match as, h with
  | [.ob x, .dv n, .dv (.int k)], ⟨hx, m, r, ls, e1, N, hk, q⟩ =>
    subst e1
    have N60 := N.len
    have m10 := N.m10
    have m2 := N.m2
    walk_at "fl"
    refine ⟨_, rfl, ?_⟩
    walk_at "fl"
    rw [List.length_map]
    refine ⟨⟨by omega, by omega⟩, ?_⟩
    walk_at "fl"
    refine ⟨⟨rfl, rfl⟩, ?_⟩
    walk_at "fl"
    refine ⟨⟨by omega, by omega⟩, fun done rest ρ => ∃ (x' : D) (fr : List Int) (jss : List (List Int)) (a5 a6 : Fl.A), HandOk x' ∧ ρ = [.pr 0 x', .fz (partsD m r ls), .fz (.int k), .ow (.lst (fr.map D.int)), .ow (.lst (jss.map lotD)), a5, a6, .un] ∧
      (∀ j ∈ fr, (0 ≤ j ∧ j < ls.length) ∧ j ∉ jss.flatten) ∧ fr.length ≤ 60 ∧ (∀ js ∈ jss, IsTree m r ls (lotD js)) ∧ jss.flatten.Nodup ∧ jss.length + rest.length ≤ k.toNat,
      ⟨x, rgI ls.length, [], .un, .un, hx, by rw [← ran_ints]; rfl, fun j hj => ⟨mem_rgI.mp hj, by simp⟩, by rw [len_rgI]; exact N60, by simp, by simp, by unfold ranD; simp⟩, ?_, ?_⟩
    · rintro done d rest ρ2 ⟨x', fr, jss, a5, a6, hx', rfl, hfr, hf60, htr, hnd, hlen⟩
      rw [List.length_cons] at hlen
      walk_at "fl"
      refine ⟨_, rfl, ?_⟩
      walk_at "fl"
      refine ⟨_, rfl, ?_⟩
      walk_at "fl"
      refine ⟨rfl, hx', m, r, ls, fr, rfl, N, rfl, rfl, fun j hj => (hfr j hj).1, hf60, ⟨by omega, by omega⟩, fun x2 js h2 g hin => ?_⟩
      walk_at "fl"
      refine ⟨_, rfl, ?_⟩
      walk_at "fl"
      rw [List.length_map]
      refine iteB (fun c => ?_) (fun c => ?_)
      · walk_at "fl"
        exact q x2 jss h2 htr hnd (by omega)
      · have c : ¬ (js.length : Int) < m - 1 := of_decide_eq_false c
        have jl : (js.length : Int) = m - 1 := by
          have nd2 : (r :: heads ls js).Nodup := List.nodup_cons.mpr ⟨g.out r (by simp), g.once⟩
          have := few_of (n := m.toNat) nd2 fun x hx => by
            have := N.r0; have := N.rm
            rcases List.mem_cons.mp hx with rfl | hx
            · omega
            · obtain ⟨e, he, rfl⟩ := List.mem_map.mp hx
              have := (edge_range N g.lot e he).2.1
              omega
          rw [List.length_cons, heads_len] at this
          omega
        have tr : IsTree m r ls (lotD js) := ⟨js, rfl, g, jl⟩
        walk_at "fl"
        refine ⟨rfl, ?_⟩
        walk_at "fl"
        rw [List.length_map]
        refine ⟨by omega, ?_⟩
        walk_at "fl"
        refine ⟨⟨⟨rfl, True.intro⟩, by rw [List.length_map]; omega⟩, fun rest acc ρ => ∃ (a b : List Int), fr = a ++ b ∧ rest = b.map D.int ∧ acc = (a.filter fun j => !decide (j ∈ js)).map D.int ∧
          ρ = [.pr 0 x2, .fz (partsD m r ls), .fz (.int k), .fz (.lst (fr.map D.int)), .ow (.lst (jss.map lotD ++ [lotD js])), .fz d, .fz (lotD js), .un], ⟨[], fr, rfl, rfl, rfl, rfl⟩, ?_, ?_⟩
        · rintro d2 rest2 acc ρ3 ⟨a, b, e1, e2, rfl, rfl⟩
          cases b with
          | nil => cases e2
          | cons j b =>
            rw [List.map_cons] at e2
            injection e2 with e2 e3
            subst e2 e3
            walk_at "fl"
            refine ⟨by rw [flat_ints]; rfl, ?_⟩
            walk_at "fl"
            rw [mem_ints]
            refine iteB (fun c1 => ?_) (fun c1 => ?_)
            · walk_at "fl"
              refine ⟨a ++ [j], b, by rw [e1, List.append_assoc]; rfl, rfl, ?_, rfl⟩
              rw [List.filter_append, List.filter_cons, if_pos c1]
              simp
            · walk_at "fl"
              refine ⟨a ++ [j], b, by rw [e1, List.append_assoc]; rfl, rfl, ?_, rfl⟩
              rw [List.filter_append, List.filter_cons, if_neg (by rw [c1]; exact Bool.false_ne_true)]
              simp
        · rintro acc ρ3 ⟨a, b, e1, e2, rfl, rfl⟩
          have : b = [] := by cases b <;> first | rfl | cases e2
          subst this
          rw [List.append_nil] at e1
          subst e1
          walk_at "fl"
          refine ⟨x2, fr.filter fun j => !decide (j ∈ js), jss ++ [js], .fz d, .fz (lotD js), h2, ?_, fun j hj => ?_, Nat.le_trans (List.length_filter_le _ _) hf60, fun i hi => ?_, ?_, by rw [List.length_append]; simp only [List.length_cons, List.length_nil]; omega⟩
          · rw [List.map_append]
            rfl
          · rw [List.mem_filter, Bool.not_eq_true', decide_eq_false_iff_not] at hj
            refine ⟨(hfr j hj.1).1, ?_⟩
            rw [List.flatten_append, List.mem_append, not_or]
            refine ⟨(hfr j hj.1).2, ?_⟩
            simp only [List.flatten_cons, List.flatten_nil, List.append_nil]
            exact hj.2
          · rcases List.mem_append.mp hi with hi | hi
            · exact htr i hi
            · rw [List.mem_singleton.mp hi]; exact tr
          · rw [List.flatten_append]
            simp only [List.flatten_cons, List.flatten_nil, List.append_nil]
            exact List.nodup_append.mpr ⟨hnd, g.lot.nodup, fun y hy z hz e => (hfr z (hin z hz)).2 (e ▸ hy)⟩
    · rintro done ρ2 ⟨x', fr, jss, a5, a6, hx', rfl, hfr, hf60, htr, hnd, hlen⟩
      walk_at "fl"
      exact q x' jss hx' htr hnd (by simp only [List.length_nil] at hlen; omega)
end Fl

set_option Elab.async false
set_option linter.all false
set_option maxRecDepth 100000
set_option maxHeartbeats 1000000
namespace Fl
open PySem PySem.Spec PyProof.Rows L2
local macro_rules | `(tactic| walk_at "fl") => `(tactic| with_reducible conv => whnf)
local macro_rules | `(tactic| walk_at "yes") => `(tactic| ((with_reducible (conv => whnf)); rw [if_pos rfl]; (with_reducible (conv => whnf))))
local macro_rules | `(tactic| walk_at "no") => `(tactic| ((with_reducible (conv => whnf)); rw [if_neg Bool.false_ne_true]; (with_reducible (conv => whnf))))
local macro_rules | `(tactic| walk_at "len") => `(tactic| (first | (simp only [List.length_map, List.length_append, List.length_cons, List.length_nil, List.length_reverse, List.length_replicate]; omega) | (simp only [List.length_map, List.length_append, List.length_cons, List.length_nil, List.length_reverse, List.length_replicate] at *; omega)))
local macro_rules | `(tactic| walk_at "sd") => `(tactic| first | with_reducible rfl | assumption | exact True.intro | omega | walk_at "len" | rfl | decide)
local macro_rules | `(tactic| walk_at "sds") => `(tactic| first | walk_at "sd" | exact And.intro (by walk_at "sd") (by walk_at "sd") | exact And.intro (by walk_at "sd") (And.intro (by walk_at "sd") (by walk_at "sd")) | exact And.intro (And.intro (by walk_at "sd") (by walk_at "sd")) (by walk_at "sd"))
local macro_rules | `(tactic| walk_at "g1") => `(tactic| ((first | refine And.intro (by walk_at "sds") ?_ | with_reducible refine ifT ?_ | with_reducible refine ifF ?_ | with_reducible refine ifNT ?_ | with_reducible refine ifNF ?_ | with_reducible refine Exists.intro _ (And.intro rfl ?_) | refine isi_plain (by walk_at "sd") (by decide) ?_ | refine Exists.intro _ (And.intro (by assumption) ?_) | refine Exists.intro _ (And.intro rfl ?_) | refine Exists.intro _ (Exists.intro _ (Exists.intro _ (And.intro rfl ?_))) | refine Exists.intro _ (Exists.intro _ (And.intro rfl ?_)) | refine Exists.intro _ (Exists.intro _ (Exists.intro _ (Exists.intro _ (And.intro rfl ?_))))); (with_reducible conv => whnf)))
local macro_rules | `(tactic| walk_at "go") => `(tactic| ((with_reducible conv => whnf); repeat walk_at "g1"))
variable {P : Program} {w : World} {K : PySem.W.Frag} {mg : Str → Option Value} {base : Heap} {A : Ad}
theorem two_of {x : D} (h : ∀ ds, x = .tup ds → ds.length ≤ 100 ∧ ∀ d ∈ ds, ∀ es, d = .tup es → es.length ≤ 1000000) : TwoOk x := h
theorem odd_ok : ∀ d ∈ oddL, (∃ m, Ob m 1000 5 d) ∧ TwoOk d := by
  intro d hd
  have ob : ∀ {d : D} (m : Bool) (y : PyData), d.sh m = some y → pl d = true → y.showable = true → My.dcost y ≤ 1000 → y.depth ≤ 5 → (∀ es, d = .tup es → es.length ≤ 1000) → ∃ m, Ob m 1000 5 d := fun m y h1 h2 h3 h4 h5 h6 => ⟨m, h2, ⟨y, h1, h3, h4, h5⟩, h6⟩
  unfold oddL at hd
  simp only [List.mem_cons, List.not_mem_nil, or_false] at hd
  rcases hd with rfl | rfl | rfl | rfl | rfl | rfl | rfl | rfl | rfl | rfl | rfl | rfl | rfl | rfl | rfl | rfl | rfl | rfl | rfl | rfl
  all_goals
    refine ⟨?_, fun ds e => ?_⟩
    · first
        | exact ob true _ rfl rfl rfl (by decide +kernel) (by decide +kernel) (fun es e => by first | (cases e; decide) | cases e)
        | exact ob false _ rfl rfl rfl (by decide +kernel) (by decide +kernel) (fun es e => by first | (cases e; decide) | cases e)
    · first
        | (cases e; refine ⟨by decide, fun d hd es e => ?_⟩; simp only [List.mem_cons, List.not_mem_nil, or_false] at hd; rcases hd with rfl | rfl <;> first | (cases e; decide) | cases e)
        | (cases e; refine ⟨by decide, fun d hd es e => ?_⟩; simp only [List.mem_cons, List.not_mem_nil, or_false] at hd; subst hd; first | (cases e; decide) | cases e)
        | cases e
theorem wp__law_odd (T : Txt K mg A) (as : List AA) (Q : RV → List AA → Prop) (E : Ex → List AA → Prop) (ha : as.length = 1) (h : sp__law_odd K A as Q E) : ws__law_odd K A (wEnd as Q E) (argU 0 as 1) := by
  match as, h with
  | [.ob x], ⟨hx, q⟩ =>
    walk_at "fl"
    refine ⟨⟨by decide, by decide, by decide⟩, ?_⟩
    walk_at "fl"
    refine ⟨show 16 + 4 ≤ 1000000 by decide, ?_⟩
    walk_at "fl"
    refine ⟨rfl, hx, ⟨by decide, by decide⟩, fun x' r h' r0 r1 => ?_⟩
    obtain ⟨z, ez, mz⟩ := at_any (xs := oddL) r0 r1
    obtain ⟨o1, o2⟩ := odd_ok z mz
    walk_at "fl"
    refine ⟨z, ez, ?_⟩
    walk_at "fl"
    exact q x' z h' o1 o2
end Fl

set_option Elab.async false
set_option linter.all false
set_option maxRecDepth 100000
set_option maxHeartbeats 1000000
namespace Fl
open PySem PySem.Spec PyProof.Rows L2
local macro_rules | `(tactic| walk_at "fl") => `(tactic| with_reducible conv => whnf)
local macro_rules | `(tactic| walk_at "yes") => `(tactic| ((with_reducible (conv => whnf)); rw [if_pos rfl]; (with_reducible (conv => whnf))))
local macro_rules | `(tactic| walk_at "no") => `(tactic| ((with_reducible (conv => whnf)); rw [if_neg Bool.false_ne_true]; (with_reducible (conv => whnf))))
local macro_rules | `(tactic| walk_at "len") => `(tactic| (first | (simp only [List.length_map, List.length_append, List.length_cons, List.length_nil, List.length_reverse, List.length_replicate]; omega) | (simp only [List.length_map, List.length_append, List.length_cons, List.length_nil, List.length_reverse, List.length_replicate] at *; omega)))
local macro_rules | `(tactic| walk_at "sd") => `(tactic| first | with_reducible rfl | assumption | exact True.intro | omega | walk_at "len" | rfl | decide)
local macro_rules | `(tactic| walk_at "sds") => `(tactic| first | walk_at "sd" | exact And.intro (by walk_at "sd") (by walk_at "sd") | exact And.intro (by walk_at "sd") (And.intro (by walk_at "sd") (by walk_at "sd")) | exact And.intro (And.intro (by walk_at "sd") (by walk_at "sd")) (by walk_at "sd"))
local macro_rules | `(tactic| walk_at "g1") => `(tactic| ((first | refine And.intro (by walk_at "sds") ?_ | with_reducible refine ifT ?_ | with_reducible refine ifF ?_ | with_reducible refine ifNT ?_ | with_reducible refine ifNF ?_ | with_reducible refine Exists.intro _ (And.intro rfl ?_) | refine isi_plain (by walk_at "sd") (by decide) ?_ | refine Exists.intro _ (And.intro (by assumption) ?_) | refine Exists.intro _ (And.intro rfl ?_) | refine Exists.intro _ (Exists.intro _ (Exists.intro _ (And.intro rfl ?_))) | refine Exists.intro _ (Exists.intro _ (And.intro rfl ?_)) | refine Exists.intro _ (Exists.intro _ (Exists.intro _ (Exists.intro _ (And.intro rfl ?_))))); (with_reducible conv => whnf)))
local macro_rules | `(tactic| walk_at "go") => `(tactic| ((with_reducible conv => whnf); repeat walk_at "g1"))
variable {P : Program} {w : World} {K : PySem.W.Frag} {mg : Str → Option Value} {base : Heap} {A : Ad}
theorem num_of {j : Int} (h : 0 ≤ j ∧ j ≤ 100) : Num j := .inl ⟨by omega, h.2⟩
theorem lot_ob {js : List Int} (h : ∀ j ∈ js, Num j) (hl : js.length ≤ 100) : ∃ m, Ob m 4300 5 (lotD js) := ⟨true, (Ob.lot h hl).mono (Nat.le_refl _) (by decide)⟩
theorem sorted_ob {ns : List Int} (h : ∀ j ∈ ns, 0 ≤ j ∧ j ≤ 100) (hl : ns.length ≤ 60) : ∃ m, Ob m 4300 5 (.tup ((isort (dups ns)).map D.int)) :=
  lot_ob (fun j hj => num_of (h j (mem_dups.mp ((isort_perm _).mem_iff.mp hj)))) (by rw [(isort_perm _).length_eq]; exact Nat.le_trans (dups_len _) (by omega))
theorem wp__law_bent_lot (T : Txt K mg A) (as : List AA) (Q : RV → List AA → Prop) (E : Ex → List AA → Prop) (ha : as.length = 3) (h : sp__law_bent_lot K A as Q E) : ws__law_bent_lot K A (wEnd as Q E) (argU 0 as 3) := by
  match as, h with
  | [.ob x, .dv y, .dv (.int n)], ⟨hx, js, e, hl, hin, hn, q⟩ =>
    subst e
    walk_at "fl"
    refine ⟨rfl, hx, ⟨by decide, by decide⟩, fun x1 k h1 k0 k1 => ?_⟩
    walk_at "fl"
    refine ⟨rfl, h1, ⟨by omega, by rw [List.length_map]; omega⟩, fun x2 t h2 t0 t1 => ?_⟩
    rw [List.length_map] at t1
    walk_at "fl"
    refine ⟨⟨rfl, rfl⟩, ?_⟩
    walk_at "fl"
    have mx : 0 < (if n > 1 then n else (1 : Int)) ∧ (if n > 1 then n else (1 : Int)) ≤ 100 := by split <;> omega
    refine ⟨rfl, h2, ⟨mx.1, by omega⟩, fun x3 u h3 u0 u1 => ?_⟩
    have hu : 0 ≤ u ∧ u ≤ 100 := ⟨u0, by omega⟩
    walk_at "fl"
    refine iteB (fun _ => ?_) (fun _ => ?_)
    · walk_at "fl"
      refine ⟨rfl, h3, fun x4 d h4 ⟨m, o⟩ _ => ?_⟩
      walk_at "fl"
      exact q x4 d h4 ⟨m, o.mono (by decide) (Nat.le_refl _)⟩
    · have ha : ∀ {lo hi : Option Int}, ∀ j ∈ cutD js lo hi, 0 ≤ j ∧ j ≤ 100 := fun j hj => hin j (mem_cut hj)
      have la : ∀ {lo hi : Option Int}, (cutD js lo hi).length ≤ 10 := Nat.le_trans len_cut hl
      walk_at "fl"
      refine iteB (fun _ => ?_) (fun _ => ?_)
      · have a1 := la (lo := none) (hi := some t)
        have b1 := la (lo := some (t + 1)) (hi := none)
        walk_at "fl"
        refine ⟨by rw [map_cut, map_cut, List.length_map, List.length_map]; omega, ?_⟩
        walk_at "fl"
        rw [map_cut, map_cut, ← List.map_append]
        exact q x3 (lotD (cutD js none (some t) ++ cutD js (some (t + 1)) none)) h3 (lot_ob (fun j hj => num_of ((List.mem_append.mp hj).elim (ha j) (ha j))) (by rw [List.length_append]; omega))
      · have a1 := la (lo := none) (hi := some t)
        have b1 := la (lo := some (t + 1)) (hi := none)
        walk_at "fl"
        refine iteB (fun _ => ?_) (fun _ => ?_)
        · walk_at "fl"
          refine ⟨by rw [map_cut, map_cut, List.length_map, List.length_map]; omega, ?_⟩
          walk_at "fl"
          refine ⟨by rw [List.length_append, map_cut, map_cut, List.length_map, List.length_map]; simp only [List.length_cons, List.length_nil]; omega, ?_⟩
          walk_at "fl"
          refine ⟨(cutD js none (some t) ++ cutD js (some (t + 1)) none) ++ [u], by rw [List.map_append (l₂ := [u]), List.map_append, map_cut, map_cut]; rfl, by rw [List.length_append, List.length_append]; simp only [List.length_cons, List.length_nil]; omega, ?_⟩
          walk_at "fl"
          refine ⟨by rw [List.length_append, List.length_append]; simp only [List.length_cons, List.length_nil]; omega, ?_⟩
          walk_at "fl"
          refine q x3 _ h3 (sorted_ob (fun j hj => ?_) (by rw [List.length_append, List.length_append]; simp only [List.length_cons, List.length_nil]; omega))
          rcases List.mem_append.mp hj with hj | hj
          · exact (List.mem_append.mp hj).elim (ha j) (ha j)
          · rw [List.mem_singleton.mp hj]; exact hu
        · walk_at "fl"
          refine iteB (fun _ => ?_) (fun _ => ?_)
          · walk_at "fl"
            refine ⟨by rw [List.length_map]; simp only [List.length_cons, List.length_nil]; omega, ?_⟩
            walk_at "fl"
            refine ⟨js ++ [u], by rw [List.map_append]; rfl, by rw [List.length_append]; simp only [List.length_cons, List.length_nil]; omega, ?_⟩
            walk_at "fl"
            refine ⟨by rw [List.length_append]; simp only [List.length_cons, List.length_nil]; omega, ?_⟩
            walk_at "fl"
            refine q x3 _ h3 (sorted_ob (fun j hj => ?_) (by rw [List.length_append]; simp only [List.length_cons, List.length_nil]; omega))
            rcases List.mem_append.mp hj with hj | hj
            · exact hin j hj
            · rw [List.mem_singleton.mp hj]; exact hu
          · walk_at "fl"
            refine iteB (fun _ => ?_) (fun _ => ?_)
            · walk_at "fl"
              have l1 := la (lo := some (-1)) (hi := none)
              have i1 := ha (lo := some (-1)) (hi := none)
              refine ⟨by rw [map_cut, List.length_map, List.length_map]; omega, ?_⟩
              walk_at "fl"
              refine ⟨by rw [List.length_map]; simp only [List.length_cons, List.length_nil]; omega, ?_⟩
              walk_at "fl"
              refine ⟨rfl, h3, ⟨by decide, by decide⟩, fun x4 v h4 v0 v1 => ?_⟩
              obtain ⟨z, ez, mz⟩ := at_any (xs := [D.lst (js.map D.int), .tup (js.map D.int).reverse, .tup (js.map D.int ++ cutD (js.map D.int) (some (-1)) none), .tup (js.map D.int ++ [.int n])]) v0 v1
              walk_at "fl"
              refine ⟨z, ez, ?_⟩
              walk_at "fl"
              refine q x4 z h4 ?_
              simp only [List.mem_cons, List.not_mem_nil, or_false] at mz
              rcases mz with rfl | rfl | rfl | rfl
              · exact ⟨true, (Ob.lst (ds := js.map D.int) (fun d hd => by
                  obtain ⟨j, hj, rfl⟩ := List.mem_map.mp hd
                  exact Ob.int (num_of (hin j hj)))).mono (by rw [List.length_map]; omega) (by decide)⟩
              · rw [← List.map_reverse]
                exact lot_ob (fun j hj => num_of (hin j (List.mem_reverse.mp hj))) (by rw [List.length_reverse]; omega)
              · rw [map_cut, ← List.map_append]
                exact lot_ob (fun j hj => num_of ((List.mem_append.mp hj).elim (hin j) (i1 j))) (by rw [List.length_append]; omega)
              · have e : js.map D.int ++ [D.int n] = (js ++ [n]).map D.int := by rw [List.map_append]; rfl
                rw [e]
                exact lot_ob (fun j hj => num_of ((List.mem_append.mp hj).elim (hin j) fun h => by rw [List.mem_singleton.mp h]; exact hn)) (by rw [List.length_append]; simp only [List.length_cons, List.length_nil]; omega)
            · walk_at "fl"
              refine ⟨⟨by decide, by decide, by decide⟩, ?_⟩
              walk_at "fl"
              refine ⟨rfl, h3, ⟨by decide, by decide⟩, fun x4 v h4 v0 v1 => ?_⟩
              obtain ⟨z, ez, mz⟩ := at_any (xs := [D.bl true, .non, .int (-1), .int n, .str "1", .tup [.int 1], .int (10 ^ 30), .int u]) v0 v1
              have oz : ∃ m, Ob m 100 2 z := by
                simp only [List.mem_cons, List.not_mem_nil, or_false] at mz
                rcases mz with rfl | rfl | rfl | rfl | rfl | rfl | rfl | rfl
                · exact ⟨true, Ob.bl.mono (by decide) (by decide)⟩
                · exact ⟨true, Ob.non.mono (by decide) (by decide)⟩
                · exact ⟨true, (Ob.int (.inl ⟨by decide, by decide⟩)).mono (by decide) (by decide)⟩
                · exact ⟨true, (Ob.int (num_of hn)).mono (by decide) (by decide)⟩
                · exact ⟨true, rfl, ⟨_, by unfold D.sh; rfl, rfl, by decide +kernel, by decide +kernel⟩, fun es e => by cases e⟩
                · exact ⟨true, rfl, ⟨_, rfl, rfl, by decide +kernel, by decide +kernel⟩, fun es e => by cases e; decide⟩
                · exact ⟨true, (Ob.int (.inr rfl)).mono (by decide) (by decide)⟩
                · exact ⟨true, (Ob.int (num_of hu)).mono (by decide) (by decide)⟩
              walk_at "fl"
              refine ⟨z, ez, ?_⟩
              walk_at "fl"
              have l1 := la (lo := none) (hi := some t)
              have i1 := ha (lo := none) (hi := some t)
              have l2 := la (lo := some (t + 1)) (hi := none)
              have i2 := ha (lo := some (t + 1)) (hi := none)
              refine ⟨by rw [map_cut, List.length_map]; simp only [List.length_cons, List.length_nil]; omega, ?_⟩
              walk_at "fl"
              refine ⟨by rw [map_cut, map_cut, List.length_append, List.length_map, List.length_map]; simp only [List.length_cons, List.length_nil]; omega, ?_⟩
              walk_at "fl"
              rw [map_cut, map_cut]
              generalize cutD js none (some t) = a at l1 i1 ⊢
              generalize cutD js (some (t + 1)) none = b at l2 i2 ⊢
              refine q x4 _ h4 ?_
              obtain ⟨mm, oz⟩ := oz
              refine ⟨mm, (Ob.tup (k := 100) (n := 2) (ds := a.map D.int ++ [z] ++ b.map D.int) (fun d hd => ?_) ?_).mono ?_ (by decide)⟩
              · rcases List.mem_append.mp hd with hd | hd
                · rcases List.mem_append.mp hd with hd | hd
                  · obtain ⟨j, hj, rfl⟩ := List.mem_map.mp hd
                    exact (Ob.int (num_of (i1 j hj))).mono (by decide) (by decide)
                  · rw [List.mem_singleton.mp hd]; exact oz
                · obtain ⟨j, hj, rfl⟩ := List.mem_map.mp hd
                  exact (Ob.int (num_of (i2 j hj))).mono (by decide) (by decide)
              · rw [List.length_append, List.length_append, List.length_map, List.length_map]
                simp only [List.length_cons, List.length_nil]
                omega
              · rw [List.length_append, List.length_append, List.length_map, List.length_map]
                simp only [List.length_cons, List.length_nil]
                omega
end Fl

set_option Elab.async false
set_option linter.all false
set_option maxRecDepth 100000
set_option maxHeartbeats 1000000
namespace Fl
open PySem PySem.Spec PyProof.Rows L2
local macro_rules | `(tactic| walk_at "fl") => `(tactic| with_reducible conv => whnf)
local macro_rules | `(tactic| walk_at "yes") => `(tactic| ((with_reducible (conv => whnf)); rw [if_pos rfl]; (with_reducible (conv => whnf))))
local macro_rules | `(tactic| walk_at "no") => `(tactic| ((with_reducible (conv => whnf)); rw [if_neg Bool.false_ne_true]; (with_reducible (conv => whnf))))
local macro_rules | `(tactic| walk_at "len") => `(tactic| (first | (simp only [List.length_map, List.length_append, List.length_cons, List.length_nil, List.length_reverse, List.length_replicate]; omega) | (simp only [List.length_map, List.length_append, List.length_cons, List.length_nil, List.length_reverse, List.length_replicate] at *; omega)))
local macro_rules | `(tactic| walk_at "sd") => `(tactic| first | with_reducible rfl | assumption | exact True.intro | omega | walk_at "len" | rfl | decide)
local macro_rules | `(tactic| walk_at "sds") => `(tactic| first | walk_at "sd" | exact And.intro (by walk_at "sd") (by walk_at "sd") | exact And.intro (by walk_at "sd") (And.intro (by walk_at "sd") (by walk_at "sd")) | exact And.intro (And.intro (by walk_at "sd") (by walk_at "sd")) (by walk_at "sd"))
local macro_rules | `(tactic| walk_at "g1") => `(tactic| ((first | refine And.intro (by walk_at "sds") ?_ | with_reducible refine ifT ?_ | with_reducible refine ifF ?_ | with_reducible refine ifNT ?_ | with_reducible refine ifNF ?_ | with_reducible refine Exists.intro _ (And.intro rfl ?_) | refine isi_plain (by walk_at "sd") (by decide) ?_ | refine Exists.intro _ (And.intro (by assumption) ?_) | refine Exists.intro _ (And.intro rfl ?_) | refine Exists.intro _ (Exists.intro _ (Exists.intro _ (And.intro rfl ?_))) | refine Exists.intro _ (Exists.intro _ (And.intro rfl ?_)) | refine Exists.intro _ (Exists.intro _ (Exists.intro _ (Exists.intro _ (And.intro rfl ?_))))); (with_reducible conv => whnf)))
local macro_rules | `(tactic| walk_at "go") => `(tactic| ((with_reducible conv => whnf); repeat walk_at "g1"))
variable {P : Program} {w : World} {K : PySem.W.Frag} {mg : Str → Option Value} {base : Heap} {A : Ad}
theorem pack_ob {m : Bool} {ds : List D} (h : ∀ d ∈ ds, Ob m 4300 5 d) (hl : ds.length ≤ 30) : (∃ m, Ob m 130000 7 (.tup ds)) ∧ TwoOk (.tup ds) :=
  ⟨⟨m, (Ob.tup h (by omega)).mono (by omega) (by omega)⟩, ob_len h (by omega)⟩
theorem lots_ob {m : Bool} {jss : List (List Int)} (h : ∀ js ∈ jss, (1 ≤ js.length ∧ js.length ≤ 9) ∧ ∀ j ∈ js, 0 ≤ j ∧ j ≤ 100) : ∀ d ∈ jss.map lotD, Ob m 4300 5 d := fun d hd => by
  obtain ⟨js, hj, rfl⟩ := List.mem_map.mp hd
  obtain ⟨h1, h2⟩ := h js hj
  exact (Ob.lot (fun j hj => .inl ⟨by have := h2 j hj; omega, (h2 j hj).2⟩) (by omega)).mono (by omega) (by omega)
theorem wp__law_bent (T : Txt K mg A) (as : List AA) (Q : RV → List AA → Prop) (E : Ex → List AA → Prop) (ha : as.length = 3) (h : sp__law_bent K A as Q E) : ws__law_bent K A (wEnd as Q E) (argU 0 as 5) := by
  match as, h with
  | [.ob x, .dv y, .dv (.int n)], ⟨hx, jss, e, hl, hin, hn, q⟩ =>
    subst e
    walk_at "go"
    intro x1 k h1 k0 k1
    walk_at "go"
    intro x2 t h2 t0 t1
    rw [List.length_map] at t1
    walk_at "go"
    have pk := lots_ob (m := true) hin
    refine (fun key => iteD (fun _ => key) (fun c1 => ?_)) ?_
    · walk_at "go"
      refine iteD (fun _ => key) (fun c2 => ?_)
      rw [List.length_map] at c1
      have ht : t < jss.length := by split at t1 <;> omega
      obtain ⟨tr, et, mt⟩ := at_any (xs := jss.map lotD) t0 (by rw [List.length_map]; exact ht)
      obtain ⟨js, hj, rfl⟩ := List.mem_map.mp mt
      obtain ⟨hjl, hjn⟩ := hin js hj
      have l1 := len_cut (xs := jss.map lotD) (lo := none) (hi := some t)
      have l2 := len_cut (xs := jss.map lotD) (lo := some (t + 1)) (hi := none)
      have l3 := len_cut (xs := jss.map lotD) (lo := some t) (hi := none)
      rw [List.length_map] at l1 l2 l3
      have o1 : ∀ {m : Bool}, ∀ d ∈ cutD (jss.map lotD) none (some t), Ob m 4300 5 d := fun d hd => lots_ob hin d (mem_cut hd)
      have o2 : ∀ {m : Bool}, ∀ d ∈ cutD (jss.map lotD) (some (t + 1)) none, Ob m 4300 5 d := fun d hd => lots_ob hin d (mem_cut hd)
      have o3 : ∀ {m : Bool}, ∀ d ∈ cutD (jss.map lotD) (some t) none, Ob m 4300 5 d := fun d hd => lots_ob hin d (mem_cut hd)
      have join : ∀ {m : Bool} {a b : List D}, (∀ d ∈ a, Ob m 4300 5 d) → (∀ d ∈ b, Ob m 4300 5 d) → ∀ d ∈ a ++ b, Ob m 4300 5 d := fun ha hb d hd => (List.mem_append.mp hd).elim (ha d) (hb d)
      have one : ∀ {m : Bool} {a : D}, Ob m 4300 5 a → ∀ d ∈ [a], Ob m 4300 5 d := fun ha d hd => by rw [List.mem_singleton.mp hd]; exact ha
      walk_at "go"
      refine iteD (fun c3 => ?_) (fun c3 => ?_)
      · walk_at "go"
        intro x3 d h3 od
        walk_at "go"
        obtain ⟨m, od⟩ := od
        obtain ⟨p1, p2⟩ := pack_ob (join (join o1 (one od)) o2) (by walk_at "len")
        exact q _ _ h3 p1 p2
      · walk_at "go"
        refine iteD (fun c4 => ?_) (fun c4 => ?_)
        · walk_at "go"
          obtain ⟨p1, p2⟩ := pack_ob (join (m := true) o1 o2) (by walk_at "len")
          exact q _ _ h2 p1 p2
        · walk_at "go"
          refine iteD (fun c5 => ?_) (fun c5 => ?_)
          · walk_at "go"
            obtain ⟨p1, p2⟩ := pack_ob (join (m := true) (join o1 (one (lots_ob hin _ mt))) o3) (by walk_at "len")
            exact q _ _ h2 p1 p2
          · walk_at "go"
            refine iteD (fun c6 => ?_) (fun c6 => ?_)
            · walk_at "go"
              obtain ⟨p1, p2⟩ := pack_ob (m := true) (ds := (jss.map lotD).reverse) (fun d hd => lots_ob hin d (List.mem_reverse.mp hd)) (by walk_at "len")
              exact q _ _ h2 p1 p2
            · walk_at "go"
              intro x3 r h3 r0 r1
              rw [List.length_map] at r1
              obtain ⟨tr2, et2, mt2⟩ := at_any (xs := jss.map lotD) r0 (by rw [List.length_map]; exact r1)
              obtain ⟨js2, hj2, rfl⟩ := List.mem_map.mp mt2
              obtain ⟨hjl2, hjn2⟩ := hin js2 hj2
              walk_at "go"
              intro x4 u h4 u0 u1
              walk_at "go"
              have l4 := len_cut (xs := js.map D.int) (lo := none) (hi := some u)
              have l5 := len_cut (xs := js.map D.int) (lo := some (u + 1)) (hi := none)
              rw [List.length_map] at l4 l5
              walk_at "go"
              intro x5 v h5 v0 v1
              rw [List.length_map] at v1
              obtain ⟨zj, ezj, mzj⟩ := at_any (xs := js2.map D.int) v0 (by rw [List.length_map]; exact v1)
              obtain ⟨j, hjj, rfl⟩ := List.mem_map.mp mzj
              walk_at "go"
              refine ⟨cutD js none (some u) ++ cutD js (some (u + 1)) none ++ [j], by rw [map_cut, map_cut, List.map_append, List.map_append]; rfl, ?_⟩
              have c1 := len_cut (xs := js) (lo := none) (hi := some u)
              have c2 := len_cut (xs := js) (lo := some (u + 1)) (hi := none)
              have ol : ∀ {m : Bool}, Ob m 4300 5 (lotD (isort (cutD js none (some u) ++ cutD js (some (u + 1)) none ++ [j]))) := (Ob.lot (fun i hi => by
                have hi := (isort_perm _).mem_iff.mp hi
                have z : 0 ≤ i ∧ i ≤ 100 := by
                  rcases List.mem_append.mp hi with hi | hi
                  · exact (List.mem_append.mp hi).elim (fun h => hjn i (mem_cut h)) fun h => hjn i (mem_cut h)
                  · rw [List.mem_singleton.mp hi]; exact hjn2 j hjj
                exact .inl ⟨by omega, z.2⟩) (by rw [(isort_perm _).length_eq]; walk_at "len")).mono (by omega) (by omega)
              walk_at "go"
              obtain ⟨p1, p2⟩ := pack_ob (join (m := true) (join o1 (one ol)) o2) (by walk_at "len")
              exact q _ _ h5 p1 p2
    · walk_at "go"
      intro x3 d h3 od td
      walk_at "go"
      intro x4 v h4 v0 v1
      obtain ⟨z, ez, mz⟩ := at_any (xs := [d, .lst (jss.map lotD), .tup [.tup (jss.map lotD)], .tup (jss.map lotD ++ [.tup []]), .tup (jss.map lotD ++ [.non])]) v0 v1
      have oz : (∃ m, Ob m 130000 7 z) ∧ TwoOk z := by
        simp only [List.mem_cons, List.not_mem_nil, or_false] at mz
        rcases mz with rfl | rfl | rfl | rfl | rfl
        · exact ⟨⟨_, od.choose_spec.mono (by decide) (by decide)⟩, td⟩
        · exact ⟨⟨true, (Ob.lst pk).mono (by walk_at "len") (by decide)⟩, fun _ e => by cases e⟩
        · have h1 : ∀ d ∈ [D.tup (jss.map lotD)], Ob true 80000 6 d := fun d hd => by
            rw [List.mem_singleton.mp hd]
            exact (Ob.tup pk (by walk_at "len")).mono (by walk_at "len") (by decide)
          exact ⟨⟨true, (Ob.tup h1 (by simp)).mono (by simp) (by decide)⟩, ob_len h1 (by simp)⟩
        · exact pack_ob (m := true) (fun d hd => by
            rcases List.mem_append.mp hd with hd | hd
            · exact pk d hd
            · rw [List.mem_singleton.mp hd]
              exact (Ob.lot (js := []) (by simp) (by simp)).mono (by decide) (by decide)) (by walk_at "len")
        · exact pack_ob (m := true) (fun d hd => by
            rcases List.mem_append.mp hd with hd | hd
            · exact pk d hd
            · rw [List.mem_singleton.mp hd]
              exact Ob.non.mono (by decide) (by decide)) (by walk_at "len")
      walk_at "go"
      exact q _ _ h4 oz.1 oz.2
end Fl

set_option Elab.async false
set_option linter.all false
set_option maxRecDepth 100000
set_option maxHeartbeats 1000000
namespace Fl
open PySem PySem.Spec PyProof.Rows L2
local macro_rules | `(tactic| walk_at "fl") => `(tactic| with_reducible conv => whnf)
local macro_rules | `(tactic| walk_at "yes") => `(tactic| ((with_reducible (conv => whnf)); rw [if_pos rfl]; (with_reducible (conv => whnf))))
local macro_rules | `(tactic| walk_at "no") => `(tactic| ((with_reducible (conv => whnf)); rw [if_neg Bool.false_ne_true]; (with_reducible (conv => whnf))))
local macro_rules | `(tactic| walk_at "len") => `(tactic| (first | (simp only [List.length_map, List.length_append, List.length_cons, List.length_nil, List.length_reverse, List.length_replicate]; omega) | (simp only [List.length_map, List.length_append, List.length_cons, List.length_nil, List.length_reverse, List.length_replicate] at *; omega)))
local macro_rules | `(tactic| walk_at "sd") => `(tactic| first | with_reducible rfl | assumption | exact True.intro | omega | walk_at "len" | rfl | decide)
local macro_rules | `(tactic| walk_at "sds") => `(tactic| first | walk_at "sd" | exact And.intro (by walk_at "sd") (by walk_at "sd") | exact And.intro (by walk_at "sd") (And.intro (by walk_at "sd") (by walk_at "sd")) | exact And.intro (And.intro (by walk_at "sd") (by walk_at "sd")) (by walk_at "sd"))
local macro_rules | `(tactic| walk_at "g1") => `(tactic| ((first | refine And.intro (by walk_at "sds") ?_ | with_reducible refine ifT ?_ | with_reducible refine ifF ?_ | with_reducible refine ifNT ?_ | with_reducible refine ifNF ?_ | with_reducible refine Exists.intro _ (And.intro rfl ?_) | refine isi_plain (by walk_at "sd") (by decide) ?_ | refine Exists.intro _ (And.intro (by assumption) ?_) | refine Exists.intro _ (And.intro rfl ?_) | refine Exists.intro _ (Exists.intro _ (Exists.intro _ (And.intro rfl ?_))) | refine Exists.intro _ (Exists.intro _ (And.intro rfl ?_)) | refine Exists.intro _ (Exists.intro _ (Exists.intro _ (Exists.intro _ (And.intro rfl ?_))))); (with_reducible conv => whnf)))
local macro_rules | `(tactic| walk_at "go") => `(tactic| ((with_reducible conv => whnf); repeat walk_at "g1"))
variable {P : Program} {w : World} {K : PySem.W.Frag} {mg : Str → Option Value} {base : Heap} {A : Ad}
theorem wp_is_pair (T : Txt K mg A) (as : List AA) (Q : RV → List AA → Prop) (E : Ex → List AA → Prop) (ha : as.length = 1) (h : sp_is_pair K A as Q E) : ws_is_pair K A (wEnd as Q E) (argU 0 as 0) := by
  match as, h with
  | [.dv x], ⟨p, q⟩ =>
    walk_at "fl"
    refine isi_plain p (by decide) ?_
    walk_at "fl"
    refine iteB (fun c => ?_) (fun c => ?_)
    · cases x <;> first | exact absurd (show false = true from c) Bool.false_ne_true | skip
      rename_i ds
      have e : pairB (.tup ds) = decide ((ds.length : Int) = 2) := by
        show decide (ds.length = 2) = _
        rw [decide_eq_decide]
        omega
      rw [e] at q
      walk_at "fl"
      exact q
    · walk_at "fl"
      cases x <;> first | exact absurd (show true = false from c) (by decide) | exact q
end Fl

set_option Elab.async false
set_option linter.all false
set_option maxRecDepth 100000
set_option maxHeartbeats 1000000
namespace Fl
open PySem PySem.Spec PyProof.Rows L2
local macro_rules | `(tactic| walk_at "fl") => `(tactic| with_reducible conv => whnf)
local macro_rules | `(tactic| walk_at "yes") => `(tactic| ((with_reducible (conv => whnf)); rw [if_pos rfl]; (with_reducible (conv => whnf))))
local macro_rules | `(tactic| walk_at "no") => `(tactic| ((with_reducible (conv => whnf)); rw [if_neg Bool.false_ne_true]; (with_reducible (conv => whnf))))
local macro_rules | `(tactic| walk_at "len") => `(tactic| (first | (simp only [List.length_map, List.length_append, List.length_cons, List.length_nil, List.length_reverse, List.length_replicate]; omega) | (simp only [List.length_map, List.length_append, List.length_cons, List.length_nil, List.length_reverse, List.length_replicate] at *; omega)))
local macro_rules | `(tactic| walk_at "sd") => `(tactic| first | with_reducible rfl | assumption | exact True.intro | omega | walk_at "len" | rfl | decide)
local macro_rules | `(tactic| walk_at "sds") => `(tactic| first | walk_at "sd" | exact And.intro (by walk_at "sd") (by walk_at "sd") | exact And.intro (by walk_at "sd") (And.intro (by walk_at "sd") (by walk_at "sd")) | exact And.intro (And.intro (by walk_at "sd") (by walk_at "sd")) (by walk_at "sd"))
local macro_rules | `(tactic| walk_at "g1") => `(tactic| ((first | refine And.intro (by walk_at "sds") ?_ | with_reducible refine ifT ?_ | with_reducible refine ifF ?_ | with_reducible refine ifNT ?_ | with_reducible refine ifNF ?_ | with_reducible refine Exists.intro _ (And.intro rfl ?_) | refine isi_plain (by walk_at "sd") (by decide) ?_ | refine Exists.intro _ (And.intro (by assumption) ?_) | refine Exists.intro _ (And.intro rfl ?_) | refine Exists.intro _ (Exists.intro _ (Exists.intro _ (And.intro rfl ?_))) | refine Exists.intro _ (Exists.intro _ (And.intro rfl ?_)) | refine Exists.intro _ (Exists.intro _ (Exists.intro _ (Exists.intro _ (And.intro rfl ?_))))); (with_reducible conv => whnf)))
local macro_rules | `(tactic| walk_at "go") => `(tactic| ((with_reducible conv => whnf); repeat walk_at "g1"))
variable {P : Program} {w : World} {K : PySem.W.Frag} {mg : Str → Option Value} {base : Heap} {A : Ad}
theorem wp_is_link (T : Txt K mg A) (as : List AA) (Q : RV → List AA → Prop) (E : Ex → List AA → Prop) (ha : as.length = 2) (h : sp_is_link K A as Q E) : ws_is_link K A (wEnd as Q E) (argU 0 as 1) := by
  match as, h with
  | [.dv (.int m), .dv x], ⟨a, b, e, ha', hb', hab, q⟩ =>
    subst e
    walk_at "fl"
    refine ⟨rfl, rfl, ?_⟩
    walk_at "fl"
    refine iteN (fun c => absurd (show true = false from c) (by decide)) (fun _ => ?_)
    walk_at "fl"
    refine ⟨⟨⟨rfl, True.intro⟩, (by decide : (2 : Nat) ≤ 1000000)⟩, fun rest acc ρ => (∃ (k : Nat), acc = List.replicate k (.bl true)) ∧ (∀ d ∈ rest, ∃ i : Int, d = .int i ∧ 0 ≤ i ∧ i < m) ∧ ρ = [.fz (.int m), .fz (pairD (a, b)), .un], ⟨⟨0, rfl⟩, fun d hd => ?_, rfl⟩, ?_, ?_⟩
    · rcases List.mem_cons.mp hd with rfl | hd
      · exact ⟨a, rfl, ha'⟩
      · rw [List.mem_singleton.mp hd]; exact ⟨b, rfl, hb'⟩
    · rintro d rest acc ρ2 ⟨⟨k, rfl⟩, hr, rfl⟩
      obtain ⟨i, rfl, h0, h1⟩ := hr d (by simp)
      walk_at "fl"
      refine ifT ?_
      walk_at "fl"
      refine ⟨rfl, rfl, ?_⟩
      walk_at "fl"
      rw [withinD_mk h0 (by omega)]
      exact ⟨⟨k + 1, List.replicate_succ'.symm⟩, fun d hd => hr d (List.mem_cons_of_mem _ hd), rfl⟩
    · rintro acc ρ2 ⟨⟨k, rfl⟩, _, rfl⟩
      walk_at "fl"
      refine ⟨List.replicate k true, List.map_replicate.symm, ?_⟩
      walk_at "fl"
      refine iteN (fun c => ?_) (fun _ => ?_)
      · have c : (List.replicate k true).all id = false := c
        have : (List.replicate k true).all id = true := by
          rw [List.all_eq_true]
          intro x hx
          exact (List.mem_replicate.mp hx).2
        rw [this] at c; cases c
      · walk_at "fl"
        refine ⟨_, rfl, ?_⟩
        walk_at "fl"
        refine ⟨_, rfl, ?_⟩
        walk_at "fl"
        rw [decide_eq_false hab]
        exact q
end Fl

set_option Elab.async false
set_option linter.all false
set_option maxRecDepth 100000
set_option maxHeartbeats 1000000
namespace Fl
open PySem PySem.Spec PyProof.Rows L2
local macro_rules | `(tactic| walk_at "fl") => `(tactic| with_reducible conv => whnf)
local macro_rules | `(tactic| walk_at "yes") => `(tactic| ((with_reducible (conv => whnf)); rw [if_pos rfl]; (with_reducible (conv => whnf))))
local macro_rules | `(tactic| walk_at "no") => `(tactic| ((with_reducible (conv => whnf)); rw [if_neg Bool.false_ne_true]; (with_reducible (conv => whnf))))
local macro_rules | `(tactic| walk_at "len") => `(tactic| (first | (simp only [List.length_map, List.length_append, List.length_cons, List.length_nil, List.length_reverse, List.length_replicate]; omega) | (simp only [List.length_map, List.length_append, List.length_cons, List.length_nil, List.length_reverse, List.length_replicate] at *; omega)))
local macro_rules | `(tactic| walk_at "sd") => `(tactic| first | with_reducible rfl | assumption | exact True.intro | omega | walk_at "len" | rfl | decide)
local macro_rules | `(tactic| walk_at "sds") => `(tactic| first | walk_at "sd" | exact And.intro (by walk_at "sd") (by walk_at "sd") | exact And.intro (by walk_at "sd") (And.intro (by walk_at "sd") (by walk_at "sd")) | exact And.intro (And.intro (by walk_at "sd") (by walk_at "sd")) (by walk_at "sd"))
local macro_rules | `(tactic| walk_at "g1") => `(tactic| ((first | refine And.intro (by walk_at "sds") ?_ | with_reducible refine ifT ?_ | with_reducible refine ifF ?_ | with_reducible refine ifNT ?_ | with_reducible refine ifNF ?_ | with_reducible refine Exists.intro _ (And.intro rfl ?_) | refine isi_plain (by walk_at "sd") (by decide) ?_ | refine Exists.intro _ (And.intro (by assumption) ?_) | refine Exists.intro _ (And.intro rfl ?_) | refine Exists.intro _ (Exists.intro _ (Exists.intro _ (And.intro rfl ?_))) | refine Exists.intro _ (Exists.intro _ (And.intro rfl ?_)) | refine Exists.intro _ (Exists.intro _ (Exists.intro _ (Exists.intro _ (And.intro rfl ?_))))); (with_reducible conv => whnf)))
local macro_rules | `(tactic| walk_at "go") => `(tactic| ((with_reducible conv => whnf); repeat walk_at "g1"))
variable {P : Program} {w : World} {K : PySem.W.Frag} {mg : Str → Option Value} {base : Heap} {A : Ad}
theorem wp_Net___init__ (T : Txt K mg A) (as : List AA) (Q : RV → List AA → Prop) (E : Ex → List AA → Prop) (ha : as.length = 4) (h : sp_Net___init__ K A as Q E) : ws_Net___init__ K A (wEnd as Q E) (argU 0 as 2) := by
  match as, h with
  | [.ob (.ins C []), .dv (.int m), .dv (.int r), .dv x], ⟨e1, ls, e2, N, q⟩ =>
    subst e1 e2
    walk_at "fl"
    refine ⟨rfl, rfl, ?_⟩
    walk_at "fl"
    rw [withinD_mk N.m2 N.m10]
    refine iteN (fun c => by cases c) (fun _ => ?_)
    walk_at "fl"
    refine ⟨rfl, rfl, ?_⟩
    walk_at "fl"
    rw [withinD_mk N.r0 (by have := N.rm; omega)]
    refine iteN (fun c => by cases c) (fun _ => ?_)
    walk_at "fl"
    refine isi_plain rfl (by decide) ?_
    walk_at "fl"
    refine iteN (fun c => absurd (show true = false from c) (by decide)) (fun _ => ?_)
    walk_at "fl"
    rw [List.length_map]
    refine iteB (fun c => absurd (of_decide_eq_true c) (by have := N.len; omega)) (fun _ => ?_)
    walk_at "fl"
    refine ⟨fun done rest ρ => (∀ d ∈ rest, ∃ (i : Nat) (p : Lk), p ∈ ls ∧ d = .tup [.int i, pairD p]) ∧ ∃ a b : Fl.A, ρ = [.pr 0 (.ins A.e_Net []), .fz (.int m), .fz (.int r), .fz (.tup (ls.map pairD)), a, b], ⟨fun d hd => ?_, _, _, rfl⟩, ?_, ?_⟩
    · have key : ∀ (ps : List Lk) (i : Nat) (d : D), d ∈ enumD i (ps.map pairD) → ∃ (i : Nat) (p : Lk), p ∈ ps ∧ d = .tup [.int i, pairD p] := fun ps => by
        induction ps with
        | nil => intro i d hd; cases hd
        | cons p ps ih =>
          intro i d hd
          rcases List.mem_cons.mp hd with rfl | hd
          · exact ⟨i, p, by simp, rfl⟩
          · obtain ⟨j, q, h1, h2⟩ := ih (i + 1) d hd
            exact ⟨j, q, List.mem_cons_of_mem _ h1, h2⟩
      exact key ls 0 d hd
    · rintro done d rest ρ2 ⟨hr, a, b, rfl⟩
      obtain ⟨i, p, hp, rfl⟩ := hr d (by simp)
      have g := N.good p hp
      walk_at "fl"
      refine ⟨rfl, p.1, p.2, rfl, g.1, g.2.1, g.2.2, ?_⟩
      walk_at "fl"
      refine iteN (fun c => by cases c) (fun _ => ?_)
      walk_at "fl"
      exact ⟨fun d hd => hr d (List.mem_cons_of_mem _ hd), _, _, rfl⟩
    · rintro done ρ2 ⟨_, a, b, rfl⟩
      walk_at "fl"
      refine ⟨rfl, [("many", .int m)], rfl, (by decide : (1 : Nat) < 900), ?_⟩
      walk_at "fl"
      refine ⟨rfl, [("many", .int m), ("root", .int r)], rfl, (by decide : (2 : Nat) < 900), ?_⟩
      walk_at "fl"
      refine ⟨rfl, [("many", .int m), ("root", .int r), ("links", .tup (ls.map pairD))], rfl, (by decide : (3 : Nat) < 900), ?_⟩
      walk_at "fl"
      exact q
end Fl

set_option Elab.async false
set_option linter.all false
set_option maxRecDepth 100000
set_option maxHeartbeats 1000000
namespace Fl
open PySem PySem.Spec PyProof.Rows L2
local macro_rules | `(tactic| walk_at "fl") => `(tactic| with_reducible conv => whnf)
local macro_rules | `(tactic| walk_at "yes") => `(tactic| ((with_reducible (conv => whnf)); rw [if_pos rfl]; (with_reducible (conv => whnf))))
local macro_rules | `(tactic| walk_at "no") => `(tactic| ((with_reducible (conv => whnf)); rw [if_neg Bool.false_ne_true]; (with_reducible (conv => whnf))))
local macro_rules | `(tactic| walk_at "len") => `(tactic| (first | (simp only [List.length_map, List.length_append, List.length_cons, List.length_nil, List.length_reverse, List.length_replicate]; omega) | (simp only [List.length_map, List.length_append, List.length_cons, List.length_nil, List.length_reverse, List.length_replicate] at *; omega)))
local macro_rules | `(tactic| walk_at "sd") => `(tactic| first | with_reducible rfl | assumption | exact True.intro | omega | walk_at "len" | rfl | decide)
local macro_rules | `(tactic| walk_at "sds") => `(tactic| first | walk_at "sd" | exact And.intro (by walk_at "sd") (by walk_at "sd") | exact And.intro (by walk_at "sd") (And.intro (by walk_at "sd") (by walk_at "sd")) | exact And.intro (And.intro (by walk_at "sd") (by walk_at "sd")) (by walk_at "sd"))
local macro_rules | `(tactic| walk_at "g1") => `(tactic| ((first | refine And.intro (by walk_at "sds") ?_ | with_reducible refine ifT ?_ | with_reducible refine ifF ?_ | with_reducible refine ifNT ?_ | with_reducible refine ifNF ?_ | with_reducible refine Exists.intro _ (And.intro rfl ?_) | refine isi_plain (by walk_at "sd") (by decide) ?_ | refine Exists.intro _ (And.intro (by assumption) ?_) | refine Exists.intro _ (And.intro rfl ?_) | refine Exists.intro _ (Exists.intro _ (Exists.intro _ (And.intro rfl ?_))) | refine Exists.intro _ (Exists.intro _ (And.intro rfl ?_)) | refine Exists.intro _ (Exists.intro _ (Exists.intro _ (Exists.intro _ (And.intro rfl ?_))))); (with_reducible conv => whnf)))
local macro_rules | `(tactic| walk_at "go") => `(tactic| ((with_reducible conv => whnf); repeat walk_at "g1"))
variable {P : Program} {w : World} {K : PySem.W.Frag} {mg : Str → Option Value} {base : Heap} {A : Ad}
theorem wp_law (T : Txt K mg A) (ns ms z : List Int) (hl : ns.length ≤ 63) (tl : TLa ns ms z) : ws_law K A { nx := fun _ => False, rt := fun r ρ => cRV ρ r = some (.val (.bl true)), bk := fun _ => False, ct := fun _ => False, ex := fun _ _ => False } (.un :: .ow (handD ms z) :: uns 8) := by
  obtain ⟨rfl, hm⟩ := tl
  have h0 : HandOk (handD ms [0, 0, 0]) := ⟨ms, 0, 0, 0, rfl, by decide, by decide⟩
  walk_at "go"
  intro x1 m r ls h1 N
  have N60 := N.len
  walk_at "go"
  refine forR (fun i ρ => ∃ (x : D) (a3 a5 a6 a7 a8 a9 : Fl.A), HandOk x ∧ (a3 = .ow (netD A m r ls) ∨ a3 = .fz (netD A m r ls)) ∧ (i = 0 ∨ ∃ jss : List (List Int), a6 = .fz (.tup (jss.map lotD)) ∧ a3 = .fz (netD A m r ls)) ∧
    ρ = [.un, .ow x, .fz (partsD m r ls), a3, .fz (.int ↑(ls.map pairD).length), a5, a6, a7, a8, a9]) ⟨x1, _, _, _, _, _, _, h1, .inl rfl, .inl rfl, rfl⟩ ?_ ?_
  · rintro i hi ρ ⟨x, a3, a5, a6, a7, a8, a9, hx, h3, h6, rfl⟩ J hJ
    rcases h3 with rfl | rfl
    all_goals
      walk_at "go"
      intro x2 jss h2 htr hnd hlen
      have ip : IsPack m r ls (.tup (jss.map lotD)) := ⟨jss, rfl, htr, hnd⟩
      have hin : ∀ js ∈ jss, (1 ≤ js.length ∧ js.length ≤ 9) ∧ ∀ j ∈ js, 0 ≤ j ∧ j ≤ 100 := fun js hj => by
        obtain ⟨js', e, g, hl⟩ := htr js hj
        have : js = js' := ints_inj (by injection e)
        subst this
        have := N.m2; have := N.m10
        exact ⟨⟨by omega, by omega⟩, fun j hj => by have := g.lot.1 j hj; omega⟩
      have pls : pl (.tup (jss.map lotD)) = true := pls_of fun d hd => by
        obtain ⟨js, _, rfl⟩ := List.mem_map.mp hd
        exact pl_ints
      have lz : ∀ ds, D.tup (jss.map lotD) = .tup ds → ds.length ≤ 100 ∧ ∀ d ∈ ds, ∀ es, d = .tup es → es.length ≤ 1000000 := fun ds e => by
        cases e
        refine ⟨by walk_at "len", fun d hd es e => ?_⟩
        obtain ⟨js, hj, rfl⟩ := List.mem_map.mp hd
        cases e
        have := (hin js hj).1
        walk_at "len"
      have lz2 : ∀ ds, D.tup (jss.map lotD) = .tup ds → ds.length ≤ 100 := fun ds e => (lz ds e).1
      walk_at "go"
      intro b hb
      have := hb.mpr ip
      subst this
      walk_at "go"
      intro b hb
      have := hb.mpr ip
      subst this
      walk_at "go"
      refine forR (fun i ρ => ∃ (x : D) (a7 a8 a9 : Fl.A), HandOk x ∧ ρ = [.un, .ow x, .fz (partsD m r ls), .fz (netD A m r ls), .fz (.int ↑(ls.map pairD).length), _, .fz (.tup (jss.map lotD)), a7, a8, a9]) ⟨x2, _, _, _, h2, rfl⟩ ?_ ?_
      · rintro i hi ρ ⟨x, a7, a8, a9, hx, rfl⟩ J hJ
        walk_at "go"
        intro x3 d h3 od td
        obtain ⟨mm, od⟩ := od
        have pd := od.pl
        obtain ⟨y, y1, y2, y3, y4⟩ := od.sh
        have td2 : ∀ ds, d = .tup ds → ds.length ≤ 100 := fun ds e => (td ds e).1
        walk_at "go"
        refine ⟨mm, y, y1, y2, by omega, by omega, ?_⟩
        walk_at "go"
        intro b hb
        walk_at "go"
        intro b2 hb2
        have : b = b2 := by cases b <;> cases b2 <;> simp_all
        walk_at "go"
        refine iteDN (fun c => absurd this c) (fun _ => ?_)
        walk_at "go"
        refine ⟨mm, y, y1, y2, by omega, by omega, ?_⟩
        refine iteDN (fun c => absurd rfl c) (fun _ => ?_)
        walk_at "go"
        exact hJ _ ⟨x3, _, _, _, h3, rfl⟩
      · rintro ρ ⟨x, a7, a8, a9, hx, rfl⟩
        walk_at "go"
        exact hJ _ ⟨x, _, _, _, _, _, _, hx, .inr rfl, .inr ⟨jss, rfl, rfl⟩, rfl⟩
  · rintro ρ ⟨x, a3, a5, a6, a7, a8, a9, hx, h3, h6, rfl⟩
    rcases h6 with h6 | ⟨jss, rfl, rfl⟩
    · exact absurd h6 (by decide)
    walk_at "go"
    refine ⟨fun ds e => (by cases e; simp), fun b hb => ?_⟩
    have := hb.mpr ⟨[], rfl, by simp, by simp⟩
    subst this
    walk_at "go"
    refine ⟨fun ds e => (by cases e), fun b hb => ?_⟩
    have : b = false := by
      cases b with
      | false => rfl
      | true =>
        obtain ⟨_, e, _⟩ := hb.mp rfl
        cases e
    subst this
    walk_at "go"
    rfl
end Fl

set_option Elab.async false
set_option linter.all false
set_option maxRecDepth 100000
set_option maxHeartbeats 1000000
namespace Fl
open PySem PySem.Spec PyProof.Rows L2
local macro_rules | `(tactic| walk_at "fl") => `(tactic| with_reducible conv => whnf)
local macro_rules | `(tactic| walk_at "yes") => `(tactic| ((with_reducible (conv => whnf)); rw [if_pos rfl]; (with_reducible (conv => whnf))))
local macro_rules | `(tactic| walk_at "no") => `(tactic| ((with_reducible (conv => whnf)); rw [if_neg Bool.false_ne_true]; (with_reducible (conv => whnf))))
local macro_rules | `(tactic| walk_at "len") => `(tactic| (first | (simp only [List.length_map, List.length_append, List.length_cons, List.length_nil, List.length_reverse, List.length_replicate]; omega) | (simp only [List.length_map, List.length_append, List.length_cons, List.length_nil, List.length_reverse, List.length_replicate] at *; omega)))
local macro_rules | `(tactic| walk_at "sd") => `(tactic| first | with_reducible rfl | assumption | exact True.intro | omega | walk_at "len" | rfl | decide)
local macro_rules | `(tactic| walk_at "sds") => `(tactic| first | walk_at "sd" | exact And.intro (by walk_at "sd") (by walk_at "sd") | exact And.intro (by walk_at "sd") (And.intro (by walk_at "sd") (by walk_at "sd")) | exact And.intro (And.intro (by walk_at "sd") (by walk_at "sd")) (by walk_at "sd"))
local macro_rules | `(tactic| walk_at "g1") => `(tactic| ((first | refine And.intro (by walk_at "sds") ?_ | with_reducible refine ifT ?_ | with_reducible refine ifF ?_ | with_reducible refine ifNT ?_ | with_reducible refine ifNF ?_ | with_reducible refine Exists.intro _ (And.intro rfl ?_) | refine isi_plain (by walk_at "sd") (by decide) ?_ | refine Exists.intro _ (And.intro (by assumption) ?_) | refine Exists.intro _ (And.intro rfl ?_) | refine Exists.intro _ (Exists.intro _ (Exists.intro _ (And.intro rfl ?_))) | refine Exists.intro _ (Exists.intro _ (And.intro rfl ?_)) | refine Exists.intro _ (Exists.intro _ (Exists.intro _ (Exists.intro _ (And.intro rfl ?_))))); (with_reducible conv => whnf)))
local macro_rules | `(tactic| walk_at "go") => `(tactic| ((with_reducible conv => whnf); repeat walk_at "g1"))
variable {P : Program} {w : World} {K : PySem.W.Frag} {mg : Str → Option Value} {base : Heap} {A : Ad}
theorem ok_check_net (T : Txt K mg A) : My.OkG P w K mg base (L2.CX P w) 1 A.a_check_net A.d_check_net P_check_net (lift w 1 (sp_check_net K A)) := by
  refine okF T.F_check_net sc_check_net (by decide) fun cdv AA out s H vs Q E hG hr => ?_
  have tk : Takes (cxOf (L2.CX P w) P w K mg base N_check_net "check_net" (defScope s_check_net) A.a_check_net cdv AA out s H E) (fun cls d _ H => E cls d H) := takes_of rfl rfl rfl rfl
  exact ⟨_, ws_check_net K A, ⟨(pss_one (ps_if (pt_not (pt_val (pe_callB call_isi (by rfl) T.b_isinstance (by decide +kernel) (pa_cons (pv 0) (pa_cons (pe_glob (v := .ref A.e_Net) rfl T.g_Net rfl) pa_nil))))) (pss_one ps_no) pss_nil)),
    (ss_if (st_not (st_tst (se_cb pn_isi (SAn.sa (sn_cons (se_var 0) (sn_cons (se_c (d := .adr A.e_Net) fun F => rpAdr) sn_nil)))))) ss_no ss_next)⟩, fun as Q E ha h => wp_check_net T as Q E ha h⟩
theorem ok_is_integer (T : Txt K mg A) : My.OkG P w K mg base (L2.CX P w) 1 A.a_is_integer A.d_is_integer P_is_integer (lift w 1 (sp_is_integer K A)) := by
  refine okF T.F_is_integer sc_is_integer (by decide) fun cdv AA out s H vs Q E hG hr => ?_
  have tk : Takes (cxOf (L2.CX P w) P w K mg base N_is_integer "is_integer" (defScope s_is_integer) A.a_is_integer cdv AA out s H E) (fun cls d _ H => E cls d H) := takes_of rfl rfl rfl rfl
  exact ⟨_, ws_is_integer K A, ⟨(pss_one (ps_ret (pe_andT (pe_callB call_isi (by rfl) T.b_isinstance (by decide +kernel) (pa_cons (pv 0) (pa_cons (pe_bltn (by rfl) T.b_int (by decide +kernel) (show RelV (.ty "int") (.type "int") from rfl)) pa_nil))) (pe_one (pe_notT (pe_callB call_isi (by rfl) T.b_isinstance (by decide +kernel) (pa_cons (pv 0) (pa_cons (pe_bltn (by rfl) T.b_bool (by decide +kernel) (show RelV (.ty "bool") (.type "bool") from rfl)) pa_nil)))))))),
    (ss_ret (se_andT (se_cb pn_isi (SAn.sa (sn_cons (se_var 0) (sn_cons (se_c (d := .ty "int") fun F => rpTy) sn_nil)))) (se_notT (se_cb pn_isi (SAn.sa (sn_cons (se_var 0) (sn_cons (se_c (d := .ty "bool") fun F => rpTy) sn_nil)))))))⟩, fun as Q E ha h => wp_is_integer T as Q E ha h⟩
theorem ok_is_within (T : Txt K mg A) : My.OkG P w K mg base (L2.CX P w) 2 A.a_is_within A.d_is_within P_is_within (lift w 3 (sp_is_within K A)) := by
  have G_is_integer : My.OkG P w K mg base (L2.CX P w) 1 A.a_is_integer A.d_is_integer P_is_integer (lift w 1 (sp_is_integer K A)) := ok_is_integer T
  refine okF T.F_is_within sc_is_within (by decide) fun cdv AA out s H vs Q E hG hr => ?_
  have tk : Takes (cxOf (L2.CX P w) P w K mg base N_is_within "is_within" (defScope s_is_within) A.a_is_within cdv AA out s H E) (fun cls d _ H => E cls d H) := takes_of rfl rfl rfl rfl
  have hr_is_integer : Room 1 _ := hr.mono (by decide)
  exact ⟨_, ws_is_within K A, ⟨(pss_one (ps_ret (pe_andT (pe_callD G_is_integer hG hr_is_integer rfl T.m_is_integer T.F_is_integer.kp T.B_is_integer .nil (fun σ => passAt tk σ) (pa_cons (pv 0) pa_nil)) (pe_one (pe_chain op_le op_le (pv 1) (pv 0) (pv 2) (by rfl)))))),
    (ss_ret (se_andT (se_call (fun F => Rps.nil) (sn_cons (se_var 0) sn_nil) (by simp)) (se_ch (po_cmp fun i j => decide (i ≤ j)) (po_cmp fun i j => decide (i ≤ j)) (se_var 1) (se_var 0) (se_var 2))))⟩, fun as Q E ha h => wp_is_within T as Q E ha h⟩
theorem ok_is_lot (T : Txt K mg A) : My.OkG P w K mg base (L2.CX P w) 3 A.a_is_lot A.d_is_lot P_is_lot (lift w 2 (sp_is_lot K A)) := by
  have G_is_within : My.OkG P w K mg base (L2.CX P w) 2 A.a_is_within A.d_is_within P_is_within (lift w 3 (sp_is_within K A)) := ok_is_within T
  refine okF T.F_is_lot sc_is_lot (by decide) fun cdv AA out s H vs Q E hG hr => ?_
  have tk : Takes (cxOf (L2.CX P w) P w K mg base N_is_lot "is_lot" (defScope s_is_lot) A.a_is_lot cdv AA out s H E) (fun cls d _ H => E cls d H) := takes_of rfl rfl rfl rfl
  have hr_is_within : Room 2 _ := hr.mono (by decide)
  exact ⟨_, ws_is_lot K A, ⟨(pss_cons (ps_if (pt_not (pt_val (pe_callB call_isi (by rfl) T.b_isinstance (by decide +kernel) (pa_cons (pv 0) (pa_cons (pe_bltn (by rfl) T.b_tuple (by decide +kernel) (show RelV (.ty "tuple") (.type "tuple") from rfl)) pa_nil))))) (pss_one (ps_ret pe_bl)) pss_nil)
      (pss_cons (ps_set (i := 2) sc_is_lot.nd rfl (Or.inl rfl) (pe_un un_neg pe_int))
      (pss_cons (ps_for (passes_of rfl) rfl (pi_seq (pv 0)) (pg_name (i := 3) sc_is_lot.nd rfl (Or.inl rfl))
      (pss_cons (ps_if (pt_not (pt_val (pe_callD G_is_within hG hr_is_within rfl T.m_is_within T.F_is_within.kp T.B_is_within .nil (fun σ => passAt tk σ) (pa_cons (pv 3) (pa_cons (pe_op op_addAll (pv 2) pe_int) (pa_cons (pe_op op_sub (pv 1) pe_int) pa_nil)))))) (pss_one (ps_ret pe_bl)) pss_nil)
      (pss_one (ps_set (i := 2) sc_is_lot.nd rfl (Or.inl rfl) (pv 3)))))
      (pss_one (ps_ret pe_bl))))),
    (ss_seq (ss_if (st_not (st_tst (se_cb pn_isi (SAn.sa (sn_cons (se_var 0) (sn_cons (se_c (d := .ty "tuple") fun F => rpTy) sn_nil)))))) (ss_ret (se_c (d := .bl false) fun F => rpBl)) ss_next)
      (ss_seq (ss_asg (se_un po_neg (se_c (d := .int 1) fun F => rpInt)) (sg_name 2))
      (ss_seq (ss_forI (si_seq (se_var 0)) (sg_name 3) (ss_seq (ss_if (st_not (st_tst (se_call (fun F => Rps.nil) (sn_cons (se_var 3) (sn_cons (se_op2 po_add (se_var 2) (se_c (d := .int 1) fun F => rpInt)) (sn_cons (se_op2 po_sub (se_var 1) (se_c (d := .int 1) fun F => rpInt)) sn_nil))) (by simp)))) (ss_ret (se_c (d := .bl false) fun F => rpBl)) ss_next)
      (ss_asg (se_var 3) (sg_name 2))))
      (ss_ret (se_c (d := .bl true) fun F => rpBl)))))⟩, fun as Q E ha h => wp_is_lot T as Q E ha h⟩
theorem ok_is_lot_of (T : Txt K mg A) : My.OkG P w K mg base (L2.CX P w) 4 A.a_is_lot_of A.d_is_lot_of P_is_lot_of (lift w 2 (sp_is_lot_of K A)) := by
  have G_is_lot : My.OkG P w K mg base (L2.CX P w) 3 A.a_is_lot A.d_is_lot P_is_lot (lift w 2 (sp_is_lot K A)) := ok_is_lot T
  refine okF T.F_is_lot_of sc_is_lot_of (by decide) fun cdv AA out s H vs Q E hG hr => ?_
  have tk : Takes (cxOf (L2.CX P w) P w K mg base N_is_lot_of "is_lot_of" (defScope s_is_lot_of) A.a_is_lot_of cdv AA out s H E) (fun cls d _ H => E cls d H) := takes_of rfl rfl rfl rfl
  have hr_is_lot : Room 3 _ := hr.mono (by decide)
  exact ⟨_, ws_is_lot_of K A, ⟨(pss_one (ps_ret (pe_callD G_is_lot hG hr_is_lot rfl T.m_is_lot T.F_is_lot.kp T.B_is_lot .nil (fun σ => passAt tk σ) (pa_cons (pv 1) (pa_cons (pe_callB call_lenAll (by rfl) T.b_len (by decide +kernel) (pa_cons (pe_fld (pv 0) rfl) pa_nil)) pa_nil))))),
    (ss_ret (se_call (fun F => Rps.nil) (sn_cons (se_var 1) (sn_cons (se_cb pn_len (SAn.sa (sn_cons (se_fld T.l_Net T.n_Net_links (se_var 0)) sn_nil))) sn_nil)) (by simp)))⟩, fun as Q E ha h => wp_is_lot_of T as Q E ha h⟩
theorem ok_reached (T : Txt K mg A) : My.OkG P w K mg base (L2.CX P w) 1 A.a_reached A.d_reached P_reached (lift w 3 (sp_reached K A)) := by
  refine okF T.F_reached sc_reached (by decide) fun cdv AA out s H vs Q E hG hr => ?_
  have tk : Takes (cxOf (L2.CX P w) P w K mg base N_reached "reached" (defScope s_reached) A.a_reached cdv AA out s H E) (fun cls d _ H => E cls d H) := takes_of rfl rfl rfl rfl
  exact ⟨_, ws_reached K A, ⟨(pss_cons (ps_set (i := 3) sc_reached.nd rfl (Or.inr rfl) (pe_callTy call_list_of (by rfl) T.b_list (by decide +kernel) (pa_cons (pv 2) pa_nil)))
      (pss_cons (ps_set (i := 4) sc_reached.nd rfl (Or.inl rfl) pe_bl)
      (pss_cons (ps_while (passes_of rfl) (pt_val (pv 4))
      (pss_cons (ps_setLc (i := 5) (own := [("link", 6)]) (by rfl) sc_reached.nd rfl rfl (sw_true rfl rfl rfl (by decide +kernel)) (pi_seq (pv 1)) (blkOk_by (own := [("link", 6)]) (N := N_reached) (sc := defScope s_reached) (by decide +kernel)) (fun _ _ _ _ _ => (pg_name (i := 6) sc_reached.nd rfl (Or.inl rfl))) (fun _ _ _ _ _ => (pts_one (pt_cmpR (op_inAll (hu65 hr)) (pe_ix (ix_all (hu1 hr)) (pe_ix (ix_all (hu1 hr)) (pe_fld (pv 0) rfl) (pv 6) (fun _ _ => rfl)) pe_int (fun _ _ => rfl)) (pv 3) (by rfl)))) (fun _ _ _ _ _ => (pe_ix (ix_all (hu1 hr)) (pe_ix (ix_all (hu1 hr)) (pe_fld (pv 0) rfl) (pv 6) (fun _ _ => rfl)) pe_int (fun _ _ => rfl))))
      (pss_cons (ps_set (i := 7) sc_reached.nd rfl (Or.inl rfl) (pe_callB (cr_sortedAll rfl) (by rfl) T.b_sorted (by decide +kernel) (pa_cons (pe_callTy (My.cr_setL rfl) (by rfl) T.b_set (by decide +kernel) (pa_cons (pe_lc (own := [("place", 8)]) (by rfl) sc_reached.nd (pi_seq (pv 5)) (blkOk_by (own := [("place", 8)]) (N := N_reached) (sc := defScope s_reached) (by decide +kernel)) (fun _ _ _ _ _ => (pg_name (i := 8) sc_reached.nd rfl (Or.inl rfl))) (fun _ _ _ _ _ => (pts_one (pt_cmpR (op_niAll (hu65 hr)) (pv 8) (pv 3) (by rfl)))) (fun _ _ _ _ _ => (pv 8))) pa_nil)) pa_nil)))
      (pss_cons (ps_set (i := 4) sc_reached.nd rfl (Or.inl rfl) (pe_cmpR op_gt (pe_callB call_lenAll (by rfl) T.b_len (by decide +kernel) (pa_cons (pv 7) pa_nil)) pe_int (by rfl)))
      (pss_one (ps_expr (pe_bm PySem.F.plainAttrs_list PySem.F.slot_list_extend PySem.F.type_list_extend mt_extS (pv 3) (pa_cons (pv 7) pa_nil))))))))
      (pss_one (ps_ret (pv 3)))))),
    (ss_seq (ss_asg (se_cb pn_list (SAn.sa (sn_cons (se_var 2) sn_nil))) (sg_name 3))
      (ss_seq (ss_asg (se_c (d := .bl true) fun F => rpBl) (sg_name 4))
      (ss_seq (ss_while (st_tst (se_var 4)) (ss_seq (ss_asg (se_lcI (own := [6]) (si_seq (se_var 1)) (sg_name 6) (by decide) (st_tst (se_op2 po_in (se_op2 po_ix (se_op2 po_ix (se_fld T.l_Net T.n_Net_links (se_var 0)) (se_var 6)) (se_c (d := .int 0) fun F => rpInt)) (se_var 3))) (se_op2 po_ix (se_op2 po_ix (se_fld T.l_Net T.n_Net_links (se_var 0)) (se_var 6)) (se_c (d := .int 1) fun F => rpInt))) (sg_name 5))
      (ss_seq (ss_asg (se_cb pn_sorted (SAn.sa (sn_cons (se_cb pn_set (SAn.sa (sn_cons (se_lcI (own := [8]) (si_seq (se_var 5)) (sg_name 8) (by decide) (st_tst (se_op2 po_ni (se_var 8) (se_var 3))) (se_var 8)) sn_nil))) sn_nil))) (sg_name 7))
      (ss_seq (ss_asg (se_op2 (po_cmp fun i j => decide (j < i)) (se_cb pn_len (SAn.sa (sn_cons (se_var 7) sn_nil))) (se_c (d := .int 0) fun F => rpInt)) (sg_name 4))
      (ss_drop (se_mt mm_extend (se_var 3) (SAn.sa (sn_cons (se_var 7) sn_nil))))))))
      (ss_ret (se_var 3)))))⟩, fun as Q E ha h => wp_reached T as Q E ha h⟩
theorem ok_is_wood (T : Txt K mg A) : My.OkG P w K mg base (L2.CX P w) 2 A.a_is_wood A.d_is_wood P_is_wood (lift w 3 (sp_is_wood K A)) := by
  have G_reached : My.OkG P w K mg base (L2.CX P w) 1 A.a_reached A.d_reached P_reached (lift w 3 (sp_reached K A)) := ok_reached T
  refine okF T.F_is_wood sc_is_wood (by decide) fun cdv AA out s H vs Q E hG hr => ?_
  have tk : Takes (cxOf (L2.CX P w) P w K mg base N_is_wood "is_wood" (defScope s_is_wood) A.a_is_wood cdv AA out s H E) (fun cls d _ H => E cls d H) := takes_of rfl rfl rfl rfl
  have hr_reached : Room 1 _ := hr.mono (by decide)
  exact ⟨_, ws_is_wood K A, ⟨(pss_cons (ps_set (i := 3) sc_is_wood.nd rfl (Or.inr rfl) (pe_lc (own := [("link", 4)]) (by rfl) sc_is_wood.nd (pi_seq (pv 1)) (blkOk_by (own := [("link", 4)]) (N := N_is_wood) (sc := defScope s_is_wood) (by decide +kernel)) (fun _ _ _ _ _ => (pg_name (i := 4) sc_is_wood.nd rfl (Or.inl rfl))) (fun _ _ _ _ _ => pts_nil) (fun _ _ _ _ _ => (pe_ix (ix_all (hu1 hr)) (pe_ix (ix_all (hu1 hr)) (pe_fld (pv 0) rfl) (pv 4) (fun _ _ => rfl)) pe_int (fun _ _ => rfl)))))
      (pss_cons (ps_if (PW.pt (pw_or (pt_cmpR (op_ltAll (hu0 hr)) (pe_callB call_lenAll (by rfl) T.b_len (by decide +kernel) (pa_cons (pe_callTy (My.cr_setL rfl) (by rfl) T.b_set (by decide +kernel) (pa_cons (pv 3) pa_nil)) pa_nil)) (pe_callB call_lenAll (by rfl) T.b_len (by decide +kernel) (pa_cons (pv 3) pa_nil)) (by rfl)) (pw_or1 (pt_val (pe_callB (cr_any rfl) (by rfl) T.b_any (by decide +kernel) (pa_cons (pe_lc (own := [("place", 5)]) (by rfl) sc_is_wood.nd (pi_seq (pv 2)) (blkOk_by (own := [("place", 5)]) (N := N_is_wood) (sc := defScope s_is_wood) (by decide +kernel)) (fun _ _ _ _ _ => (pg_name (i := 5) sc_is_wood.nd rfl (Or.inl rfl))) (fun _ _ _ _ _ => pts_nil) (fun _ _ _ _ _ => (pe_cmpR (op_inAll (hu65 hr)) (pv 5) (pv 3) (by rfl)))) pa_nil)))))) (pss_one (ps_ret pe_bl)) pss_nil)
      (pss_cons (ps_set (i := 6) sc_is_wood.nd rfl (Or.inr rfl) (pe_callD G_reached hG hr_reached rfl T.m_reached T.F_reached.kp T.B_reached .nil (fun σ => passAt tk σ) (pa_cons (pv 0) (pa_cons (pv 1) (pa_cons (pv 2) pa_nil)))))
      (pss_one (ps_ret (pe_callB (cr_all rfl) (by rfl) T.b_all (by decide +kernel) (pa_cons (pe_lc (own := [("place", 5)]) (by rfl) sc_is_wood.nd (pi_seq (pv 3)) (blkOk_by (own := [("place", 5)]) (N := N_is_wood) (sc := defScope s_is_wood) (by decide +kernel)) (fun _ _ _ _ _ => (pg_name (i := 5) sc_is_wood.nd rfl (Or.inl rfl))) (fun _ _ _ _ _ => pts_nil) (fun _ _ _ _ _ => (pe_cmpR (op_inAll (hu65 hr)) (pv 5) (pv 6) (by rfl)))) pa_nil))))))),
    (ss_seq (ss_asg (se_lcI (own := [4]) (si_seq (se_var 1)) (sg_name 4) (by decide) st_any (se_op2 po_ix (se_op2 po_ix (se_fld T.l_Net T.n_Net_links (se_var 0)) (se_var 4)) (se_c (d := .int 1) fun F => rpInt))) (sg_name 3))
      (ss_seq (ss_if (st_or (st_tst (se_op2 po_lt (se_cb pn_len (SAn.sa (sn_cons (se_cb pn_set (SAn.sa (sn_cons (se_var 3) sn_nil))) sn_nil))) (se_cb pn_len (SAn.sa (sn_cons (se_var 3) sn_nil))))) (st_tst (se_cb (pn_flags fun bs => bs.any id) (SAn.sa (sn_cons (se_lcI (own := [5]) (si_seq (se_var 2)) (sg_name 5) (by decide) st_any (se_op2 po_in (se_var 5) (se_var 3))) sn_nil))))) (ss_ret (se_c (d := .bl false) fun F => rpBl)) ss_next)
      (ss_seq (ss_asg (se_call (fun F => Rps.nil) (sn_cons (se_var 0) (sn_cons (se_var 1) (sn_cons (se_var 2) sn_nil))) (by simp)) (sg_name 6))
      (ss_ret (se_cb (pn_flags fun bs => bs.all id) (SAn.sa (sn_cons (se_lcI (own := [5]) (si_seq (se_var 3)) (sg_name 5) (by decide) st_any (se_op2 po_in (se_var 5) (se_var 6))) sn_nil)))))))⟩, fun as Q E ha h => wp_is_wood T as Q E ha h⟩
theorem ok_is_grown (T : Txt K mg A) : My.OkG P w K mg base (L2.CX P w) 5 A.a_is_grown A.d_is_grown P_is_grown (lift w 2 (sp_is_grown K A)) := by
  have G_check_net : My.OkG P w K mg base (L2.CX P w) 1 A.a_check_net A.d_check_net P_check_net (lift w 1 (sp_check_net K A)) := ok_check_net T
  have G_is_lot_of : My.OkG P w K mg base (L2.CX P w) 4 A.a_is_lot_of A.d_is_lot_of P_is_lot_of (lift w 2 (sp_is_lot_of K A)) := ok_is_lot_of T
  have G_is_wood : My.OkG P w K mg base (L2.CX P w) 2 A.a_is_wood A.d_is_wood P_is_wood (lift w 3 (sp_is_wood K A)) := ok_is_wood T
  refine okF T.F_is_grown sc_is_grown (by decide) fun cdv AA out s H vs Q E hG hr => ?_
  have tk : Takes (cxOf (L2.CX P w) P w K mg base N_is_grown "is_grown" (defScope s_is_grown) A.a_is_grown cdv AA out s H E) (fun cls d _ H => E cls d H) := takes_of rfl rfl rfl rfl
  have hr_check_net : Room 1 _ := hr.mono (by decide)
  have hr_is_lot_of : Room 4 _ := hr.mono (by decide)
  have hr_is_wood : Room 2 _ := hr.mono (by decide)
  exact ⟨_, ws_is_grown K A, ⟨(pss_cons (ps_expr (pe_callD G_check_net hG hr_check_net rfl T.m_check_net T.F_check_net.kp T.B_check_net .nil (fun σ => passAt tk σ) (pa_cons (pv 0) pa_nil)))
      (pss_one (ps_ret (pe_andT (pe_callD G_is_lot_of hG hr_is_lot_of rfl T.m_is_lot_of T.F_is_lot_of.kp T.B_is_lot_of .nil (fun σ => passAt tk σ) (pa_cons (pv 0) (pa_cons (pv 1) pa_nil))) (pe_one (pe_callD G_is_wood hG hr_is_wood rfl T.m_is_wood T.F_is_wood.kp T.B_is_wood .nil (fun σ => passAt tk σ) (pa_cons (pv 0) (pa_cons (pv 1) (pa_cons (pe_lst (pa_cons (pe_fld (pv 0) rfl) pa_nil)) pa_nil))))))))),
    (ss_seq (ss_drop (se_call (fun F => Rps.nil) (sn_cons (se_var 0) sn_nil) (by simp)))
      (ss_ret (se_andT (se_call (fun F => Rps.nil) (sn_cons (se_var 0) (sn_cons (se_var 1) sn_nil)) (by simp)) (se_call (fun F => Rps.nil) (sn_cons (se_var 0) (sn_cons (se_var 1) (sn_cons (se_lst (sn_cons (se_fld T.l_Net T.n_Net_root (se_var 0)) sn_nil)) sn_nil))) (by simp)))))⟩, fun as Q E ha h => wp_is_grown T as Q E ha h⟩
theorem ok_is_tree (T : Txt K mg A) : My.OkG P w K mg base (L2.CX P w) 6 A.a_is_tree A.d_is_tree P_is_tree (lift w 2 (sp_is_tree K A)) := by
  have G_is_grown : My.OkG P w K mg base (L2.CX P w) 5 A.a_is_grown A.d_is_grown P_is_grown (lift w 2 (sp_is_grown K A)) := ok_is_grown T
  refine okF T.F_is_tree sc_is_tree (by decide) fun cdv AA out s H vs Q E hG hr => ?_
  have tk : Takes (cxOf (L2.CX P w) P w K mg base N_is_tree "is_tree" (defScope s_is_tree) A.a_is_tree cdv AA out s H E) (fun cls d _ H => E cls d H) := takes_of rfl rfl rfl rfl
  have hr_is_grown : Room 5 _ := hr.mono (by decide)
  exact ⟨_, ws_is_tree K A, ⟨(pss_one (ps_ret (pe_andT (pe_callD G_is_grown hG hr_is_grown rfl T.m_is_grown T.F_is_grown.kp T.B_is_grown .nil (fun σ => passAt tk σ) (pa_cons (pv 0) (pa_cons (pv 1) pa_nil))) (pe_one (pe_cmpR (op_eqAll (hu64 hr)) (pe_callB call_lenAll (by rfl) T.b_len (by decide +kernel) (pa_cons (pv 1) pa_nil)) (pe_op op_sub (pe_fld (pv 0) rfl) pe_int) (by rfl)))))),
    (ss_ret (se_andT (se_call (fun F => Rps.nil) (sn_cons (se_var 0) (sn_cons (se_var 1) sn_nil)) (by simp)) (se_op2 po_eq (se_cb pn_len (SAn.sa (sn_cons (se_var 1) sn_nil))) (se_op2 po_sub (se_fld T.l_Net T.n_Net_many (se_var 0)) (se_c (d := .int 1) fun F => rpInt)))))⟩, fun as Q E ha h => wp_is_tree T as Q E ha h⟩
theorem ok_are_apart (T : Txt K mg A) : My.OkG P w K mg base (L2.CX P w) 1 A.a_are_apart A.d_are_apart P_are_apart (lift w 1 (sp_are_apart K A)) := by
  refine okF T.F_are_apart sc_are_apart (by decide) fun cdv AA out s H vs Q E hG hr => ?_
  have tk : Takes (cxOf (L2.CX P w) P w K mg base N_are_apart "are_apart" (defScope s_are_apart) A.a_are_apart cdv AA out s H E) (fun cls d _ H => E cls d H) := takes_of rfl rfl rfl rfl
  exact ⟨_, ws_are_apart K A, ⟨(pss_cons (ps_set (i := 1) sc_are_apart.nd rfl (Or.inl rfl) (pe_lst pa_nil))
      (pss_cons (ps_for (passes_of rfl) rfl (pi_seq (pv 0)) (pg_name (i := 2) sc_are_apart.nd rfl (Or.inl rfl))
      (pss_one (ps_expr (pe_bm PySem.F.plainAttrs_list PySem.F.slot_list_extend PySem.F.type_list_extend mt_extS (pv 1) (pa_cons (pv 2) pa_nil)))))
      (pss_one (ps_ret (pe_cmpR (op_eqAll (hu64 hr)) (pe_callB call_lenAll (by rfl) T.b_len (by decide +kernel) (pa_cons (pe_callTy (My.cr_setL rfl) (by rfl) T.b_set (by decide +kernel) (pa_cons (pv 1) pa_nil)) pa_nil)) (pe_callB call_lenAll (by rfl) T.b_len (by decide +kernel) (pa_cons (pv 1) pa_nil)) (by rfl)))))),
    (ss_seq (ss_asg (se_lst sn_nil) (sg_name 1))
      (ss_seq (ss_forI (si_seq (se_var 0)) (sg_name 2) (ss_drop (se_mt mm_extend (se_var 1) (SAn.sa (sn_cons (se_var 2) sn_nil)))))
      (ss_ret (se_op2 po_eq (se_cb pn_len (SAn.sa (sn_cons (se_cb pn_set (SAn.sa (sn_cons (se_var 1) sn_nil))) sn_nil))) (se_cb pn_len (SAn.sa (sn_cons (se_var 1) sn_nil)))))))⟩, fun as Q E ha h => wp_are_apart T as Q E ha h⟩
theorem ok_is_packing (T : Txt K mg A) : My.OkG P w K mg base (L2.CX P w) 7 A.a_is_packing A.d_is_packing P_is_packing (lift w 2 (sp_is_packing K A)) := by
  have G_check_net : My.OkG P w K mg base (L2.CX P w) 1 A.a_check_net A.d_check_net P_check_net (lift w 1 (sp_check_net K A)) := ok_check_net T
  have G_is_tree : My.OkG P w K mg base (L2.CX P w) 6 A.a_is_tree A.d_is_tree P_is_tree (lift w 2 (sp_is_tree K A)) := ok_is_tree T
  have G_are_apart : My.OkG P w K mg base (L2.CX P w) 1 A.a_are_apart A.d_are_apart P_are_apart (lift w 1 (sp_are_apart K A)) := ok_are_apart T
  refine okF T.F_is_packing sc_is_packing (by decide) fun cdv AA out s H vs Q E hG hr => ?_
  have tk : Takes (cxOf (L2.CX P w) P w K mg base N_is_packing "is_packing" (defScope s_is_packing) A.a_is_packing cdv AA out s H E) (fun cls d _ H => E cls d H) := takes_of rfl rfl rfl rfl
  have hr_check_net : Room 1 _ := hr.mono (by decide)
  have hr_is_tree : Room 6 _ := hr.mono (by decide)
  have hr_are_apart : Room 1 _ := hr.mono (by decide)
  exact ⟨_, ws_is_packing K A, ⟨(pss_cons (ps_expr (pe_callD G_check_net hG hr_check_net rfl T.m_check_net T.F_check_net.kp T.B_check_net .nil (fun σ => passAt tk σ) (pa_cons (pv 0) pa_nil)))
      (pss_cons (ps_if (PW.pt (pw_or (pt_not (pt_val (pe_callB call_isi (by rfl) T.b_isinstance (by decide +kernel) (pa_cons (pv 1) (pa_cons (pe_bltn (by rfl) T.b_tuple (by decide +kernel) (show RelV (.ty "tuple") (.type "tuple") from rfl)) pa_nil))))) (pw_or1 (pt_not (pt_val (pe_callB (cr_all rfl) (by rfl) T.b_all (by decide +kernel) (pa_cons (pe_lc (own := [("tree", 2)]) (by rfl) sc_is_packing.nd (pi_seq (pv 1)) (blkOk_by (own := [("tree", 2)]) (N := N_is_packing) (sc := defScope s_is_packing) (by decide +kernel)) (fun _ _ _ _ _ => (pg_name (i := 2) sc_is_packing.nd rfl (Or.inl rfl))) (fun _ _ _ _ _ => pts_nil) (fun _ _ _ _ _ => (pe_callD G_is_tree hG hr_is_tree rfl T.m_is_tree T.F_is_tree.kp T.B_is_tree .nil (fun σ => passAt takes0 σ) (pa_cons (pv 0) (pa_cons (pv 2) pa_nil))))) pa_nil))))))) (pss_one (ps_ret pe_bl)) pss_nil)
      (pss_one (ps_ret (pe_callD G_are_apart hG hr_are_apart rfl T.m_are_apart T.F_are_apart.kp T.B_are_apart .nil (fun σ => passAt tk σ) (pa_cons (pv 1) pa_nil)))))),
    (ss_seq (ss_drop (se_call (fun F => Rps.nil) (sn_cons (se_var 0) sn_nil) (by simp)))
      (ss_seq (ss_if (st_or (st_not (st_tst (se_cb pn_isi (SAn.sa (sn_cons (se_var 1) (sn_cons (se_c (d := .ty "tuple") fun F => rpTy) sn_nil)))))) (st_not (st_tst (se_cb (pn_flags fun bs => bs.all id) (SAn.sa (sn_cons (se_lcI (own := [2]) (si_seq (se_var 1)) (sg_name 2) (by decide) st_any (se_call (fun F => Rps.nil) (sn_cons (se_var 0) (sn_cons (se_var 2) sn_nil)) (by simp))) sn_nil)))))) (ss_ret (se_c (d := .bl false) fun F => rpBl)) ss_next)
      (ss_ret (se_call (fun F => Rps.nil) (sn_cons (se_var 1) sn_nil) (by simp)))))⟩, fun as Q E ha h => wp_is_packing T as Q E ha h⟩
theorem ok__law_is (T : Txt K mg A) : My.OkG P w K mg base (L2.CX P w) 1 A.a__law_is A.d__law_is P__law_is (lift w 2 (sp__law_is K A)) := by
  refine okF T.F__law_is sc__law_is (by decide) fun cdv AA out s H vs Q E hG hr => ?_
  have tk : Takes (cxOf (L2.CX P w) P w K mg base N__law_is "_law_is" (defScope s__law_is) A.a__law_is cdv AA out s H E) (fun cls d _ H => E cls d H) := takes_of rfl rfl rfl rfl
  exact ⟨_, ws__law_is K A, ⟨(pss_one (ps_ret (pe_andT (pe_callB call_isi (by rfl) T.b_isinstance (by decide +kernel) (pa_cons (pv 0) (pa_cons (pe_bltn (by rfl) T.b_bool (by decide +kernel) (show RelV (.ty "bool") (.type "bool") from rfl)) pa_nil))) (pe_one (pe_cmpR (op_eqAll (hu64 hr)) (pv 0) (pv 1) (by rfl)))))),
    (ss_ret (se_andT (se_cb pn_isi (SAn.sa (sn_cons (se_var 0) (sn_cons (se_c (d := .ty "bool") fun F => rpTy) sn_nil)))) (se_op2 po_eq (se_var 0) (se_var 1))))⟩, fun as Q E ha h => wp__law_is T as Q E ha h⟩
theorem ok__law_mixed (T : Txt K mg A) : My.OkG P w K mg base (L2.CX P w) 1 A.a__law_mixed A.d__law_mixed P__law_mixed (lift w 2 (sp__law_mixed K A)) := by
  refine okF T.F__law_mixed sc__law_mixed (by decide) fun cdv AA out s H vs Q E hG hr => ?_
  have tk : Takes (cxOf (L2.CX P w) P w K mg base N__law_mixed "_law_mixed" (defScope s__law_mixed) A.a__law_mixed cdv AA out s H E) (fun cls d _ H => E cls d H) := takes_of rfl rfl rfl rfl
  exact ⟨_, ws__law_mixed K A, ⟨(pss_cons (ps_set (i := 2) sc__law_mixed.nd rfl (Or.inl rfl) (pe_op op_mod (pe_callTy call_int1 (by rfl) T.b_int (by decide +kernel) (pa_cons (pe_op op_mulAll (pe_op op_addAll (pe_op op_addAll (pe_op op_mod (pe_callTy call_int1 (by rfl) T.b_int (by decide +kernel) (pa_cons (pv 0) pa_nil)) pe_int) (pe_op op_mulAll pe_int (pv 1))) pe_int) pe_int) pa_nil)) pe_int))
      (pss_cons (ps_set (i := 2) sc__law_mixed.nd rfl (Or.inl rfl) (pe_op op_mod (pe_callTy call_int1 (by rfl) T.b_int (by decide +kernel) (pa_cons (pe_op op_mulAll (pv 2) (pe_op op_addAll (pe_op op_fdivW (pv 2) pe_int) pe_int)) pa_nil)) pe_int))
      (pss_one (ps_ret (pe_op op_fdivW (pe_op op_mod (pe_callTy call_int1 (by rfl) T.b_int (by decide +kernel) (pa_cons (pe_op op_mulAll (pv 2) (pe_op op_addAll (pe_op op_fdivW (pv 2) pe_int) pe_int)) pa_nil)) pe_int) pe_int))))),
    (ss_seq (ss_asg (se_op2 po_mod (se_cb pn_int (SAn.sa (sn_cons (se_op2 po_mul (se_op2 po_add (se_op2 po_add (se_op2 po_mod (se_cb pn_int (SAn.sa (sn_cons (se_var 0) sn_nil))) (se_c (d := .int 2147483647) fun F => rpInt)) (se_op2 po_mul (se_c (d := .int 7919) fun F => rpInt) (se_var 1))) (se_c (d := .int 1) fun F => rpInt)) (se_c (d := .int 48271) fun F => rpInt)) sn_nil))) (se_c (d := .int 2147483647) fun F => rpInt)) (sg_name 2))
      (ss_seq (ss_asg (se_op2 po_mod (se_cb pn_int (SAn.sa (sn_cons (se_op2 po_mul (se_var 2) (se_op2 po_add (se_op2 po_div (se_var 2) (se_c (d := .int 1009) fun F => rpInt)) (se_c (d := .int 69621) fun F => rpInt))) sn_nil))) (se_c (d := .int 2147483647) fun F => rpInt)) (sg_name 2))
      (ss_ret (se_op2 po_div (se_op2 po_mod (se_cb pn_int (SAn.sa (sn_cons (se_op2 po_mul (se_var 2) (se_op2 po_add (se_op2 po_div (se_var 2) (se_c (d := .int 2003) fun F => rpInt)) (se_c (d := .int 40692) fun F => rpInt))) sn_nil))) (se_c (d := .int 2147483399) fun F => rpInt)) (se_c (d := .int 16) fun F => rpInt)))))⟩, fun as Q E ha h => wp__law_mixed T as Q E ha h⟩
theorem ok__law_draw (T : Txt K mg A) : My.OkG P w K mg base (L2.CX P w) 2 A.a__law_draw A.d__law_draw P__law_draw (lift w 2 (sp__law_draw K A)) := by
  have G__law_mixed : My.OkG P w K mg base (L2.CX P w) 1 A.a__law_mixed A.d__law_mixed P__law_mixed (lift w 2 (sp__law_mixed K A)) := ok__law_mixed T
  refine okF T.F__law_draw sc__law_draw (by decide) fun cdv AA out s H vs Q E hG hr => ?_
  have tk : Takes (cxOf (L2.CX P w) P w K mg base N__law_draw "_law_draw" (defScope s__law_draw) A.a__law_draw cdv AA out s H E) (fun cls d _ H => E cls d H) := takes_of rfl rfl rfl rfl
  have hr__law_mixed : Room 1 _ := hr.mono (by decide)
  exact ⟨_, ws__law_draw K A, ⟨(pss_cons (ps_asg (pe_op op_addAll (pe_ix (ix_all (hu1 hr)) (pv 0) pe_int (fun _ _ => rfl)) pe_int) (pg_sub (pv 0) pe_int (set_all (hu1 hr))))
      (pss_cons (ps_if (pt_cmpR op_gt (pe_ix (ix_all (hu1 hr)) (pv 0) pe_int (fun _ _ => rfl)) pe_int (by rfl)) (pss_cons (ps_set (i := 2) sc__law_draw.nd rfl (Or.inl rfl) (pe_op op_mod (pe_callTy call_int1 (by rfl) T.b_int (by decide +kernel) (pa_cons (pe_ix (ix_all (hu1 hr)) (pv 0) pe_int (fun _ _ => rfl)) pa_nil)) (pv 1)))
      (pss_cons (ps_asg (pe_op op_fdivW (pe_ix (ix_all (hu1 hr)) (pv 0) pe_int (fun _ _ => rfl)) (pv 1)) (pg_sub (pv 0) pe_int (set_all (hu1 hr))))
      (pss_one (ps_ret (pv 2))))) pss_nil)
      (pss_cons (ps_par (by rfl) sc__law_draw.nd (i := 3) (j := 4) rfl rfl (by decide) rfl rfl (pa_cons (pe_ix (ix_all (hu1 hr)) (pv 0) pe_int (fun _ _ => rfl)) (pa_cons (pe_ix (ix_all (hu1 hr)) (pv 0) pe_int (fun _ _ => rfl)) pa_nil)) (by rfl))
      (pss_cons (ps_asg (pe_op op_addAll (pv 4) pe_int) (pg_sub (pv 0) pe_int (set_all (hu1 hr))))
      (pss_cons (ps_if (pt_cmpR (op_eqAll (hu64 hr)) (pe_callB call_lenAll (by rfl) T.b_len (by decide +kernel) (pa_cons (pv 3) pa_nil)) pe_int (by rfl)) (pss_one (ps_ret (pe_op op_mod (pe_callTy call_int1 (by rfl) T.b_int (by decide +kernel) (pa_cons (pe_callD G__law_mixed hG hr__law_mixed rfl T.m__law_mixed T.F__law_mixed.kp T.B__law_mixed .nil (fun σ => passAt tk σ) (pa_cons pe_int (pa_cons (pe_ix (ix_all (hu1 hr)) (pv 0) pe_int (fun _ _ => rfl)) pa_nil))) pa_nil)) (pv 1)))) pss_nil)
      (pss_cons (ps_set (i := 5) sc__law_draw.nd rfl (Or.inl rfl) (pe_ix (ix_all (hu1 hr)) (pv 3) (pe_op op_mod (pe_callTy call_int1 (by rfl) T.b_int (by decide +kernel) (pa_cons (pv 4) pa_nil)) (pe_callB call_lenAll (by rfl) T.b_len (by decide +kernel) (pa_cons (pv 3) pa_nil))) (fun _ _ => rfl)))
      (pss_cons (ps_if (PW.pt (pw_and (pt_cmpR (op_ltAll (hu0 hr)) (pv 4) (pe_callB call_lenAll (by rfl) T.b_len (by decide +kernel) (pa_cons (pv 3) pa_nil)) (by rfl)) (pw_and1 (pt_cmpR op_ge (pe_callB call_abs (by rfl) T.b_abs (by decide +kernel) (pa_cons (pv 5) pa_nil)) (pe_op op_pow pe_int pe_int) (by rfl))))) (pss_cons (ps_asg (pe_op op_fdivW (pe_callB call_abs (by rfl) T.b_abs (by decide +kernel) (pa_cons (pv 5) pa_nil)) (pv 1)) (pg_sub (pv 0) pe_int (set_all (hu1 hr))))
      (pss_one (ps_ret (pe_op op_mod (pe_callTy call_int1 (by rfl) T.b_int (by decide +kernel) (pa_cons (pe_callB call_abs (by rfl) T.b_abs (by decide +kernel) (pa_cons (pv 5) pa_nil)) pa_nil)) (pv 1))))) pss_nil)
      (pss_one (ps_ret (pe_op op_mod (pe_callTy call_int1 (by rfl) T.b_int (by decide +kernel) (pa_cons (pe_callD G__law_mixed hG hr__law_mixed rfl T.m__law_mixed T.F__law_mixed.kp T.B__law_mixed .nil (fun σ => passAt tk σ) (pa_cons (pv 5) (pa_cons (pe_ix (ix_all (hu1 hr)) (pv 0) pe_int (fun _ _ => rfl)) pa_nil))) pa_nil)) (pv 1))))))))))),
    (ss_seq (ss_asg (se_op2 po_add (se_op2 po_ix (se_var 0) (se_c (d := .int 3) fun F => rpInt)) (se_c (d := .int 1) fun F => rpInt)) (sg_sub (se_var 0) (se_c (d := .int 3) fun F => rpInt)))
      (ss_seq (ss_if (st_tst (se_op2 (po_cmp fun i j => decide (j < i)) (se_op2 po_ix (se_var 0) (se_c (d := .int 2) fun F => rpInt)) (se_c (d := .int 0) fun F => rpInt))) (ss_seq (ss_asg (se_op2 po_mod (se_cb pn_int (SAn.sa (sn_cons (se_op2 po_ix (se_var 0) (se_c (d := .int 2) fun F => rpInt)) sn_nil))) (se_var 1)) (sg_name 2))
      (ss_seq (ss_asg (se_op2 po_div (se_op2 po_ix (se_var 0) (se_c (d := .int 2) fun F => rpInt)) (se_var 1)) (sg_sub (se_var 0) (se_c (d := .int 2) fun F => rpInt)))
      (ss_ret (se_var 2)))) ss_next)
      (ss_seq (ss_par (by decide) (sn_cons (se_op2 po_ix (se_var 0) (se_c (d := .int 0) fun F => rpInt)) (sn_cons (se_op2 po_ix (se_var 0) (se_c (d := .int 1) fun F => rpInt)) sn_nil)))
      (ss_seq (ss_asg (se_op2 po_add (se_var 4) (se_c (d := .int 1) fun F => rpInt)) (sg_sub (se_var 0) (se_c (d := .int 1) fun F => rpInt)))
      (ss_seq (ss_if (st_tst (se_op2 po_eq (se_cb pn_len (SAn.sa (sn_cons (se_var 3) sn_nil))) (se_c (d := .int 0) fun F => rpInt))) (ss_ret (se_op2 po_mod (se_cb pn_int (SAn.sa (sn_cons (se_call (fun F => Rps.nil) (sn_cons (se_c (d := .int 0) fun F => rpInt) (sn_cons (se_op2 po_ix (se_var 0) (se_c (d := .int 3) fun F => rpInt)) sn_nil)) (by simp)) sn_nil))) (se_var 1))) ss_next)
      (ss_seq (ss_asg (se_op2 po_ix (se_var 3) (se_op2 po_mod (se_cb pn_int (SAn.sa (sn_cons (se_var 4) sn_nil))) (se_cb pn_len (SAn.sa (sn_cons (se_var 3) sn_nil))))) (sg_name 5))
      (ss_seq (ss_if (st_and (st_tst (se_op2 po_lt (se_var 4) (se_cb pn_len (SAn.sa (sn_cons (se_var 3) sn_nil))))) (st_tst (se_op2 (po_cmp fun i j => decide (j ≤ i)) (se_cb pn_abs (SAn.sa (sn_cons (se_var 5) sn_nil))) (se_op2 po_pow (se_c (d := .int 10) fun F => rpInt) (se_c (d := .int 18) fun F => rpInt))))) (ss_seq (ss_asg (se_op2 po_div (se_cb pn_abs (SAn.sa (sn_cons (se_var 5) sn_nil))) (se_var 1)) (sg_sub (se_var 0) (se_c (d := .int 2) fun F => rpInt)))
      (ss_ret (se_op2 po_mod (se_cb pn_int (SAn.sa (sn_cons (se_cb pn_abs (SAn.sa (sn_cons (se_var 5) sn_nil))) sn_nil))) (se_var 1)))) ss_next)
      (ss_ret (se_op2 po_mod (se_cb pn_int (SAn.sa (sn_cons (se_call (fun F => Rps.nil) (sn_cons (se_var 5) (sn_cons (se_op2 po_ix (se_var 0) (se_c (d := .int 3) fun F => rpInt)) sn_nil)) (by simp)) sn_nil))) (se_var 1))))))))))⟩, fun as Q E ha h => wp__law_draw T as Q E ha h⟩
theorem ok__law_shuffled (T : Txt K mg A) : My.OkG P w K mg base (L2.CX P w) 3 A.a__law_shuffled A.d__law_shuffled P__law_shuffled (lift w 2 (sp__law_shuffled K A)) := by
  have G__law_draw : My.OkG P w K mg base (L2.CX P w) 2 A.a__law_draw A.d__law_draw P__law_draw (lift w 2 (sp__law_draw K A)) := ok__law_draw T
  refine okF T.F__law_shuffled sc__law_shuffled (by decide) fun cdv AA out s H vs Q E hG hr => ?_
  have tk : Takes (cxOf (L2.CX P w) P w K mg base N__law_shuffled "_law_shuffled" (defScope s__law_shuffled) A.a__law_shuffled cdv AA out s H E) (fun cls d _ H => E cls d H) := takes_of rfl rfl rfl rfl
  have hr__law_draw : Room 2 _ := hr.mono (by decide)
  exact ⟨_, ws__law_shuffled K A, ⟨(pss_cons (ps_par (by rfl) sc__law_shuffled.nd (i := 2) (j := 3) rfl rfl (by decide) rfl rfl (pa_cons (pe_callTy call_list_of (by rfl) T.b_list (by decide +kernel) (pa_cons (pv 1) pa_nil)) (pa_cons (pe_lst pa_nil) pa_nil)) (by rfl))
      (pss_cons (ps_for (passes_of rfl) rfl (pi_range1 (by rfl) T.b_range (pa_cons (pe_callB call_lenAll (by rfl) T.b_len (by decide +kernel) (pa_cons (pv 1) pa_nil)) pa_nil)) (pg_name (i := 4) sc__law_shuffled.nd rfl (Or.inl rfl))
      (pss_one (ps_expr (pe_bm PySem.F.plainAttrs_list PySem.F.slot_list_append PySem.F.type_list_append mt_append (pv 3) (pa_cons (pe_bm PySem.F.plainAttrs_list PySem.F.slot_list_pop PySem.F.type_list_pop mt_popAt (pv 2) (pa_cons (pe_callD G__law_draw hG hr__law_draw rfl T.m__law_draw T.F__law_draw.kp T.B__law_draw .nil (fun σ => passAt tk σ) (pa_cons (pv 0) (pa_cons (pe_callB call_lenAll (by rfl) T.b_len (by decide +kernel) (pa_cons (pv 2) pa_nil)) pa_nil))) pa_nil)) pa_nil)))))
      (pss_one (ps_ret (pv 3))))),
    (ss_seq (ss_par (by decide) (sn_cons (se_cb pn_list (SAn.sa (sn_cons (se_var 1) sn_nil))) (sn_cons (se_lst sn_nil) sn_nil)))
      (ss_seq (ss_forI (si_ran1 (SAn.sa (sn_cons (se_cb pn_len (SAn.sa (sn_cons (se_var 1) sn_nil))) sn_nil))) (sg_name 4) (ss_drop (se_mt mm_append (se_var 3) (SAn.sa (sn_cons (se_mt mm_popAt (se_var 2) (SAn.sa (sn_cons (se_call (fun F => Rps.nil) (sn_cons (se_var 0) (sn_cons (se_cb pn_len (SAn.sa (sn_cons (se_var 2) sn_nil))) sn_nil)) (by simp)) sn_nil))) sn_nil)))))
      (ss_ret (se_var 3))))⟩, fun as Q E ha h => wp__law_shuffled T as Q E ha h⟩
theorem ok__law_some_tree (T : Txt K mg A) : My.OkG P w K mg base (L2.CX P w) 4 A.a__law_some_tree A.d__law_some_tree P__law_some_tree (lift w 3 (sp__law_some_tree K A)) := by
  have G__law_draw : My.OkG P w K mg base (L2.CX P w) 2 A.a__law_draw A.d__law_draw P__law_draw (lift w 2 (sp__law_draw K A)) := ok__law_draw T
  have G__law_shuffled : My.OkG P w K mg base (L2.CX P w) 3 A.a__law_shuffled A.d__law_shuffled P__law_shuffled (lift w 2 (sp__law_shuffled K A)) := ok__law_shuffled T
  refine okF T.F__law_some_tree sc__law_some_tree (by decide) fun cdv AA out s H vs Q E hG hr => ?_
  have tk : Takes (cxOf (L2.CX P w) P w K mg base N__law_some_tree "_law_some_tree" (defScope s__law_some_tree) A.a__law_some_tree cdv AA out s H E) (fun cls d _ H => E cls d H) := takes_of rfl rfl rfl rfl
  have hr__law_draw : Room 2 _ := hr.mono (by decide)
  have hr__law_shuffled : Room 3 _ := hr.mono (by decide)
  exact ⟨_, ws__law_some_tree K A, ⟨(pss_cons (ps_par3 (by rfl) sc__law_some_tree.nd (i := 3) (j := 4) (l := 5) rfl rfl rfl (by decide) (by decide) (by decide) rfl rfl rfl (pa_cons (pe_lst (pa_cons (pv 2) pa_nil)) (pa_cons (pe_lst pa_nil) (pa_cons (pe_cmpR (op_eqAll (hu64 hr)) (pe_callD G__law_draw hG hr__law_draw rfl T.m__law_draw T.F__law_draw.kp T.B__law_draw .nil (fun σ => passAt tk σ) (pa_cons (pv 0) (pa_cons pe_int pa_nil))) pe_int (by rfl)) pa_nil))) (by rfl))
      (pss_cons (ps_for (passes_of rfl) rfl (pi_seq (pe_callD G__law_shuffled hG hr__law_shuffled rfl T.m__law_shuffled T.F__law_shuffled.kp T.B__law_shuffled .nil (fun σ => passAt tk σ) (pa_cons (pv 0) (pa_cons (pe_lc (own := [("_law_place", 6)]) (by rfl) sc__law_some_tree.nd (pi_range1 (by rfl) T.b_range (pa_cons (pv 1) pa_nil)) (blkOk_by (own := [("_law_place", 6)]) (N := N__law_some_tree) (sc := defScope s__law_some_tree) (by decide +kernel)) (fun _ _ _ _ _ => (pg_name (i := 6) sc__law_some_tree.nd rfl (Or.inl rfl))) (fun _ _ _ _ _ => (pts_one (pt_cmpR (op_neAll (hu64 hr)) (pv 6) (pv 2) (by rfl)))) (fun _ _ _ _ _ => (pv 6))) pa_nil)))) (pg_name (i := 6) sc__law_some_tree.nd rfl (Or.inl rfl))
      (pss_cons (ps_set (i := 7) sc__law_some_tree.nd rfl (Or.inl rfl) (pe_ifExp (pt_val (pv 5)) (pe_ix (ix_all (hu1 hr)) (pv 3) (pe_un un_neg pe_int) (fun _ _ => rfl)) (pe_ix (ix_all (hu1 hr)) (pv 3) (pe_callD G__law_draw hG hr__law_draw rfl T.m__law_draw T.F__law_draw.kp T.B__law_draw .nil (fun σ => passAt tk σ) (pa_cons (pv 0) (pa_cons (pe_callB call_lenAll (by rfl) T.b_len (by decide +kernel) (pa_cons (pv 3) pa_nil)) pa_nil))) (fun _ _ => rfl))))
      (pss_cons (ps_expr (pe_bm PySem.F.plainAttrs_list PySem.F.slot_list_append PySem.F.type_list_append mt_append (pv 4) (pa_cons (pe_tup (pa_cons (pv 7) (pa_cons (pv 6) pa_nil))) pa_nil)))
      (pss_one (ps_expr (pe_bm PySem.F.plainAttrs_list PySem.F.slot_list_append PySem.F.type_list_append mt_append (pv 3) (pa_cons (pv 6) pa_nil)))))))
      (pss_one (ps_ret (pv 4))))),
    (ss_seq (ss_par3 (by decide) (by decide) (by decide) (sn_cons (se_lst (sn_cons (se_var 2) sn_nil)) (sn_cons (se_lst sn_nil) (sn_cons (se_op2 po_eq (se_call (fun F => Rps.nil) (sn_cons (se_var 0) (sn_cons (se_c (d := .int 4) fun F => rpInt) sn_nil)) (by simp)) (se_c (d := .int 0) fun F => rpInt)) sn_nil))))
      (ss_seq (ss_forI (si_seq (se_call (fun F => Rps.nil) (sn_cons (se_var 0) (sn_cons (se_lcI (own := [6]) (si_ran1 (SAn.sa (sn_cons (se_var 1) sn_nil))) (sg_name 6) (by decide) (st_tst (se_op2 po_ne (se_var 6) (se_var 2))) (se_var 6)) sn_nil)) (by simp))) (sg_name 6) (ss_seq (ss_asg (se_if (st_tst (se_var 5)) (se_op2 po_ix (se_var 3) (se_un po_neg (se_c (d := .int 1) fun F => rpInt))) (se_op2 po_ix (se_var 3) (se_call (fun F => Rps.nil) (sn_cons (se_var 0) (sn_cons (se_cb pn_len (SAn.sa (sn_cons (se_var 3) sn_nil))) sn_nil)) (by simp)))) (sg_name 7))
      (ss_seq (ss_drop (se_mt mm_append (se_var 4) (SAn.sa (sn_cons (se_tup (sn_cons (se_var 7) (sn_cons (se_var 6) sn_nil))) sn_nil))))
      (ss_drop (se_mt mm_append (se_var 3) (SAn.sa (sn_cons (se_var 6) sn_nil)))))))
      (ss_ret (se_var 4))))⟩, fun as Q E ha h => wp__law_some_tree T as Q E ha h⟩
theorem ok__law_some_links (T : Txt K mg A) : My.OkG P w K mg base (L2.CX P w) 3 A.a__law_some_links A.d__law_some_links P__law_some_links (lift w 3 (sp__law_some_links K A)) := by
  have G__law_draw : My.OkG P w K mg base (L2.CX P w) 2 A.a__law_draw A.d__law_draw P__law_draw (lift w 2 (sp__law_draw K A)) := ok__law_draw T
  refine okF T.F__law_some_links sc__law_some_links (by decide) fun cdv AA out s H vs Q E hG hr => ?_
  have tk : Takes (cxOf (L2.CX P w) P w K mg base N__law_some_links "_law_some_links" (defScope s__law_some_links) A.a__law_some_links cdv AA out s H E) (fun cls d _ H => E cls d H) := takes_of rfl rfl rfl rfl
  have hr__law_draw : Room 2 _ := hr.mono (by decide)
  exact ⟨_, ws__law_some_links K A, ⟨(pss_cons (ps_set (i := 3) sc__law_some_links.nd rfl (Or.inl rfl) (pe_lst pa_nil))
      (pss_cons (ps_for (passes_of rfl) rfl (pi_range1 (by rfl) T.b_range (pa_cons (pe_callD G__law_draw hG hr__law_draw rfl T.m__law_draw T.F__law_draw.kp T.B__law_draw .nil (fun σ => passAt tk σ) (pa_cons (pv 0) (pa_cons (pe_op op_addAll (pv 2) pe_int) pa_nil))) pa_nil)) (pg_name (i := 4) sc__law_some_links.nd rfl (Or.inl rfl))
      (pss_cons (ps_set (i := 5) sc__law_some_links.nd rfl (Or.inl rfl) (pe_callD G__law_draw hG hr__law_draw rfl T.m__law_draw T.F__law_draw.kp T.B__law_draw .nil (fun σ => passAt tk σ) (pa_cons (pv 0) (pa_cons (pv 1) pa_nil))))
      (pss_cons (ps_set (i := 6) sc__law_some_links.nd rfl (Or.inl rfl) (pe_tup (pa_cons (pv 5) (pa_cons (pe_op op_mod (pe_callTy call_int1 (by rfl) T.b_int (by decide +kernel) (pa_cons (pe_op op_addAll (pe_op op_addAll (pv 5) pe_int) (pe_callD G__law_draw hG hr__law_draw rfl T.m__law_draw T.F__law_draw.kp T.B__law_draw .nil (fun σ => passAt tk σ) (pa_cons (pv 0) (pa_cons (pe_op op_sub (pv 1) pe_int) pa_nil)))) pa_nil)) (pv 1)) pa_nil))))
      (pss_cons (ps_if (PW.pt (pw_and (pt_cmpR op_gt (pe_callB call_lenAll (by rfl) T.b_len (by decide +kernel) (pa_cons (pv 3) pa_nil)) pe_int (by rfl)) (pw_and1 (pt_cmpR (op_eqAll (hu64 hr)) (pe_callD G__law_draw hG hr__law_draw rfl T.m__law_draw T.F__law_draw.kp T.B__law_draw .nil (fun σ => passAt tk σ) (pa_cons (pv 0) (pa_cons pe_int pa_nil))) pe_int (by rfl))))) (pss_one (ps_set (i := 6) sc__law_some_links.nd rfl (Or.inl rfl) (pe_ix (ix_all (hu1 hr)) (pv 3) (pe_callD G__law_draw hG hr__law_draw rfl T.m__law_draw T.F__law_draw.kp T.B__law_draw .nil (fun σ => passAt tk σ) (pa_cons (pv 0) (pa_cons (pe_callB call_lenAll (by rfl) T.b_len (by decide +kernel) (pa_cons (pv 3) pa_nil)) pa_nil))) (fun _ _ => rfl)))) pss_nil)
      (pss_one (ps_expr (pe_bm PySem.F.plainAttrs_list PySem.F.slot_list_append PySem.F.type_list_append mt_append (pv 3) (pa_cons (pv 6) pa_nil))))))))
      (pss_one (ps_ret (pv 3))))),
    (ss_seq (ss_asg (se_lst sn_nil) (sg_name 3))
      (ss_seq (ss_forI (si_ran1 (SAn.sa (sn_cons (se_call (fun F => Rps.nil) (sn_cons (se_var 0) (sn_cons (se_op2 po_add (se_var 2) (se_c (d := .int 1) fun F => rpInt)) sn_nil)) (by simp)) sn_nil))) (sg_name 4) (ss_seq (ss_asg (se_call (fun F => Rps.nil) (sn_cons (se_var 0) (sn_cons (se_var 1) sn_nil)) (by simp)) (sg_name 5))
      (ss_seq (ss_asg (se_tup (sn_cons (se_var 5) (sn_cons (se_op2 po_mod (se_cb pn_int (SAn.sa (sn_cons (se_op2 po_add (se_op2 po_add (se_var 5) (se_c (d := .int 1) fun F => rpInt)) (se_call (fun F => Rps.nil) (sn_cons (se_var 0) (sn_cons (se_op2 po_sub (se_var 1) (se_c (d := .int 1) fun F => rpInt)) sn_nil)) (by simp))) sn_nil))) (se_var 1)) sn_nil))) (sg_name 6))
      (ss_seq (ss_if (st_and (st_tst (se_op2 (po_cmp fun i j => decide (j < i)) (se_cb pn_len (SAn.sa (sn_cons (se_var 3) sn_nil))) (se_c (d := .int 0) fun F => rpInt))) (st_tst (se_op2 po_eq (se_call (fun F => Rps.nil) (sn_cons (se_var 0) (sn_cons (se_c (d := .int 6) fun F => rpInt) sn_nil)) (by simp)) (se_c (d := .int 0) fun F => rpInt)))) (ss_asg (se_op2 po_ix (se_var 3) (se_call (fun F => Rps.nil) (sn_cons (se_var 0) (sn_cons (se_cb pn_len (SAn.sa (sn_cons (se_var 3) sn_nil))) sn_nil)) (by simp))) (sg_name 6)) ss_next)
      (ss_drop (se_mt mm_append (se_var 3) (SAn.sa (sn_cons (se_var 6) sn_nil))))))))
      (ss_ret (se_var 3))))⟩, fun as Q E ha h => wp__law_some_links T as Q E ha h⟩
theorem ok__law_parts_of (T : Txt K mg A) : My.OkG P w K mg base (L2.CX P w) 5 A.a__law_parts_of A.d__law_parts_of P__law_parts_of (lift w 1 (sp__law_parts_of K A)) := by
  have G__law_draw : My.OkG P w K mg base (L2.CX P w) 2 A.a__law_draw A.d__law_draw P__law_draw (lift w 2 (sp__law_draw K A)) := ok__law_draw T
  have G__law_shuffled : My.OkG P w K mg base (L2.CX P w) 3 A.a__law_shuffled A.d__law_shuffled P__law_shuffled (lift w 2 (sp__law_shuffled K A)) := ok__law_shuffled T
  have G__law_some_tree : My.OkG P w K mg base (L2.CX P w) 4 A.a__law_some_tree A.d__law_some_tree P__law_some_tree (lift w 3 (sp__law_some_tree K A)) := ok__law_some_tree T
  have G__law_some_links : My.OkG P w K mg base (L2.CX P w) 3 A.a__law_some_links A.d__law_some_links P__law_some_links (lift w 3 (sp__law_some_links K A)) := ok__law_some_links T
  refine okF T.F__law_parts_of sc__law_parts_of (by decide) fun cdv AA out s H vs Q E hG hr => ?_
  have tk : Takes (cxOf (L2.CX P w) P w K mg base N__law_parts_of "_law_parts_of" (defScope s__law_parts_of) A.a__law_parts_of cdv AA out s H E) (fun cls d _ H => E cls d H) := takes_of rfl rfl rfl rfl
  have hr__law_draw : Room 2 _ := hr.mono (by decide)
  have hr__law_shuffled : Room 3 _ := hr.mono (by decide)
  have hr__law_some_tree : Room 4 _ := hr.mono (by decide)
  have hr__law_some_links : Room 3 _ := hr.mono (by decide)
  exact ⟨_, ws__law_parts_of K A, ⟨(pss_cons (ps_set (i := 1) sc__law_parts_of.nd rfl (Or.inl rfl) (pe_ix (ix_all (hu1 hr)) (pe_lst (pa_cons pe_int (pa_cons pe_int (pa_cons pe_int (pa_cons pe_int (pa_cons pe_int (pa_cons pe_int (pa_cons pe_int (pa_cons pe_int (pa_cons pe_int (pa_cons pe_int (pa_cons pe_int (pa_cons pe_int pa_nil))))))))))))) (pe_callD G__law_draw hG hr__law_draw rfl T.m__law_draw T.F__law_draw.kp T.B__law_draw .nil (fun σ => passAt tk σ) (pa_cons (pv 0) (pa_cons pe_int pa_nil))) (fun _ _ => rfl)))
      (pss_cons (ps_par (by rfl) sc__law_parts_of.nd (i := 2) (j := 3) rfl rfl (by decide) rfl rfl (pa_cons (pe_callD G__law_draw hG hr__law_draw rfl T.m__law_draw T.F__law_draw.kp T.B__law_draw .nil (fun σ => passAt tk σ) (pa_cons (pv 0) (pa_cons (pv 1) pa_nil))) (pa_cons (pe_callD G__law_draw hG hr__law_draw rfl T.m__law_draw T.F__law_draw.kp T.B__law_draw .nil (fun σ => passAt tk σ) (pa_cons (pv 0) (pa_cons pe_int pa_nil))) pa_nil)) (by rfl))
      (pss_cons (ps_set (i := 4) sc__law_parts_of.nd rfl (Or.inl rfl) (pe_lst pa_nil))
      (pss_cons (ps_if (pt_cmpR op_gt (pv 3) pe_int (by rfl)) (pss_one (ps_for (passes_of rfl) rfl (pi_range1 (by rfl) T.b_range (pa_cons (pe_op op_addAll pe_int (pe_callD G__law_draw hG hr__law_draw rfl T.m__law_draw T.F__law_draw.kp T.B__law_draw .nil (fun σ => passAt tk σ) (pa_cons (pv 0) (pa_cons (pe_callB (call_max2 rfl) (by rfl) T.b_max (by decide +kernel) (pa_cons pe_int (pa_cons (pe_op op_fdivW pe_int (pv 1)) pa_nil))) pa_nil)))) pa_nil)) (pg_name (i := 5) sc__law_parts_of.nd rfl (Or.inl rfl))
      (pss_one (ps_if (pt_cmpR op_le (pe_op op_addAll (pe_callB call_lenAll (by rfl) T.b_len (by decide +kernel) (pa_cons (pv 4) pa_nil)) (pv 1)) pe_int (by rfl)) (pss_one (ps_set (i := 4) sc__law_parts_of.nd rfl (Or.inl rfl) (pe_op op_addAll (pv 4) (pe_callD G__law_some_tree hG hr__law_some_tree rfl T.m__law_some_tree T.F__law_some_tree.kp T.B__law_some_tree .nil (fun σ => passAt tk σ) (pa_cons (pv 0) (pa_cons (pv 1) (pa_cons (pv 2) pa_nil))))))) pss_nil)))) pss_nil)
      (pss_cons (ps_set (i := 4) sc__law_parts_of.nd rfl (Or.inl rfl) (pe_op op_addAll (pv 4) (pe_callD G__law_some_links hG hr__law_some_links rfl T.m__law_some_links T.F__law_some_links.kp T.B__law_some_links .nil (fun σ => passAt tk σ) (pa_cons (pv 0) (pa_cons (pv 1) (pa_cons (pe_ix (ix_all (hu1 hr)) (pe_lst (pa_cons pe_int (pa_cons pe_int pa_nil))) (pe_callTy call_int1 (by rfl) T.b_int (by decide +kernel) (pa_cons (pe_cmpR (op_eqAll (hu64 hr)) (pv 3) pe_int (by rfl)) pa_nil)) (fun _ _ => rfl)) pa_nil))))))
      (pss_cons (ps_set (i := 4) sc__law_parts_of.nd rfl (Or.inl rfl) (pe_slice sl_all (pe_callD G__law_shuffled hG hr__law_shuffled rfl T.m__law_shuffled T.F__law_shuffled.kp T.B__law_shuffled .nil (fun σ => passAt tk σ) (pa_cons (pv 0) (pa_cons (pv 4) pa_nil))) po_none (po_some pe_int)))
      (pss_cons (ps_for (passes_of rfl) rfl (pi_range1 (by rfl) T.b_range (pa_cons (pe_callD G__law_draw hG hr__law_draw rfl T.m__law_draw T.F__law_draw.kp T.B__law_draw .nil (fun σ => passAt tk σ) (pa_cons (pv 0) (pa_cons pe_int pa_nil))) pa_nil)) (pg_name (i := 5) sc__law_parts_of.nd rfl (Or.inl rfl))
      (pss_one (ps_if (PW.pt (pw_and (pt_cmpR op_gt (pe_callB call_lenAll (by rfl) T.b_len (by decide +kernel) (pa_cons (pv 4) pa_nil)) pe_int (by rfl)) (pw_and1 (pt_cmpR (op_eqAll (hu64 hr)) (pv 3) pe_int (by rfl))))) (pss_one (ps_expr (pe_bm PySem.F.plainAttrs_list PySem.F.slot_list_pop PySem.F.type_list_pop mt_popAt (pv 4) (pa_cons (pe_callD G__law_draw hG hr__law_draw rfl T.m__law_draw T.F__law_draw.kp T.B__law_draw .nil (fun σ => passAt tk σ) (pa_cons (pv 0) (pa_cons (pe_callB call_lenAll (by rfl) T.b_len (by decide +kernel) (pa_cons (pv 4) pa_nil)) pa_nil))) pa_nil)))) pss_nil)))
      (pss_one (ps_ret (pe_tup (pa_cons (pv 1) (pa_cons (pv 2) (pa_cons (pe_callTy call_tuple_of (by rfl) T.b_tuple (by decide +kernel) (pa_cons (pv 4) pa_nil)) pa_nil))))))))))))),
    (ss_seq (ss_asg (se_op2 po_ix (se_lst (sn_cons (se_c (d := .int 2) fun F => rpInt) (sn_cons (se_c (d := .int 3) fun F => rpInt) (sn_cons (se_c (d := .int 3) fun F => rpInt) (sn_cons (se_c (d := .int 4) fun F => rpInt) (sn_cons (se_c (d := .int 4) fun F => rpInt) (sn_cons (se_c (d := .int 5) fun F => rpInt) (sn_cons (se_c (d := .int 5) fun F => rpInt) (sn_cons (se_c (d := .int 6) fun F => rpInt) (sn_cons (se_c (d := .int 7) fun F => rpInt) (sn_cons (se_c (d := .int 8) fun F => rpInt) (sn_cons (se_c (d := .int 9) fun F => rpInt) (sn_cons (se_c (d := .int 10) fun F => rpInt) sn_nil))))))))))))) (se_call (fun F => Rps.nil) (sn_cons (se_var 0) (sn_cons (se_c (d := .int 12) fun F => rpInt) sn_nil)) (by simp))) (sg_name 1))
      (ss_seq (ss_par (by decide) (sn_cons (se_call (fun F => Rps.nil) (sn_cons (se_var 0) (sn_cons (se_var 1) sn_nil)) (by simp)) (sn_cons (se_call (fun F => Rps.nil) (sn_cons (se_var 0) (sn_cons (se_c (d := .int 4) fun F => rpInt) sn_nil)) (by simp)) sn_nil)))
      (ss_seq (ss_asg (se_lst sn_nil) (sg_name 4))
      (ss_cut (ss_if (st_tst (se_op2 (po_cmp fun i j => decide (j < i)) (se_var 3) (se_c (d := .int 0) fun F => rpInt))) (ss_forI (si_ran1 (SAn.sa (sn_cons (se_op2 po_add (se_c (d := .int 1) fun F => rpInt) (se_call (fun F => Rps.nil) (sn_cons (se_var 0) (sn_cons (se_cb pn_max2 (SAn.sa (sn_cons (se_c (d := .int 1) fun F => rpInt) (sn_cons (se_op2 po_div (se_c (d := .int 50) fun F => rpInt) (se_var 1)) sn_nil)))) sn_nil)) (by simp))) sn_nil))) (sg_name 5) (ss_if (st_tst (se_op2 (po_cmp fun i j => decide (i ≤ j)) (se_op2 po_add (se_cb pn_len (SAn.sa (sn_cons (se_var 4) sn_nil))) (se_var 1)) (se_c (d := .int 52) fun F => rpInt))) (ss_asg (se_op2 po_add (se_var 4) (se_call (fun F => Rps.nil) (sn_cons (se_var 0) (sn_cons (se_var 1) (sn_cons (se_var 2) sn_nil))) (by simp))) (sg_name 4)) ss_next)) ss_next)
      (ss_seq (ss_asg (se_op2 po_add (se_var 4) (se_call (fun F => Rps.nil) (sn_cons (se_var 0) (sn_cons (se_var 1) (sn_cons (se_op2 po_ix (se_lst (sn_cons (se_c (d := .int 8) fun F => rpInt) (sn_cons (se_c (d := .int 60) fun F => rpInt) sn_nil))) (se_cb pn_int (SAn.sa (sn_cons (se_op2 po_eq (se_var 3) (se_c (d := .int 0) fun F => rpInt)) sn_nil)))) sn_nil))) (by simp))) (sg_name 4))
      (ss_seq (ss_asg (se_sl (se_call (fun F => Rps.nil) (sn_cons (se_var 0) (sn_cons (se_var 4) sn_nil)) (by simp)) so_none (so_part (se_c (d := .int 60) fun F => rpInt))) (sg_name 4))
      (ss_seq (ss_forI (si_ran1 (SAn.sa (sn_cons (se_call (fun F => Rps.nil) (sn_cons (se_var 0) (sn_cons (se_c (d := .int 3) fun F => rpInt) sn_nil)) (by simp)) sn_nil))) (sg_name 5) (ss_if (st_and (st_tst (se_op2 (po_cmp fun i j => decide (j < i)) (se_cb pn_len (SAn.sa (sn_cons (se_var 4) sn_nil))) (se_c (d := .int 0) fun F => rpInt))) (st_tst (se_op2 po_eq (se_var 3) (se_c (d := .int 1) fun F => rpInt)))) (ss_drop (se_mt mm_popAt (se_var 4) (SAn.sa (sn_cons (se_call (fun F => Rps.nil) (sn_cons (se_var 0) (sn_cons (se_cb pn_len (SAn.sa (sn_cons (se_var 4) sn_nil))) sn_nil)) (by simp)) sn_nil)))) ss_next))
      (ss_ret (se_tup (sn_cons (se_var 1) (sn_cons (se_var 2) (sn_cons (se_cb pn_tuple (SAn.sa (sn_cons (se_var 4) sn_nil))) sn_nil))))))))))))⟩, fun as Q E ha h => wp__law_parts_of T as Q E ha h⟩
theorem ok__law_is_int (T : Txt K mg A) : My.OkG P w K mg base (L2.CX P w) 1 A.a__law_is_int A.d__law_is_int P__law_is_int (lift w 3 (sp__law_is_int K A)) := by
  refine okF T.F__law_is_int sc__law_is_int (by decide) fun cdv AA out s H vs Q E hG hr => ?_
  have tk : Takes (cxOf (L2.CX P w) P w K mg base N__law_is_int "_law_is_int" (defScope s__law_is_int) A.a__law_is_int cdv AA out s H E) (fun cls d _ H => E cls d H) := takes_of rfl rfl rfl rfl
  exact ⟨_, ws__law_is_int K A, ⟨(pss_one (ps_ret (pe_andT (pe_callB call_isi (by rfl) T.b_isinstance (by decide +kernel) (pa_cons (pv 0) (pa_cons (pe_bltn (by rfl) T.b_int (by decide +kernel) (show RelV (.ty "int") (.type "int") from rfl)) pa_nil))) (pe_andT (pe_notT (pe_callB call_isi (by rfl) T.b_isinstance (by decide +kernel) (pa_cons (pv 0) (pa_cons (pe_bltn (by rfl) T.b_bool (by decide +kernel) (show RelV (.ty "bool") (.type "bool") from rfl)) pa_nil)))) (pe_one (pe_chain op_le op_le (pv 1) (pv 0) (pv 2) (by rfl))))))),
    (ss_ret (se_andT (se_cb pn_isi (SAn.sa (sn_cons (se_var 0) (sn_cons (se_c (d := .ty "int") fun F => rpTy) sn_nil)))) (se_andT (se_notT (se_cb pn_isi (SAn.sa (sn_cons (se_var 0) (sn_cons (se_c (d := .ty "bool") fun F => rpTy) sn_nil))))) (se_ch (po_cmp fun i j => decide (i ≤ j)) (po_cmp fun i j => decide (i ≤ j)) (se_var 1) (se_var 0) (se_var 2)))))⟩, fun as Q E ha h => wp__law_is_int T as Q E ha h⟩
theorem ok__law_is_lot (T : Txt K mg A) : My.OkG P w K mg base (L2.CX P w) 2 A.a__law_is_lot A.d__law_is_lot P__law_is_lot (lift w 2 (sp__law_is_lot K A)) := by
  have G__law_is_int : My.OkG P w K mg base (L2.CX P w) 1 A.a__law_is_int A.d__law_is_int P__law_is_int (lift w 3 (sp__law_is_int K A)) := ok__law_is_int T
  refine okF T.F__law_is_lot sc__law_is_lot (by decide) fun cdv AA out s H vs Q E hG hr => ?_
  have tk : Takes (cxOf (L2.CX P w) P w K mg base N__law_is_lot "_law_is_lot" (defScope s__law_is_lot) A.a__law_is_lot cdv AA out s H E) (fun cls d _ H => E cls d H) := takes_of rfl rfl rfl rfl
  have hr__law_is_int : Room 1 _ := hr.mono (by decide)
  exact ⟨_, ws__law_is_lot K A, ⟨(pss_cons (ps_if (pt_not (pt_val (pe_callB call_isi (by rfl) T.b_isinstance (by decide +kernel) (pa_cons (pv 0) (pa_cons (pe_bltn (by rfl) T.b_tuple (by decide +kernel) (show RelV (.ty "tuple") (.type "tuple") from rfl)) pa_nil))))) (pss_one (ps_ret pe_bl)) pss_nil)
      (pss_cons (ps_set (i := 2) sc__law_is_lot.nd rfl (Or.inl rfl) (pe_un un_neg pe_int))
      (pss_cons (ps_for (passes_of rfl) rfl (pi_seq (pv 0)) (pg_name (i := 3) sc__law_is_lot.nd rfl (Or.inl rfl))
      (pss_cons (ps_if (pt_not (pt_val (pe_callD G__law_is_int hG hr__law_is_int rfl T.m__law_is_int T.F__law_is_int.kp T.B__law_is_int .nil (fun σ => passAt tk σ) (pa_cons (pv 3) (pa_cons (pe_op op_addAll (pv 2) pe_int) (pa_cons (pe_op op_sub (pv 1) pe_int) pa_nil)))))) (pss_one (ps_ret pe_bl)) pss_nil)
      (pss_one (ps_set (i := 2) sc__law_is_lot.nd rfl (Or.inl rfl) (pv 3)))))
      (pss_one (ps_ret pe_bl))))),
    (ss_seq (ss_if (st_not (st_tst (se_cb pn_isi (SAn.sa (sn_cons (se_var 0) (sn_cons (se_c (d := .ty "tuple") fun F => rpTy) sn_nil)))))) (ss_ret (se_c (d := .bl false) fun F => rpBl)) ss_next)
      (ss_seq (ss_asg (se_un po_neg (se_c (d := .int 1) fun F => rpInt)) (sg_name 2))
      (ss_seq (ss_forI (si_seq (se_var 0)) (sg_name 3) (ss_seq (ss_if (st_not (st_tst (se_call (fun F => Rps.nil) (sn_cons (se_var 3) (sn_cons (se_op2 po_add (se_var 2) (se_c (d := .int 1) fun F => rpInt)) (sn_cons (se_op2 po_sub (se_var 1) (se_c (d := .int 1) fun F => rpInt)) sn_nil))) (by simp)))) (ss_ret (se_c (d := .bl false) fun F => rpBl)) ss_next)
      (ss_asg (se_var 3) (sg_name 2))))
      (ss_ret (se_c (d := .bl true) fun F => rpBl)))))⟩, fun as Q E ha h => wp__law_is_lot T as Q E ha h⟩
theorem ok__law_is_wood (T : Txt K mg A) : My.OkG P w K mg base (L2.CX P w) 3 A.a__law_is_wood A.d__law_is_wood P__law_is_wood (lift w 3 (sp__law_is_wood K A)) := by
  have G__law_is_lot : My.OkG P w K mg base (L2.CX P w) 2 A.a__law_is_lot A.d__law_is_lot P__law_is_lot (lift w 2 (sp__law_is_lot K A)) := ok__law_is_lot T
  refine okF T.F__law_is_wood sc__law_is_wood (by decide) fun cdv AA out s H vs Q E hG hr => ?_
  have tk : Takes (cxOf (L2.CX P w) P w K mg base N__law_is_wood "_law_is_wood" (defScope s__law_is_wood) A.a__law_is_wood cdv AA out s H E) (fun cls d _ H => E cls d H) := takes_of rfl rfl rfl rfl
  have hr__law_is_lot : Room 2 _ := hr.mono (by decide)
  exact ⟨_, ws__law_is_wood K A, ⟨(pss_cons (ps_par (by rfl) sc__law_is_wood.nd (i := 3) (j := 4) rfl rfl (by decide) rfl rfl (pa_cons (pe_ix (ix_all (hu1 hr)) (pv 0) pe_int (fun _ _ => rfl)) (pa_cons (pe_ix (ix_all (hu1 hr)) (pv 0) pe_int (fun _ _ => rfl)) pa_nil)) (by rfl))
      (pss_cons (ps_if (PW.pt (pw_or (pt_not (pt_val (pe_callD G__law_is_lot hG hr__law_is_lot rfl T.m__law_is_lot T.F__law_is_lot.kp T.B__law_is_lot .nil (fun σ => passAt tk σ) (pa_cons (pv 2) (pa_cons (pe_callB call_lenAll (by rfl) T.b_len (by decide +kernel) (pa_cons (pv 4) pa_nil)) pa_nil))))) (pw_or1 (pt_cmpR (op_neAll (hu64 hr)) (pe_callB call_lenAll (by rfl) T.b_len (by decide +kernel) (pa_cons (pv 2) pa_nil)) (pe_op op_sub (pv 3) (pe_callB call_lenAll (by rfl) T.b_len (by decide +kernel) (pa_cons (pv 1) pa_nil))) (by rfl))))) (pss_one (ps_ret pe_bl)) pss_nil)
      (pss_cons (ps_set (i := 5) sc__law_is_wood.nd rfl (Or.inl rfl) pe_dnewK)
      (pss_cons (ps_for (passes_of rfl) rfl (pi_seq (pv 2)) (pg_name (i := 6) sc__law_is_wood.nd rfl (Or.inl rfl))
      (pss_cons (ps_if (PW.pt (pw_or (pt_cmpR (op_inAll (hu65 hr)) (pe_ix (ix_all (hu1 hr)) (pe_ix (ix_all (hu1 hr)) (pv 4) (pv 6) (fun _ _ => rfl)) pe_int (fun _ _ => rfl)) (pv 5) (by rfl)) (pw_or1 (pt_cmpR (op_inAll (hu65 hr)) (pe_ix (ix_all (hu1 hr)) (pe_ix (ix_all (hu1 hr)) (pv 4) (pv 6) (fun _ _ => rfl)) pe_int (fun _ _ => rfl)) (pv 1) (by rfl))))) (pss_one (ps_ret pe_bl)) pss_nil)
      (pss_one (ps_asg (pe_ix (ix_all (hu1 hr)) (pe_ix (ix_all (hu1 hr)) (pv 4) (pv 6) (fun _ _ => rfl)) pe_int (fun _ _ => rfl)) (pg_sub (pv 5) (pe_ix (ix_all (hu1 hr)) (pe_ix (ix_all (hu1 hr)) (pv 4) (pv 6) (fun _ _ => rfl)) pe_int (fun _ _ => rfl)) (set_all (hu1 hr)))))))
      (pss_cons (ps_for (passes_of rfl) rfl (pi_range1 (by rfl) T.b_range (pa_cons (pv 3) pa_nil)) (pg_name (i := 7) sc__law_is_wood.nd rfl (Or.inl rfl))
      (pss_cons (ps_set (i := 8) sc__law_is_wood.nd rfl (Or.inl rfl) (pv 7))
      (pss_cons (ps_for (passes_of rfl) rfl (pi_range1 (by rfl) T.b_range (pa_cons (pv 3) pa_nil)) (pg_name (i := 9) sc__law_is_wood.nd rfl (Or.inl rfl))
      (pss_one (ps_set (i := 8) sc__law_is_wood.nd rfl (Or.inl rfl) (pe_dget2 (hu1 hr) (pv 5) (pv 8) (pv 8) ⟨rfl, by rfl, by rfl, by rfl⟩))))
      (pss_one (ps_if (pt_cmpR (op_niAll (hu65 hr)) (pv 8) (pv 1) (by rfl)) (pss_one (ps_ret pe_bl)) pss_nil)))))
      (pss_one (ps_ret pe_bl))))))),
    (ss_seq (ss_par (by decide) (sn_cons (se_op2 po_ix (se_var 0) (se_c (d := .int 0) fun F => rpInt)) (sn_cons (se_op2 po_ix (se_var 0) (se_c (d := .int 2) fun F => rpInt)) sn_nil)))
      (ss_seq (ss_if (st_or (st_not (st_tst (se_call (fun F => Rps.nil) (sn_cons (se_var 2) (sn_cons (se_cb pn_len (SAn.sa (sn_cons (se_var 4) sn_nil))) sn_nil)) (by simp)))) (st_tst (se_op2 po_ne (se_cb pn_len (SAn.sa (sn_cons (se_var 2) sn_nil))) (se_op2 po_sub (se_var 3) (se_cb pn_len (SAn.sa (sn_cons (se_var 1) sn_nil))))))) (ss_ret (se_c (d := .bl false) fun F => rpBl)) ss_next)
      (ss_seq (ss_asg se_dicK (sg_name 5))
      (ss_seq (ss_forI (si_seq (se_var 2)) (sg_name 6) (ss_seq (ss_if (st_or (st_tst (se_op2 po_in (se_op2 po_ix (se_op2 po_ix (se_var 4) (se_var 6)) (se_c (d := .int 1) fun F => rpInt)) (se_var 5))) (st_tst (se_op2 po_in (se_op2 po_ix (se_op2 po_ix (se_var 4) (se_var 6)) (se_c (d := .int 1) fun F => rpInt)) (se_var 1)))) (ss_ret (se_c (d := .bl false) fun F => rpBl)) ss_next)
      (ss_asg (se_op2 po_ix (se_op2 po_ix (se_var 4) (se_var 6)) (se_c (d := .int 0) fun F => rpInt)) (sg_sub (se_var 5) (se_op2 po_ix (se_op2 po_ix (se_var 4) (se_var 6)) (se_c (d := .int 1) fun F => rpInt))))))
      (ss_seq (ss_forI (si_ran1 (SAn.sa (sn_cons (se_var 3) sn_nil))) (sg_name 7) (ss_seq (ss_asg (se_var 7) (sg_name 8))
      (ss_seq (ss_forI (si_ran1 (SAn.sa (sn_cons (se_var 3) sn_nil))) (sg_name 9) (ss_asg (se_get2 (se_var 5) (se_var 8) (se_var 8)) (sg_name 8)))
      (ss_if (st_tst (se_op2 po_ni (se_var 8) (se_var 1))) (ss_ret (se_c (d := .bl false) fun F => rpBl)) ss_next))))
      (ss_ret (se_c (d := .bl true) fun F => rpBl)))))))⟩, fun as Q E ha h => wp__law_is_wood T as Q E ha h⟩
theorem ok__law_are_apart (T : Txt K mg A) : My.OkG P w K mg base (L2.CX P w) 1 A.a__law_are_apart A.d__law_are_apart P__law_are_apart (lift w 1 (sp__law_are_apart K A)) := by
  refine okF T.F__law_are_apart sc__law_are_apart (by decide) fun cdv AA out s H vs Q E hG hr => ?_
  have tk : Takes (cxOf (L2.CX P w) P w K mg base N__law_are_apart "_law_are_apart" (defScope s__law_are_apart) A.a__law_are_apart cdv AA out s H E) (fun cls d _ H => E cls d H) := takes_of rfl rfl rfl rfl
  exact ⟨_, ws__law_are_apart K A, ⟨(pss_cons (ps_set (i := 1) sc__law_are_apart.nd rfl (Or.inl rfl) (pe_lst pa_nil))
      (pss_cons (ps_for (passes_of rfl) rfl (pi_seq (pv 0)) (pg_name (i := 2) sc__law_are_apart.nd rfl (Or.inl rfl))
      (pss_one (ps_set (i := 1) sc__law_are_apart.nd rfl (Or.inl rfl) (pe_op op_addAll (pv 1) (pe_callTy call_list_of (by rfl) T.b_list (by decide +kernel) (pa_cons (pv 2) pa_nil))))))
      (pss_one (ps_ret (pe_cmpR (op_eqAll (hu64 hr)) (pe_callB call_lenAll (by rfl) T.b_len (by decide +kernel) (pa_cons (pe_callTy (My.cr_setL rfl) (by rfl) T.b_set (by decide +kernel) (pa_cons (pv 1) pa_nil)) pa_nil)) (pe_callB call_lenAll (by rfl) T.b_len (by decide +kernel) (pa_cons (pv 1) pa_nil)) (by rfl)))))),
    (ss_seq (ss_asg (se_lst sn_nil) (sg_name 1))
      (ss_seq (ss_forI (si_seq (se_var 0)) (sg_name 2) (ss_asg (se_op2 po_add (se_var 1) (se_cb pn_list (SAn.sa (sn_cons (se_var 2) sn_nil)))) (sg_name 1)))
      (ss_ret (se_op2 po_eq (se_cb pn_len (SAn.sa (sn_cons (se_cb pn_set (SAn.sa (sn_cons (se_var 1) sn_nil))) sn_nil))) (se_cb pn_len (SAn.sa (sn_cons (se_var 1) sn_nil)))))))⟩, fun as Q E ha h => wp__law_are_apart T as Q E ha h⟩
theorem ok__law_is_packing (T : Txt K mg A) : My.OkG P w K mg base (L2.CX P w) 4 A.a__law_is_packing A.d__law_is_packing P__law_is_packing (lift w 2 (sp__law_is_packing K A)) := by
  have G__law_is_wood : My.OkG P w K mg base (L2.CX P w) 3 A.a__law_is_wood A.d__law_is_wood P__law_is_wood (lift w 3 (sp__law_is_wood K A)) := ok__law_is_wood T
  have G__law_are_apart : My.OkG P w K mg base (L2.CX P w) 1 A.a__law_are_apart A.d__law_are_apart P__law_are_apart (lift w 1 (sp__law_are_apart K A)) := ok__law_are_apart T
  refine okF T.F__law_is_packing sc__law_is_packing (by decide) fun cdv AA out s H vs Q E hG hr => ?_
  have tk : Takes (cxOf (L2.CX P w) P w K mg base N__law_is_packing "_law_is_packing" (defScope s__law_is_packing) A.a__law_is_packing cdv AA out s H E) (fun cls d _ H => E cls d H) := takes_of rfl rfl rfl rfl
  have hr__law_is_wood : Room 3 _ := hr.mono (by decide)
  have hr__law_are_apart : Room 1 _ := hr.mono (by decide)
  exact ⟨_, ws__law_is_packing K A, ⟨(pss_cons (ps_if (PW.pt (pw_or (pt_not (pt_val (pe_callB call_isi (by rfl) T.b_isinstance (by decide +kernel) (pa_cons (pv 1) (pa_cons (pe_bltn (by rfl) T.b_tuple (by decide +kernel) (show RelV (.ty "tuple") (.type "tuple") from rfl)) pa_nil))))) (pw_or1 (pt_not (pt_val (pe_callB (cr_all rfl) (by rfl) T.b_all (by decide +kernel) (pa_cons (pe_lc (own := [("_law_tree", 2)]) (by rfl) sc__law_is_packing.nd (pi_seq (pv 1)) (blkOk_by (own := [("_law_tree", 2)]) (N := N__law_is_packing) (sc := defScope s__law_is_packing) (by decide +kernel)) (fun _ _ _ _ _ => (pg_name (i := 2) sc__law_is_packing.nd rfl (Or.inl rfl))) (fun _ _ _ _ _ => pts_nil) (fun _ _ _ _ _ => (pe_callD G__law_is_wood hG hr__law_is_wood rfl T.m__law_is_wood T.F__law_is_wood.kp T.B__law_is_wood .nil (fun σ => passAt takes0 σ) (pa_cons (pv 0) (pa_cons (pe_tup (pa_cons (pe_ix (ix_all (hu1 hr)) (pv 0) pe_int (fun _ _ => rfl)) pa_nil)) (pa_cons (pv 2) pa_nil)))))) pa_nil))))))) (pss_one (ps_ret pe_bl)) pss_nil)
      (pss_one (ps_ret (pe_callD G__law_are_apart hG hr__law_are_apart rfl T.m__law_are_apart T.F__law_are_apart.kp T.B__law_are_apart .nil (fun σ => passAt tk σ) (pa_cons (pv 1) pa_nil))))),
    (ss_seq (ss_if (st_or (st_not (st_tst (se_cb pn_isi (SAn.sa (sn_cons (se_var 1) (sn_cons (se_c (d := .ty "tuple") fun F => rpTy) sn_nil)))))) (st_not (st_tst (se_cb (pn_flags fun bs => bs.all id) (SAn.sa (sn_cons (se_lcI (own := [2]) (si_seq (se_var 1)) (sg_name 2) (by decide) st_any (se_call (fun F => Rps.nil) (sn_cons (se_var 0) (sn_cons (se_tup (sn_cons (se_op2 po_ix (se_var 0) (se_c (d := .int 1) fun F => rpInt)) sn_nil)) (sn_cons (se_var 2) sn_nil))) (by simp))) sn_nil)))))) (ss_ret (se_c (d := .bl false) fun F => rpBl)) ss_next)
      (ss_ret (se_call (fun F => Rps.nil) (sn_cons (se_var 1) sn_nil) (by simp))))⟩, fun as Q E ha h => wp__law_is_packing T as Q E ha h⟩
theorem ok__law_grow (T : Txt K mg A) : My.OkG P w K mg base (L2.CX P w) 3 A.a__law_grow A.d__law_grow P__law_grow (lift w 5 (sp__law_grow K A)) := by
  have G__law_draw : My.OkG P w K mg base (L2.CX P w) 2 A.a__law_draw A.d__law_draw P__law_draw (lift w 2 (sp__law_draw K A)) := ok__law_draw T
  refine okF T.F__law_grow sc__law_grow (by decide) fun cdv AA out s H vs Q E hG hr => ?_
  have tk : Takes (cxOf (L2.CX P w) P w K mg base N__law_grow "_law_grow" (defScope s__law_grow) A.a__law_grow cdv AA out s H E) (fun cls d _ H => E cls d H) := takes_of rfl rfl rfl rfl
  have hr__law_draw : Room 2 _ := hr.mono (by decide)
  exact ⟨_, ws__law_grow K A, ⟨(pss_cons (ps_asg (pe_tup (pa_cons (pe_ix (ix_all (hu1 hr)) (pv 1) pe_int (fun _ _ => rfl)) (pa_cons (pe_callTy call_list_of (by rfl) T.b_list (by decide +kernel) (pa_cons (pv 2) pa_nil)) (pa_cons (pe_lst pa_nil) pa_nil)))) (pg_tup rfl (pgs_cons (pg_name (i := 5) sc__law_grow.nd rfl (Or.inr rfl)) (pgs_cons (pg_name (i := 6) sc__law_grow.nd rfl (Or.inr rfl)) (pgs_cons (pg_name (i := 7) sc__law_grow.nd rfl (Or.inl rfl)) pgs_nil)))))
      (pss_cons (ps_for (passes_of rfl) rfl (pi_range1 (by rfl) T.b_range (pa_cons (pv 4) pa_nil)) (pg_name (i := 8) sc__law_grow.nd rfl (Or.inl rfl))
      (pss_cons (ps_setLc (i := 9) (own := [("_law_link", 10)]) (by rfl) sc__law_grow.nd rfl rfl (sw_true rfl rfl rfl (by decide +kernel)) (pi_seq (pv 3)) (blkOk_by (own := [("_law_link", 10)]) (N := N__law_grow) (sc := defScope s__law_grow) (by decide +kernel)) (fun _ _ _ _ _ => (pg_name (i := 10) sc__law_grow.nd rfl (Or.inl rfl))) (fun _ _ _ _ _ => (pts_one (PW.pt (pw_and (pt_cmpR (op_inAll (hu65 hr)) (pe_ix (ix_all (hu1 hr)) (pe_ix (ix_all (hu1 hr)) (pv 5) (pv 10) (fun _ _ => rfl)) pe_int (fun _ _ => rfl)) (pv 6) (by rfl)) (pw_and1 (pt_cmpR (op_niAll (hu65 hr)) (pe_ix (ix_all (hu1 hr)) (pe_ix (ix_all (hu1 hr)) (pv 5) (pv 10) (fun _ _ => rfl)) pe_int (fun _ _ => rfl)) (pv 6) (by rfl))))))) (fun _ _ _ _ _ => (pv 10)))
      (pss_cons (ps_if (pt_cmpR (op_eqAll (hu64 hr)) (pe_callB call_lenAll (by rfl) T.b_len (by decide +kernel) (pa_cons (pv 9) pa_nil)) pe_int (by rfl)) (pss_one ps_break) pss_nil)
      (pss_cons (ps_expr (pe_bm PySem.F.plainAttrs_list PySem.F.slot_list_append PySem.F.type_list_append mt_append (pv 7) (pa_cons (pe_ix (ix_all (hu1 hr)) (pv 9) (pe_callD G__law_draw hG hr__law_draw rfl T.m__law_draw T.F__law_draw.kp T.B__law_draw .nil (fun σ => passAt tk σ) (pa_cons (pv 0) (pa_cons (pe_callB call_lenAll (by rfl) T.b_len (by decide +kernel) (pa_cons (pv 9) pa_nil)) pa_nil))) (fun _ _ => rfl)) pa_nil)))
      (pss_one (ps_expr (pe_bm PySem.F.plainAttrs_list PySem.F.slot_list_append PySem.F.type_list_append mt_append (pv 6) (pa_cons (pe_ix (ix_all (hu1 hr)) (pe_ix (ix_all (hu1 hr)) (pv 5) (pe_ix (ix_all (hu1 hr)) (pv 7) (pe_un un_neg pe_int) (fun _ _ => rfl)) (fun _ _ => rfl)) pe_int (fun _ _ => rfl)) pa_nil))))))))
      (pss_one (ps_ret (pe_callTy call_tuple_of (by rfl) T.b_tuple (by decide +kernel) (pa_cons (pe_callB (cr_sortedAll rfl) (by rfl) T.b_sorted (by decide +kernel) (pa_cons (pv 7) pa_nil)) pa_nil)))))),
    (ss_seq (ss_asgT3 (by decide) (by decide) (by decide) (sn_cons (se_op2 po_ix (se_var 1) (se_c (d := .int 2) fun F => rpInt)) (sn_cons (se_cb pn_list (SAn.sa (sn_cons (se_var 2) sn_nil))) (sn_cons (se_lst sn_nil) sn_nil))))
      (ss_seq (ss_forI (si_ran1 (SAn.sa (sn_cons (se_var 4) sn_nil))) (sg_name 8) (ss_seq (ss_asg (se_lcI (own := [10]) (si_seq (se_var 3)) (sg_name 10) (by decide) (st_and (st_tst (se_op2 po_in (se_op2 po_ix (se_op2 po_ix (se_var 5) (se_var 10)) (se_c (d := .int 0) fun F => rpInt)) (se_var 6))) (st_tst (se_op2 po_ni (se_op2 po_ix (se_op2 po_ix (se_var 5) (se_var 10)) (se_c (d := .int 1) fun F => rpInt)) (se_var 6)))) (se_var 10)) (sg_name 9))
      (ss_seq (ss_if (st_tst (se_op2 po_eq (se_cb pn_len (SAn.sa (sn_cons (se_var 9) sn_nil))) (se_c (d := .int 0) fun F => rpInt))) ss_break ss_next)
      (ss_seq (ss_drop (se_mt mm_append (se_var 7) (SAn.sa (sn_cons (se_op2 po_ix (se_var 9) (se_call (fun F => Rps.nil) (sn_cons (se_var 0) (sn_cons (se_cb pn_len (SAn.sa (sn_cons (se_var 9) sn_nil))) sn_nil)) (by simp))) sn_nil))))
      (ss_drop (se_mt mm_append (se_var 6) (SAn.sa (sn_cons (se_op2 po_ix (se_op2 po_ix (se_var 5) (se_op2 po_ix (se_var 7) (se_un po_neg (se_c (d := .int 1) fun F => rpInt)))) (se_c (d := .int 1) fun F => rpInt)) sn_nil))))))))
      (ss_ret (se_cb pn_tuple (SAn.sa (sn_cons (se_cb pn_sorted (SAn.sa (sn_cons (se_var 7) sn_nil))) sn_nil))))))⟩, fun as Q E ha h => wp__law_grow T as Q E ha h⟩
theorem ok__law_grown_trees (T : Txt K mg A) : My.OkG P w K mg base (L2.CX P w) 4 A.a__law_grown_trees A.d__law_grown_trees P__law_grown_trees (lift w 3 (sp__law_grown_trees K A)) := by
  have G__law_grow : My.OkG P w K mg base (L2.CX P w) 3 A.a__law_grow A.d__law_grow P__law_grow (lift w 5 (sp__law_grow K A)) := ok__law_grow T
  refine okF T.F__law_grown_trees sc__law_grown_trees (by decide) fun cdv AA out s H vs Q E hG hr => ?_
  have tk : Takes (cxOf (L2.CX P w) P w K mg base N__law_grown_trees "_law_grown_trees" (defScope s__law_grown_trees) A.a__law_grown_trees cdv AA out s H E) (fun cls d _ H => E cls d H) := takes_of rfl rfl rfl rfl
  have hr__law_grow : Room 3 _ := hr.mono (by decide)
  exact ⟨_, ws__law_grown_trees K A, ⟨(pss_cons (ps_par (by rfl) sc__law_grown_trees.nd (i := 3) (j := 4) rfl rfl (by decide) rfl rfl (pa_cons (pe_listRg rfl (by rfl) T.b_list (prg_1 (by rfl) T.b_range (pe_callB call_lenAll (by rfl) T.b_len (by decide +kernel) (pa_cons (pe_ix (ix_all (hu1 hr)) (pv 1) pe_int (fun _ _ => rfl)) pa_nil)))) (pa_cons (pe_lst pa_nil) pa_nil)) (by rfl))
      (pss_cons (ps_for (passes_of rfl) rfl (pi_range1 (by rfl) T.b_range (pa_cons (pv 2) pa_nil)) (pg_name (i := 5) sc__law_grown_trees.nd rfl (Or.inl rfl))
      (pss_cons (ps_set (i := 6) sc__law_grown_trees.nd rfl (Or.inr rfl) (pe_callD G__law_grow hG hr__law_grow rfl T.m__law_grow T.F__law_grow.kp T.B__law_grow .nil (fun σ => passAt tk σ) (pa_cons (pv 0) (pa_cons (pv 1) (pa_cons (pe_lst (pa_cons (pe_ix (ix_all (hu1 hr)) (pv 1) pe_int (fun _ _ => rfl)) pa_nil)) (pa_cons (pv 3) (pa_cons (pe_ix (ix_all (hu1 hr)) (pv 1) pe_int (fun _ _ => rfl)) pa_nil)))))))
      (pss_cons (ps_if (pt_cmpR (op_ltAll (hu0 hr)) (pe_callB call_lenAll (by rfl) T.b_len (by decide +kernel) (pa_cons (pv 6) pa_nil)) (pe_op op_sub (pe_ix (ix_all (hu1 hr)) (pv 1) pe_int (fun _ _ => rfl)) pe_int) (by rfl)) (pss_one ps_break) pss_nil)
      (pss_cons (ps_expr (pe_bm PySem.F.plainAttrs_list PySem.F.slot_list_append PySem.F.type_list_append mt_append (pv 4) (pa_cons (pv 6) pa_nil)))
      (pss_one (ps_setLc (i := 3) (own := [("_law_link", 7)]) (by rfl) sc__law_grown_trees.nd rfl rfl (sw_true rfl rfl rfl (by decide +kernel)) (pi_seq (pv 3)) (blkOk_by (own := [("_law_link", 7)]) (N := N__law_grown_trees) (sc := defScope s__law_grown_trees) (by decide +kernel)) (fun _ _ _ _ _ => (pg_name (i := 7) sc__law_grown_trees.nd rfl (Or.inl rfl))) (fun _ _ _ _ _ => (pts_one (pt_cmpR (op_niAll (hu65 hr)) (pv 7) (pv 6) (by rfl)))) (fun _ _ _ _ _ => (pv 7))))))))
      (pss_one (ps_ret (pe_callTy call_tuple_of (by rfl) T.b_tuple (by decide +kernel) (pa_cons (pv 4) pa_nil)))))),
    (ss_seq (ss_par (by decide) (sn_cons (se_lr1 (se_cb pn_len (SAn.sa (sn_cons (se_op2 po_ix (se_var 1) (se_c (d := .int 2) fun F => rpInt)) sn_nil)))) (sn_cons (se_lst sn_nil) sn_nil)))
      (ss_seq (ss_forI (si_ran1 (SAn.sa (sn_cons (se_var 2) sn_nil))) (sg_name 5) (ss_seq (ss_asg (se_call (fun F => Rps.nil) (sn_cons (se_var 0) (sn_cons (se_var 1) (sn_cons (se_lst (sn_cons (se_op2 po_ix (se_var 1) (se_c (d := .int 1) fun F => rpInt)) sn_nil)) (sn_cons (se_var 3) (sn_cons (se_op2 po_ix (se_var 1) (se_c (d := .int 0) fun F => rpInt)) sn_nil))))) (by simp)) (sg_name 6))
      (ss_seq (ss_if (st_tst (se_op2 po_lt (se_cb pn_len (SAn.sa (sn_cons (se_var 6) sn_nil))) (se_op2 po_sub (se_op2 po_ix (se_var 1) (se_c (d := .int 0) fun F => rpInt)) (se_c (d := .int 1) fun F => rpInt)))) ss_break ss_next)
      (ss_seq (ss_drop (se_mt mm_append (se_var 4) (SAn.sa (sn_cons (se_var 6) sn_nil))))
      (ss_asg (se_lcI (own := [7]) (si_seq (se_var 3)) (sg_name 7) (by decide) (st_tst (se_op2 po_ni (se_var 7) (se_var 6))) (se_var 7)) (sg_name 3))))))
      (ss_ret (se_cb pn_tuple (SAn.sa (sn_cons (se_var 4) sn_nil))))))⟩, fun as Q E ha h => wp__law_grown_trees T as Q E ha h⟩
theorem ok__law_odd (T : Txt K mg A) : My.OkG P w K mg base (L2.CX P w) 3 A.a__law_odd A.d__law_odd P__law_odd (lift w 1 (sp__law_odd K A)) := by
  have G__law_draw : My.OkG P w K mg base (L2.CX P w) 2 A.a__law_draw A.d__law_draw P__law_draw (lift w 2 (sp__law_draw K A)) := ok__law_draw T
  refine okF T.F__law_odd sc__law_odd (by decide) fun cdv AA out s H vs Q E hG hr => ?_
  have tk : Takes (cxOf (L2.CX P w) P w K mg base N__law_odd "_law_odd" (defScope s__law_odd) A.a__law_odd cdv AA out s H E) (fun cls d _ H => E cls d H) := takes_of rfl rfl rfl rfl
  have hr__law_draw : Room 2 _ := hr.mono (by decide)
  exact ⟨_, ws__law_odd K A, ⟨(pss_cons (ps_set (i := 1) sc__law_odd.nd rfl (Or.inl rfl) (pe_lst (pa_cons pe_non (pa_cons pe_bl (pa_cons (pe_un un_neg pe_int) (pa_cons pe_int (pa_cons pe_str (pa_cons pe_str (pa_cons (pe_lst pa_nil) (pa_cons pe_dnewK (pa_cons (pe_tup (pa_cons pe_non pa_nil)) (pa_cons (pe_tup (pa_cons pe_str pa_nil)) (pa_cons (pe_tup (pa_cons pe_bl pa_nil)) (pa_cons (pe_tup (pa_cons pe_int (pa_cons pe_int pa_nil))) (pa_cons (pe_tup (pa_cons pe_int (pa_cons pe_int pa_nil))) (pa_cons (pe_tup (pa_cons (pe_un un_neg pe_int) pa_nil)) (pa_cons (pe_lst (pa_cons pe_int pa_nil)) (pa_cons (pe_tup (pa_cons (pe_op op_pow pe_int pe_int) pa_nil)) pa_nil))))))))))))))))))
      (pss_one (ps_ret (pe_ix (ix_all (hu1 hr)) (pe_op op_addAll (pv 1) (pe_lst (pa_cons (pe_tup (pa_cons (pe_tup pa_nil) pa_nil)) (pa_cons (pe_tup (pa_cons (pe_lst (pa_cons pe_int pa_nil)) pa_nil)) (pa_cons (pe_disp (pps_cons pe_int pe_int pps_nil) rfl rfl (by decide) (by decide)) (pa_cons (pe_tup (pa_cons pe_int (pa_cons (pe_tup (pa_cons pe_int pa_nil)) pa_nil))) pa_nil)))))) (pe_callD G__law_draw hG hr__law_draw rfl T.m__law_draw T.F__law_draw.kp T.B__law_draw .nil (fun σ => passAt tk σ) (pa_cons (pv 0) (pa_cons pe_int pa_nil))) (fun _ _ => rfl))))),
    (ss_seq (ss_asg (se_lst (sn_cons (se_c (d := .non) fun F => rpNon) (sn_cons (se_c (d := .bl true) fun F => rpBl) (sn_cons (se_un po_neg (se_c (d := .int 1) fun F => rpInt)) (sn_cons (se_c (d := .int 61) fun F => rpInt) (sn_cons (se_c (d := .str "0") fun F => rpStr) (sn_cons (se_c (d := .str "") fun F => rpStr) (sn_cons (se_lst sn_nil) (sn_cons se_dicK (sn_cons (se_tup (sn_cons (se_c (d := .non) fun F => rpNon) sn_nil)) (sn_cons (se_tup (sn_cons (se_c (d := .str "a") fun F => rpStr) sn_nil)) (sn_cons (se_tup (sn_cons (se_c (d := .bl true) fun F => rpBl) sn_nil)) (sn_cons (se_tup (sn_cons (se_c (d := .int 0) fun F => rpInt) (sn_cons (se_c (d := .int 0) fun F => rpInt) sn_nil))) (sn_cons (se_tup (sn_cons (se_c (d := .int 1) fun F => rpInt) (sn_cons (se_c (d := .int 0) fun F => rpInt) sn_nil))) (sn_cons (se_tup (sn_cons (se_un po_neg (se_c (d := .int 1) fun F => rpInt)) sn_nil)) (sn_cons (se_lst (sn_cons (se_c (d := .int 0) fun F => rpInt) sn_nil)) (sn_cons (se_tup (sn_cons (se_op2 po_pow (se_c (d := .int 10) fun F => rpInt) (se_c (d := .int 30) fun F => rpInt)) sn_nil)) sn_nil))))))))))))))))) (sg_name 1))
      (ss_ret (se_op2 po_ix (se_op2 po_add (se_var 1) (se_lst (sn_cons (se_tup (sn_cons (se_tup sn_nil) sn_nil)) (sn_cons (se_tup (sn_cons (se_lst (sn_cons (se_c (d := .int 0) fun F => rpInt) sn_nil)) sn_nil)) (sn_cons (se_disp (.cons (se_c (d := .int 0) fun F => rpInt) (se_c (d := .int 1) fun F => rpInt) .nil)) (sn_cons (se_tup (sn_cons (se_c (d := .int 0) fun F => rpInt) (sn_cons (se_tup (sn_cons (se_c (d := .int 1) fun F => rpInt) sn_nil)) sn_nil))) sn_nil)))))) (se_call (fun F => Rps.nil) (sn_cons (se_var 0) (sn_cons (se_c (d := .int 20) fun F => rpInt) sn_nil)) (by simp)))))⟩, fun as Q E ha h => wp__law_odd T as Q E ha h⟩
theorem ok__law_bent_lot (T : Txt K mg A) : My.OkG P w K mg base (L2.CX P w) 4 A.a__law_bent_lot A.d__law_bent_lot P__law_bent_lot (lift w 3 (sp__law_bent_lot K A)) := by
  have G__law_draw : My.OkG P w K mg base (L2.CX P w) 2 A.a__law_draw A.d__law_draw P__law_draw (lift w 2 (sp__law_draw K A)) := ok__law_draw T
  have G__law_odd : My.OkG P w K mg base (L2.CX P w) 3 A.a__law_odd A.d__law_odd P__law_odd (lift w 1 (sp__law_odd K A)) := ok__law_odd T
  refine okF T.F__law_bent_lot sc__law_bent_lot (by decide) fun cdv AA out s H vs Q E hG hr => ?_
  have tk : Takes (cxOf (L2.CX P w) P w K mg base N__law_bent_lot "_law_bent_lot" (defScope s__law_bent_lot) A.a__law_bent_lot cdv AA out s H E) (fun cls d _ H => E cls d H) := takes_of rfl rfl rfl rfl
  have hr__law_draw : Room 2 _ := hr.mono (by decide)
  have hr__law_odd : Room 3 _ := hr.mono (by decide)
  exact ⟨_, ws__law_bent_lot K A, ⟨(pss_cons (ps_par (by rfl) sc__law_bent_lot.nd (i := 3) (j := 4) rfl rfl (by decide) rfl rfl (pa_cons (pe_callD G__law_draw hG hr__law_draw rfl T.m__law_draw T.F__law_draw.kp T.B__law_draw .nil (fun σ => passAt tk σ) (pa_cons (pv 0) (pa_cons pe_int pa_nil))) (pa_cons (pe_callD G__law_draw hG hr__law_draw rfl T.m__law_draw T.F__law_draw.kp T.B__law_draw .nil (fun σ => passAt tk σ) (pa_cons (pv 0) (pa_cons (pe_op op_addAll (pe_callB call_lenAll (by rfl) T.b_len (by decide +kernel) (pa_cons (pv 1) pa_nil)) pe_int) pa_nil))) pa_nil)) (by rfl))
      (pss_cons (ps_set (i := 5) sc__law_bent_lot.nd rfl (Or.inl rfl) (pe_callD G__law_draw hG hr__law_draw rfl T.m__law_draw T.F__law_draw.kp T.B__law_draw .nil (fun σ => passAt tk σ) (pa_cons (pv 0) (pa_cons (pe_callB (call_max2 rfl) (by rfl) T.b_max (by decide +kernel) (pa_cons pe_int (pa_cons (pv 2) pa_nil))) pa_nil))))
      (pss_cons (ps_if (pt_cmpR (op_eqAll (hu64 hr)) (pv 3) pe_int (by rfl)) (pss_one (ps_ret (pe_callD G__law_odd hG hr__law_odd rfl T.m__law_odd T.F__law_odd.kp T.B__law_odd .nil (fun σ => passAt tk σ) (pa_cons (pv 0) pa_nil)))) pss_nil)
      (pss_cons (ps_if (pt_cmpR (op_eqAll (hu64 hr)) (pv 3) pe_int (by rfl)) (pss_one (ps_ret (pe_op op_addAll (pe_slice sl_all (pv 1) po_none (po_some (pv 4))) (pe_slice sl_all (pv 1) (po_some (pe_op op_addAll (pv 4) pe_int)) po_none)))) pss_nil)
      (pss_cons (ps_if (pt_cmpR (op_ltAll (hu0 hr)) (pv 3) pe_int (by rfl)) (pss_one (ps_ret (pe_callTy call_tuple_of (by rfl) T.b_tuple (by decide +kernel) (pa_cons (pe_callB (cr_sortedAll rfl) (by rfl) T.b_sorted (by decide +kernel) (pa_cons (pe_callTy (My.cr_setL rfl) (by rfl) T.b_set (by decide +kernel) (pa_cons (pe_op op_addAll (pe_callTy call_list_of (by rfl) T.b_list (by decide +kernel) (pa_cons (pe_op op_addAll (pe_slice sl_all (pv 1) po_none (po_some (pv 4))) (pe_slice sl_all (pv 1) (po_some (pe_op op_addAll (pv 4) pe_int)) po_none)) pa_nil)) (pe_lst (pa_cons (pv 5) pa_nil))) pa_nil)) pa_nil)) pa_nil)))) pss_nil)
      (pss_cons (ps_if (pt_cmpR (op_eqAll (hu64 hr)) (pv 3) pe_int (by rfl)) (pss_one (ps_ret (pe_callTy call_tuple_of (by rfl) T.b_tuple (by decide +kernel) (pa_cons (pe_callB (cr_sortedAll rfl) (by rfl) T.b_sorted (by decide +kernel) (pa_cons (pe_callTy (My.cr_setL rfl) (by rfl) T.b_set (by decide +kernel) (pa_cons (pe_op op_addAll (pe_callTy call_list_of (by rfl) T.b_list (by decide +kernel) (pa_cons (pv 1) pa_nil)) (pe_lst (pa_cons (pv 5) pa_nil))) pa_nil)) pa_nil)) pa_nil)))) pss_nil)
      (pss_cons (ps_if (pt_cmpR (op_eqAll (hu64 hr)) (pv 3) pe_int (by rfl)) (pss_one (ps_ret (pe_ix (ix_all (hu1 hr)) (pe_lst (pa_cons (pe_callTy call_list_of (by rfl) T.b_list (by decide +kernel) (pa_cons (pv 1) pa_nil)) (pa_cons (pe_revA (pv 1)) (pa_cons (pe_op op_addAll (pv 1) (pe_slice sl_all (pv 1) (po_some (pe_un un_neg pe_int)) po_none)) (pa_cons (pe_op op_addAll (pv 1) (pe_tup (pa_cons (pv 2) pa_nil))) pa_nil))))) (pe_callD G__law_draw hG hr__law_draw rfl T.m__law_draw T.F__law_draw.kp T.B__law_draw .nil (fun σ => passAt tk σ) (pa_cons (pv 0) (pa_cons pe_int pa_nil))) (fun _ _ => rfl)))) pss_nil)
      (pss_one (ps_ret (pe_op op_addAll (pe_op op_addAll (pe_slice sl_all (pv 1) po_none (po_some (pv 4))) (pe_tup (pa_cons (pe_ix (ix_all (hu1 hr)) (pe_lst (pa_cons pe_bl (pa_cons pe_non (pa_cons (pe_un un_neg pe_int) (pa_cons (pv 2) (pa_cons pe_str (pa_cons (pe_tup (pa_cons pe_int pa_nil)) (pa_cons (pe_op op_pow pe_int pe_int) (pa_cons (pv 5) pa_nil))))))))) (pe_callD G__law_draw hG hr__law_draw rfl T.m__law_draw T.F__law_draw.kp T.B__law_draw .nil (fun σ => passAt tk σ) (pa_cons (pv 0) (pa_cons pe_int pa_nil))) (fun _ _ => rfl)) pa_nil))) (pe_slice sl_all (pv 1) (po_some (pe_op op_addAll (pv 4) pe_int)) po_none))))))))))),
    (ss_seq (ss_par (by decide) (sn_cons (se_call (fun F => Rps.nil) (sn_cons (se_var 0) (sn_cons (se_c (d := .int 8) fun F => rpInt) sn_nil)) (by simp)) (sn_cons (se_call (fun F => Rps.nil) (sn_cons (se_var 0) (sn_cons (se_op2 po_add (se_cb pn_len (SAn.sa (sn_cons (se_var 1) sn_nil))) (se_c (d := .int 1) fun F => rpInt)) sn_nil)) (by simp)) sn_nil)))
      (ss_seq (ss_asg (se_call (fun F => Rps.nil) (sn_cons (se_var 0) (sn_cons (se_cb pn_max2 (SAn.sa (sn_cons (se_c (d := .int 1) fun F => rpInt) (sn_cons (se_var 2) sn_nil)))) sn_nil)) (by simp)) (sg_name 5))
      (ss_seq (ss_if (st_tst (se_op2 po_eq (se_var 3) (se_c (d := .int 0) fun F => rpInt))) (ss_ret (se_call (fun F => Rps.nil) (sn_cons (se_var 0) sn_nil) (by simp))) ss_next)
      (ss_seq (ss_if (st_tst (se_op2 po_eq (se_var 3) (se_c (d := .int 1) fun F => rpInt))) (ss_ret (se_op2 po_add (se_sl (se_var 1) so_none (so_part (se_var 4))) (se_sl (se_var 1) (so_part (se_op2 po_add (se_var 4) (se_c (d := .int 1) fun F => rpInt))) so_none))) ss_next)
      (ss_seq (ss_if (st_tst (se_op2 po_lt (se_var 3) (se_c (d := .int 4) fun F => rpInt))) (ss_ret (se_cb pn_tuple (SAn.sa (sn_cons (se_cb pn_sorted (SAn.sa (sn_cons (se_cb pn_set (SAn.sa (sn_cons (se_op2 po_add (se_cb pn_list (SAn.sa (sn_cons (se_op2 po_add (se_sl (se_var 1) so_none (so_part (se_var 4))) (se_sl (se_var 1) (so_part (se_op2 po_add (se_var 4) (se_c (d := .int 1) fun F => rpInt))) so_none)) sn_nil))) (se_lst (sn_cons (se_var 5) sn_nil))) sn_nil))) sn_nil))) sn_nil)))) ss_next)
      (ss_seq (ss_if (st_tst (se_op2 po_eq (se_var 3) (se_c (d := .int 4) fun F => rpInt))) (ss_ret (se_cb pn_tuple (SAn.sa (sn_cons (se_cb pn_sorted (SAn.sa (sn_cons (se_cb pn_set (SAn.sa (sn_cons (se_op2 po_add (se_cb pn_list (SAn.sa (sn_cons (se_var 1) sn_nil))) (se_lst (sn_cons (se_var 5) sn_nil))) sn_nil))) sn_nil))) sn_nil)))) ss_next)
      (ss_seq (ss_if (st_tst (se_op2 po_eq (se_var 3) (se_c (d := .int 5) fun F => rpInt))) (ss_ret (se_op2 po_ix (se_lst (sn_cons (se_cb pn_list (SAn.sa (sn_cons (se_var 1) sn_nil))) (sn_cons (se_rev (se_var 1)) (sn_cons (se_op2 po_add (se_var 1) (se_sl (se_var 1) (so_part (se_un po_neg (se_c (d := .int 1) fun F => rpInt))) so_none)) (sn_cons (se_op2 po_add (se_var 1) (se_tup (sn_cons (se_var 2) sn_nil))) sn_nil))))) (se_call (fun F => Rps.nil) (sn_cons (se_var 0) (sn_cons (se_c (d := .int 4) fun F => rpInt) sn_nil)) (by simp)))) ss_next)
      (ss_ret (se_op2 po_add (se_op2 po_add (se_sl (se_var 1) so_none (so_part (se_var 4))) (se_tup (sn_cons (se_op2 po_ix (se_lst (sn_cons (se_c (d := .bl true) fun F => rpBl) (sn_cons (se_c (d := .non) fun F => rpNon) (sn_cons (se_un po_neg (se_c (d := .int 1) fun F => rpInt)) (sn_cons (se_var 2) (sn_cons (se_c (d := .str "1") fun F => rpStr) (sn_cons (se_tup (sn_cons (se_c (d := .int 1) fun F => rpInt) sn_nil)) (sn_cons (se_op2 po_pow (se_c (d := .int 10) fun F => rpInt) (se_c (d := .int 30) fun F => rpInt)) (sn_cons (se_var 5) sn_nil))))))))) (se_call (fun F => Rps.nil) (sn_cons (se_var 0) (sn_cons (se_c (d := .int 8) fun F => rpInt) sn_nil)) (by simp))) sn_nil))) (se_sl (se_var 1) (so_part (se_op2 po_add (se_var 4) (se_c (d := .int 1) fun F => rpInt))) so_none))))))))))⟩, fun as Q E ha h => wp__law_bent_lot T as Q E ha h⟩
theorem ok__law_bent (T : Txt K mg A) : My.OkG P w K mg base (L2.CX P w) 5 A.a__law_bent A.d__law_bent P__law_bent (lift w 3 (sp__law_bent K A)) := by
  have G__law_draw : My.OkG P w K mg base (L2.CX P w) 2 A.a__law_draw A.d__law_draw P__law_draw (lift w 2 (sp__law_draw K A)) := ok__law_draw T
  have G__law_odd : My.OkG P w K mg base (L2.CX P w) 3 A.a__law_odd A.d__law_odd P__law_odd (lift w 1 (sp__law_odd K A)) := ok__law_odd T
  have G__law_bent_lot : My.OkG P w K mg base (L2.CX P w) 4 A.a__law_bent_lot A.d__law_bent_lot P__law_bent_lot (lift w 3 (sp__law_bent_lot K A)) := ok__law_bent_lot T
  refine okF T.F__law_bent sc__law_bent (by decide) fun cdv AA out s H vs Q E hG hr => ?_
  have tk : Takes (cxOf (L2.CX P w) P w K mg base N__law_bent "_law_bent" (defScope s__law_bent) A.a__law_bent cdv AA out s H E) (fun cls d _ H => E cls d H) := takes_of rfl rfl rfl rfl
  have hr__law_draw : Room 2 _ := hr.mono (by decide)
  have hr__law_odd : Room 3 _ := hr.mono (by decide)
  have hr__law_bent_lot : Room 4 _ := hr.mono (by decide)
  exact ⟨_, ws__law_bent K A, ⟨(pss_cons (ps_par (by rfl) sc__law_bent.nd (i := 3) (j := 4) rfl rfl (by decide) rfl rfl (pa_cons (pe_callD G__law_draw hG hr__law_draw rfl T.m__law_draw T.F__law_draw.kp T.B__law_draw .nil (fun σ => passAt tk σ) (pa_cons (pv 0) (pa_cons pe_int pa_nil))) (pa_cons (pe_callD G__law_draw hG hr__law_draw rfl T.m__law_draw T.F__law_draw.kp T.B__law_draw .nil (fun σ => passAt tk σ) (pa_cons (pv 0) (pa_cons (pe_callB (call_max2 rfl) (by rfl) T.b_max (by decide +kernel) (pa_cons pe_int (pa_cons (pe_callB call_lenAll (by rfl) T.b_len (by decide +kernel) (pa_cons (pv 1) pa_nil)) pa_nil))) pa_nil))) pa_nil)) (by rfl))
      (pss_cons (ps_if (PW.pt (pw_or (pt_cmpR (op_eqAll (hu64 hr)) (pe_callB call_lenAll (by rfl) T.b_len (by decide +kernel) (pa_cons (pv 1) pa_nil)) pe_int (by rfl)) (pw_or1 (pt_cmpR (op_eqAll (hu64 hr)) (pv 3) pe_int (by rfl))))) (pss_one (ps_ret (pe_ix (ix_all (hu1 hr)) (pe_lst (pa_cons (pe_callD G__law_odd hG hr__law_odd rfl T.m__law_odd T.F__law_odd.kp T.B__law_odd .nil (fun σ => passAt tk σ) (pa_cons (pv 0) pa_nil)) (pa_cons (pe_callTy call_list_of (by rfl) T.b_list (by decide +kernel) (pa_cons (pv 1) pa_nil)) (pa_cons (pe_tup (pa_cons (pv 1) pa_nil)) (pa_cons (pe_op op_addAll (pv 1) (pe_tup (pa_cons (pe_tup pa_nil) pa_nil))) (pa_cons (pe_op op_addAll (pv 1) (pe_tup (pa_cons pe_non pa_nil))) pa_nil)))))) (pe_callD G__law_draw hG hr__law_draw rfl T.m__law_draw T.F__law_draw.kp T.B__law_draw .nil (fun σ => passAt tk σ) (pa_cons (pv 0) (pa_cons pe_int pa_nil))) (fun _ _ => rfl)))) pss_nil)
      (pss_cons (ps_if (pt_cmpR (op_ltAll (hu0 hr)) (pv 3) pe_int (by rfl)) (pss_one (ps_ret (pe_op op_addAll (pe_op op_addAll (pe_slice sl_all (pv 1) po_none (po_some (pv 4))) (pe_tup (pa_cons (pe_callD G__law_bent_lot hG hr__law_bent_lot rfl T.m__law_bent_lot T.F__law_bent_lot.kp T.B__law_bent_lot .nil (fun σ => passAt tk σ) (pa_cons (pv 0) (pa_cons (pe_ix (ix_all (hu1 hr)) (pv 1) (pv 4) (fun _ _ => rfl)) (pa_cons (pv 2) pa_nil)))) pa_nil))) (pe_slice sl_all (pv 1) (po_some (pe_op op_addAll (pv 4) pe_int)) po_none)))) pss_nil)
      (pss_cons (ps_if (pt_cmpR (op_eqAll (hu64 hr)) (pv 3) pe_int (by rfl)) (pss_one (ps_ret (pe_op op_addAll (pe_slice sl_all (pv 1) po_none (po_some (pv 4))) (pe_slice sl_all (pv 1) (po_some (pe_op op_addAll (pv 4) pe_int)) po_none)))) pss_nil)
      (pss_cons (ps_if (pt_cmpR (op_eqAll (hu64 hr)) (pv 3) pe_int (by rfl)) (pss_one (ps_ret (pe_op op_addAll (pe_op op_addAll (pe_slice sl_all (pv 1) po_none (po_some (pv 4))) (pe_tup (pa_cons (pe_ix (ix_all (hu1 hr)) (pv 1) (pv 4) (fun _ _ => rfl)) pa_nil))) (pe_slice sl_all (pv 1) (po_some (pv 4)) po_none)))) pss_nil)
      (pss_cons (ps_if (pt_cmpR (op_eqAll (hu64 hr)) (pv 3) pe_int (by rfl)) (pss_one (ps_ret (pe_revA (pv 1)))) pss_nil)
      (pss_cons (ps_par (by rfl) sc__law_bent.nd (i := 5) (j := 6) rfl rfl (by decide) rfl rfl (pa_cons (pe_ix (ix_all (hu1 hr)) (pv 1) (pe_callD G__law_draw hG hr__law_draw rfl T.m__law_draw T.F__law_draw.kp T.B__law_draw .nil (fun σ => passAt tk σ) (pa_cons (pv 0) (pa_cons (pe_callB call_lenAll (by rfl) T.b_len (by decide +kernel) (pa_cons (pv 1) pa_nil)) pa_nil))) (fun _ _ => rfl)) (pa_cons (pe_callD G__law_draw hG hr__law_draw rfl T.m__law_draw T.F__law_draw.kp T.B__law_draw .nil (fun σ => passAt tk σ) (pa_cons (pv 0) (pa_cons (pe_callB call_lenAll (by rfl) T.b_len (by decide +kernel) (pa_cons (pe_ix (ix_all (hu1 hr)) (pv 1) (pv 4) (fun _ _ => rfl)) pa_nil)) pa_nil))) pa_nil)) (by rfl))
      (pss_cons (ps_set (i := 7) sc__law_bent.nd rfl (Or.inl rfl) (pe_callTy call_tuple_of (by rfl) T.b_tuple (by decide +kernel) (pa_cons (pe_callB (cr_sortedAll rfl) (by rfl) T.b_sorted (by decide +kernel) (pa_cons (pe_op op_addAll (pe_op op_addAll (pe_slice sl_all (pe_ix (ix_all (hu1 hr)) (pv 1) (pv 4) (fun _ _ => rfl)) po_none (po_some (pv 6))) (pe_slice sl_all (pe_ix (ix_all (hu1 hr)) (pv 1) (pv 4) (fun _ _ => rfl)) (po_some (pe_op op_addAll (pv 6) pe_int)) po_none)) (pe_tup (pa_cons (pe_ix (ix_all (hu1 hr)) (pv 5) (pe_callD G__law_draw hG hr__law_draw rfl T.m__law_draw T.F__law_draw.kp T.B__law_draw .nil (fun σ => passAt tk σ) (pa_cons (pv 0) (pa_cons (pe_callB call_lenAll (by rfl) T.b_len (by decide +kernel) (pa_cons (pv 5) pa_nil)) pa_nil))) (fun _ _ => rfl)) pa_nil))) pa_nil)) pa_nil)))
      (pss_one (ps_ret (pe_op op_addAll (pe_op op_addAll (pe_slice sl_all (pv 1) po_none (po_some (pv 4))) (pe_tup (pa_cons (pv 7) pa_nil))) (pe_slice sl_all (pv 1) (po_some (pe_op op_addAll (pv 4) pe_int)) po_none)))))))))))),
    (ss_seq (ss_par (by decide) (sn_cons (se_call (fun F => Rps.nil) (sn_cons (se_var 0) (sn_cons (se_c (d := .int 8) fun F => rpInt) sn_nil)) (by simp)) (sn_cons (se_call (fun F => Rps.nil) (sn_cons (se_var 0) (sn_cons (se_cb pn_max2 (SAn.sa (sn_cons (se_c (d := .int 1) fun F => rpInt) (sn_cons (se_cb pn_len (SAn.sa (sn_cons (se_var 1) sn_nil))) sn_nil)))) sn_nil)) (by simp)) sn_nil)))
      (ss_seq (ss_if (st_or (st_tst (se_op2 po_eq (se_cb pn_len (SAn.sa (sn_cons (se_var 1) sn_nil))) (se_c (d := .int 0) fun F => rpInt))) (st_tst (se_op2 po_eq (se_var 3) (se_c (d := .int 0) fun F => rpInt)))) (ss_ret (se_op2 po_ix (se_lst (sn_cons (se_call (fun F => Rps.nil) (sn_cons (se_var 0) sn_nil) (by simp)) (sn_cons (se_cb pn_list (SAn.sa (sn_cons (se_var 1) sn_nil))) (sn_cons (se_tup (sn_cons (se_var 1) sn_nil)) (sn_cons (se_op2 po_add (se_var 1) (se_tup (sn_cons (se_tup sn_nil) sn_nil))) (sn_cons (se_op2 po_add (se_var 1) (se_tup (sn_cons (se_c (d := .non) fun F => rpNon) sn_nil))) sn_nil)))))) (se_call (fun F => Rps.nil) (sn_cons (se_var 0) (sn_cons (se_c (d := .int 5) fun F => rpInt) sn_nil)) (by simp)))) ss_next)
      (ss_seq (ss_if (st_tst (se_op2 po_lt (se_var 3) (se_c (d := .int 4) fun F => rpInt))) (ss_ret (se_op2 po_add (se_op2 po_add (se_sl (se_var 1) so_none (so_part (se_var 4))) (se_tup (sn_cons (se_call (fun F => Rps.nil) (sn_cons (se_var 0) (sn_cons (se_op2 po_ix (se_var 1) (se_var 4)) (sn_cons (se_var 2) sn_nil))) (by simp)) sn_nil))) (se_sl (se_var 1) (so_part (se_op2 po_add (se_var 4) (se_c (d := .int 1) fun F => rpInt))) so_none))) ss_next)
      (ss_seq (ss_if (st_tst (se_op2 po_eq (se_var 3) (se_c (d := .int 4) fun F => rpInt))) (ss_ret (se_op2 po_add (se_sl (se_var 1) so_none (so_part (se_var 4))) (se_sl (se_var 1) (so_part (se_op2 po_add (se_var 4) (se_c (d := .int 1) fun F => rpInt))) so_none))) ss_next)
      (ss_seq (ss_if (st_tst (se_op2 po_eq (se_var 3) (se_c (d := .int 5) fun F => rpInt))) (ss_ret (se_op2 po_add (se_op2 po_add (se_sl (se_var 1) so_none (so_part (se_var 4))) (se_tup (sn_cons (se_op2 po_ix (se_var 1) (se_var 4)) sn_nil))) (se_sl (se_var 1) (so_part (se_var 4)) so_none))) ss_next)
      (ss_seq (ss_if (st_tst (se_op2 po_eq (se_var 3) (se_c (d := .int 6) fun F => rpInt))) (ss_ret (se_rev (se_var 1))) ss_next)
      (ss_seq (ss_par (by decide) (sn_cons (se_op2 po_ix (se_var 1) (se_call (fun F => Rps.nil) (sn_cons (se_var 0) (sn_cons (se_cb pn_len (SAn.sa (sn_cons (se_var 1) sn_nil))) sn_nil)) (by simp))) (sn_cons (se_call (fun F => Rps.nil) (sn_cons (se_var 0) (sn_cons (se_cb pn_len (SAn.sa (sn_cons (se_op2 po_ix (se_var 1) (se_var 4)) sn_nil))) sn_nil)) (by simp)) sn_nil)))
      (ss_seq (ss_asg (se_cb pn_tuple (SAn.sa (sn_cons (se_cb pn_sorted (SAn.sa (sn_cons (se_op2 po_add (se_op2 po_add (se_sl (se_op2 po_ix (se_var 1) (se_var 4)) so_none (so_part (se_var 6))) (se_sl (se_op2 po_ix (se_var 1) (se_var 4)) (so_part (se_op2 po_add (se_var 6) (se_c (d := .int 1) fun F => rpInt))) so_none)) (se_tup (sn_cons (se_op2 po_ix (se_var 5) (se_call (fun F => Rps.nil) (sn_cons (se_var 0) (sn_cons (se_cb pn_len (SAn.sa (sn_cons (se_var 5) sn_nil))) sn_nil)) (by simp))) sn_nil))) sn_nil))) sn_nil))) (sg_name 7))
      (ss_ret (se_op2 po_add (se_op2 po_add (se_sl (se_var 1) so_none (so_part (se_var 4))) (se_tup (sn_cons (se_var 7) sn_nil))) (se_sl (se_var 1) (so_part (se_op2 po_add (se_var 4) (se_c (d := .int 1) fun F => rpInt))) so_none)))))))))))⟩, fun as Q E ha h => wp__law_bent T as Q E ha h⟩
theorem ok_is_pair (T : Txt K mg A) : My.OkG P w K mg base (L2.CX P w) 1 A.a_is_pair A.d_is_pair P_is_pair (lift w 1 (sp_is_pair K A)) := by
  refine okF T.F_is_pair sc_is_pair (by decide) fun cdv AA out s H vs Q E hG hr => ?_
  have tk : Takes (cxOf (L2.CX P w) P w K mg base N_is_pair "is_pair" (defScope s_is_pair) A.a_is_pair cdv AA out s H E) (fun cls d _ H => E cls d H) := takes_of rfl rfl rfl rfl
  exact ⟨_, ws_is_pair K A, ⟨(pss_one (ps_ret (pe_andT (pe_callB call_isi (by rfl) T.b_isinstance (by decide +kernel) (pa_cons (pv 0) (pa_cons (pe_bltn (by rfl) T.b_tuple (by decide +kernel) (show RelV (.ty "tuple") (.type "tuple") from rfl)) pa_nil))) (pe_one (pe_cmpR (op_eqAll (hu64 hr)) (pe_callB call_lenAll (by rfl) T.b_len (by decide +kernel) (pa_cons (pv 0) pa_nil)) pe_int (by rfl)))))),
    (ss_ret (se_andT (se_cb pn_isi (SAn.sa (sn_cons (se_var 0) (sn_cons (se_c (d := .ty "tuple") fun F => rpTy) sn_nil)))) (se_op2 po_eq (se_cb pn_len (SAn.sa (sn_cons (se_var 0) sn_nil))) (se_c (d := .int 2) fun F => rpInt))))⟩, fun as Q E ha h => wp_is_pair T as Q E ha h⟩
theorem ok_is_link (T : Txt K mg A) : My.OkG P w K mg base (L2.CX P w) 3 A.a_is_link A.d_is_link P_is_link (lift w 2 (sp_is_link K A)) := by
  have G_is_within : My.OkG P w K mg base (L2.CX P w) 2 A.a_is_within A.d_is_within P_is_within (lift w 3 (sp_is_within K A)) := ok_is_within T
  have G_is_pair : My.OkG P w K mg base (L2.CX P w) 1 A.a_is_pair A.d_is_pair P_is_pair (lift w 1 (sp_is_pair K A)) := ok_is_pair T
  refine okF T.F_is_link sc_is_link (by decide) fun cdv AA out s H vs Q E hG hr => ?_
  have tk : Takes (cxOf (L2.CX P w) P w K mg base N_is_link "is_link" (defScope s_is_link) A.a_is_link cdv AA out s H E) (fun cls d _ H => E cls d H) := takes_of rfl rfl rfl rfl
  have hr_is_within : Room 2 _ := hr.mono (by decide)
  have hr_is_pair : Room 1 _ := hr.mono (by decide)
  exact ⟨_, ws_is_link K A, ⟨(pss_cons (ps_if (PW.pt (pw_or (pt_not (pt_val (pe_callD G_is_pair hG hr_is_pair rfl T.m_is_pair T.F_is_pair.kp T.B_is_pair .nil (fun σ => passAt tk σ) (pa_cons (pv 1) pa_nil)))) (pw_or1 (pt_not (pt_val (pe_callB (cr_all rfl) (by rfl) T.b_all (by decide +kernel) (pa_cons (pe_lc (own := [("place", 2)]) (by rfl) sc_is_link.nd (pi_seq (pv 1)) (blkOk_by (own := [("place", 2)]) (N := N_is_link) (sc := defScope s_is_link) (by decide +kernel)) (fun _ _ _ _ _ => (pg_name (i := 2) sc_is_link.nd rfl (Or.inl rfl))) (fun _ _ _ _ _ => pts_nil) (fun _ _ _ _ _ => (pe_callD G_is_within hG hr_is_within rfl T.m_is_within T.F_is_within.kp T.B_is_within .nil (fun σ => passAt takes0 σ) (pa_cons (pv 2) (pa_cons pe_int (pa_cons (pe_op op_sub (pv 0) pe_int) pa_nil)))))) pa_nil))))))) (pss_one (ps_ret pe_bl)) pss_nil)
      (pss_one (ps_ret (pe_cmpR (op_neAll (hu64 hr)) (pe_ix (ix_all (hu1 hr)) (pv 1) pe_int (fun _ _ => rfl)) (pe_ix (ix_all (hu1 hr)) (pv 1) pe_int (fun _ _ => rfl)) (by rfl))))),
    (ss_seq (ss_if (st_or (st_not (st_tst (se_call (fun F => Rps.nil) (sn_cons (se_var 1) sn_nil) (by simp)))) (st_not (st_tst (se_cb (pn_flags fun bs => bs.all id) (SAn.sa (sn_cons (se_lcI (own := [2]) (si_seq (se_var 1)) (sg_name 2) (by decide) st_any (se_call (fun F => Rps.nil) (sn_cons (se_var 2) (sn_cons (se_c (d := .int 0) fun F => rpInt) (sn_cons (se_op2 po_sub (se_var 0) (se_c (d := .int 1) fun F => rpInt)) sn_nil))) (by simp))) sn_nil)))))) (ss_ret (se_c (d := .bl false) fun F => rpBl)) ss_next)
      (ss_ret (se_op2 po_ne (se_op2 po_ix (se_var 1) (se_c (d := .int 0) fun F => rpInt)) (se_op2 po_ix (se_var 1) (se_c (d := .int 1) fun F => rpInt)))))⟩, fun as Q E ha h => wp_is_link T as Q E ha h⟩
theorem ok_Net___init__ (T : Txt K mg A) : My.OkG P w K mg base (L2.CX P w) 4 A.a_Net___init__ A.d_Net___init__ P_Net___init__ (lift w 4 (sp_Net___init__ K A)) := by
  have G_is_within : My.OkG P w K mg base (L2.CX P w) 2 A.a_is_within A.d_is_within P_is_within (lift w 3 (sp_is_within K A)) := ok_is_within T
  have G_is_link : My.OkG P w K mg base (L2.CX P w) 3 A.a_is_link A.d_is_link P_is_link (lift w 2 (sp_is_link K A)) := ok_is_link T
  refine okF T.F_Net___init__ sc_Net___init__ (by decide) fun cdv AA out s H vs Q E hG hr => ?_
  have tk : Takes (cxOf (L2.CX P w) P w K mg base N_Net___init__ "Net.__init__" (defScope s_Net___init__) A.a_Net___init__ cdv AA out s H E) (fun cls d _ H => E cls d H) := takes_of rfl rfl rfl rfl
  have hr_is_within : Room 2 _ := hr.mono (by decide)
  have hr_is_link : Room 3 _ := hr.mono (by decide)
  exact ⟨_, ws_Net___init__ K A, ⟨(pss_cons (ps_if (pt_not (pt_val (pe_callD G_is_within hG hr_is_within rfl T.m_is_within T.F_is_within.kp T.B_is_within .nil (fun σ => passAt tk σ) (pa_cons (pv 1) (pa_cons (pe_glob (v := .int 2) rfl T.c_LEAST_PLACES.choose_spec (show RelV (.int 2) _ from ⟨_, rfl⟩)) (pa_cons (pe_glob (v := .int 10) rfl T.c_MOST_PLACES.choose_spec (show RelV (.int 10) _ from ⟨_, rfl⟩)) pa_nil)))))) (pss_one ps_no) pss_nil)
      (pss_cons (ps_if (pt_not (pt_val (pe_callD G_is_within hG hr_is_within rfl T.m_is_within T.F_is_within.kp T.B_is_within .nil (fun σ => passAt tk σ) (pa_cons (pv 2) (pa_cons pe_int (pa_cons (pe_op op_sub (pv 1) pe_int) pa_nil)))))) (pss_one ps_no) pss_nil)
      (pss_cons (ps_if (PW.pt (pw_or (pt_not (pt_val (pe_callB call_isi (by rfl) T.b_isinstance (by decide +kernel) (pa_cons (pv 3) (pa_cons (pe_bltn (by rfl) T.b_tuple (by decide +kernel) (show RelV (.ty "tuple") (.type "tuple") from rfl)) pa_nil))))) (pw_or1 (pt_cmpR op_gt (pe_callB call_lenAll (by rfl) T.b_len (by decide +kernel) (pa_cons (pv 3) pa_nil)) (pe_glob (v := .int 60) rfl T.c_MOST_LINKS.choose_spec (show RelV (.int 60) _ from ⟨_, rfl⟩)) (by rfl))))) (pss_one ps_no) pss_nil)
      (pss_cons (ps_for (passes_of rfl) rfl (pi_enA (by rfl) T.b_enumerate (pa_cons (pv 3) pa_nil)) (pg_tup rfl (pgs_cons (pg_name (i := 4) sc_Net___init__.nd rfl (Or.inl rfl)) (pgs_cons (pg_name (i := 5) sc_Net___init__.nd rfl (Or.inl rfl)) pgs_nil)))
      (pss_one (ps_if (pt_not (pt_val (pe_callD G_is_link hG hr_is_link rfl T.m_is_link T.F_is_link.kp T.B_is_link .nil (fun σ => passAt tk σ) (pa_cons (pv 1) (pa_cons (pv 5) pa_nil))))) (pss_one ps_no) pss_nil)))
      (pss_cons (ps_fld (pv 0) (pv 1) (by rfl))
      (pss_cons (ps_fld (pv 0) (pv 2) (by rfl))
      (pss_one (ps_fld (pv 0) (pv 3) (by rfl))))))))),
    (ss_seq (ss_if (st_not (st_tst (se_call (fun F => Rps.nil) (sn_cons (se_var 1) (sn_cons (se_c (d := .int 2) fun F => rpInt) (sn_cons (se_c (d := .int 10) fun F => rpInt) sn_nil))) (by simp)))) ss_no ss_next)
      (ss_seq (ss_if (st_not (st_tst (se_call (fun F => Rps.nil) (sn_cons (se_var 2) (sn_cons (se_c (d := .int 0) fun F => rpInt) (sn_cons (se_op2 po_sub (se_var 1) (se_c (d := .int 1) fun F => rpInt)) sn_nil))) (by simp)))) ss_no ss_next)
      (ss_seq (ss_if (st_or (st_not (st_tst (se_cb pn_isi (SAn.sa (sn_cons (se_var 3) (sn_cons (se_c (d := .ty "tuple") fun F => rpTy) sn_nil)))))) (st_tst (se_op2 (po_cmp fun i j => decide (j < i)) (se_cb pn_len (SAn.sa (sn_cons (se_var 3) sn_nil))) (se_c (d := .int 60) fun F => rpInt)))) ss_no ss_next)
      (ss_seq (ss_forI (si_en (sn_cons (se_var 3) sn_nil)) (sg_tup (sgs_cons (sg_name 4) (sgs_cons (sg_name 5) sgs_nil)) (gl_name (gl_name gl_nil))) (ss_if (st_not (st_tst (se_call (fun F => Rps.nil) (sn_cons (se_var 1) (sn_cons (se_var 5) sn_nil)) (by simp)))) ss_no ss_next))
      (ss_seq (ss_setF T.l_Net T.n_Net_many (se_var 0) (se_var 1))
      (ss_seq (ss_setF T.l_Net T.n_Net_root (se_var 0) (se_var 2))
      (ss_setF T.l_Net T.n_Net_links (se_var 0) (se_var 3))))))))⟩, fun as Q E ha h => wp_Net___init__ T as Q E ha h⟩
theorem ok_law (T : Txt K mg A) : My.OkG P w K mg base (L2.CX P w) 8 A.a_law A.d_law P_law (spLaw K) := by
  have G_is_packing : My.OkG P w K mg base (L2.CX P w) 7 A.a_is_packing A.d_is_packing P_is_packing (lift w 2 (sp_is_packing K A)) := ok_is_packing T
  have G__law_hand : My.OkG P w K mg base (L2.CX P w) 1 A.a__law_hand A.d__law_hand P__law_hand (spHand K TLa) := ok__law_hand T
  have G__law_is : My.OkG P w K mg base (L2.CX P w) 1 A.a__law_is A.d__law_is P__law_is (lift w 2 (sp__law_is K A)) := ok__law_is T
  have G__law_parts_of : My.OkG P w K mg base (L2.CX P w) 5 A.a__law_parts_of A.d__law_parts_of P__law_parts_of (lift w 1 (sp__law_parts_of K A)) := ok__law_parts_of T
  have G__law_is_packing : My.OkG P w K mg base (L2.CX P w) 4 A.a__law_is_packing A.d__law_is_packing P__law_is_packing (lift w 2 (sp__law_is_packing K A)) := ok__law_is_packing T
  have G__law_grown_trees : My.OkG P w K mg base (L2.CX P w) 4 A.a__law_grown_trees A.d__law_grown_trees P__law_grown_trees (lift w 3 (sp__law_grown_trees K A)) := ok__law_grown_trees T
  have G__law_bent : My.OkG P w K mg base (L2.CX P w) 5 A.a__law_bent A.d__law_bent P__law_bent (lift w 3 (sp__law_bent K A)) := ok__law_bent T
  have G_Net___init__ : My.OkG P w K mg base (L2.CX P w) 4 A.a_Net___init__ A.d_Net___init__ P_Net___init__ (lift w 4 (sp_Net___init__ K A)) := ok_Net___init__ T
  refine okLaw (TL := TLa) T.F_law sc_law (by decide) fun cdv AA out s H a Q E hG hr => ?_
  have tk : Takes (cxOf (L2.CX P w) P w K mg base N_law "law" (defScope s_law) A.a_law cdv AA out s H E) (fun cls d _ H => E cls d H) := takes_of rfl rfl rfl rfl
  have hr_is_packing : Room 7 _ := hr.mono (by decide)
  have hr__law_hand : Room 1 _ := hr.mono (by decide)
  have hr__law_is : Room 1 _ := hr.mono (by decide)
  have hr__law_parts_of : Room 5 _ := hr.mono (by decide)
  have hr__law_is_packing : Room 4 _ := hr.mono (by decide)
  have hr__law_grown_trees : Room 4 _ := hr.mono (by decide)
  have hr__law_bent : Room 5 _ := hr.mono (by decide)
  have hr_Net___init__ : Room 5 _ := hr.mono (by decide)
  exact ⟨_, _, ws_law K A, (pss_cons (ps_set (i := 1) sc_law.nd rfl (Or.inl rfl) (pe_callD G__law_hand hG hr__law_hand rfl T.m__law_hand T.F__law_hand.kp T.B__law_hand .nil (fun σ => passAt tk σ) (pa_cons (pv 0) pa_nil)))
      (pss_cons (ps_set (i := 2) sc_law.nd rfl (Or.inl rfl) (pe_callD G__law_parts_of hG hr__law_parts_of rfl T.m__law_parts_of T.F__law_parts_of.kp T.B__law_parts_of .nil (fun σ => passAt tk σ) (pa_cons (pv 1) pa_nil)))
      (pss_cons (ps_par (by rfl) sc_law.nd (i := 3) (j := 4) rfl rfl (by decide) rfl rfl (pa_cons (pe_makeD T.mk_Net G_Net___init__ hG hr_Net___init__ rfl T.g_Net T.B_Net___init__ .nil (fun σ => passAt tk σ) (pa_cons (pe_ix (ix_all (hu1 hr)) (pv 2) pe_int (fun _ _ => rfl)) (pa_cons (pe_ix (ix_all (hu1 hr)) (pv 2) pe_int (fun _ _ => rfl)) (pa_cons (pe_ix (ix_all (hu1 hr)) (pv 2) pe_int (fun _ _ => rfl)) pa_nil)))) (pa_cons (pe_callB call_lenAll (by rfl) T.b_len (by decide +kernel) (pa_cons (pe_ix (ix_all (hu1 hr)) (pv 2) pe_int (fun _ _ => rfl)) pa_nil)) pa_nil)) (by rfl))
      (pss_cons (ps_for (passes_of rfl) rfl (pi_range1 (by rfl) T.b_range (pa_cons pe_int pa_nil)) (pg_name (i := 5) sc_law.nd rfl (Or.inl rfl))
      (pss_cons (ps_set (i := 6) sc_law.nd rfl (Or.inl rfl) (pe_callD G__law_grown_trees hG hr__law_grown_trees rfl T.m__law_grown_trees T.F__law_grown_trees.kp T.B__law_grown_trees .nil (fun σ => passAt tk σ) (pa_cons (pv 1) (pa_cons (pv 2) (pa_cons pe_int pa_nil)))))
      (pss_cons (ps_if (PW.pt (pw_or (pt_not (pt_val (pe_callD G__law_is_packing hG hr__law_is_packing rfl T.m__law_is_packing T.F__law_is_packing.kp T.B__law_is_packing .nil (fun σ => passAt tk σ) (pa_cons (pv 2) (pa_cons (pv 6) pa_nil))))) (pw_or1 (pt_not (pt_val (pe_callD G__law_is hG hr__law_is rfl T.m__law_is T.F__law_is.kp T.B__law_is .nil (fun σ => passAt tk σ) (pa_cons (pe_callD G_is_packing hG hr_is_packing rfl T.m_is_packing T.F_is_packing.kp T.B_is_packing .nil (fun σ => passAt tk σ) (pa_cons (pv 3) (pa_cons (pv 6) pa_nil))) (pa_cons pe_bl pa_nil)))))))) (pss_one (ps_ret pe_bl)) pss_nil)
      (pss_one (ps_for (passes_of rfl) rfl (pi_range1 (by rfl) T.b_range (pa_cons pe_int pa_nil)) (pg_name (i := 7) sc_law.nd rfl (Or.inl rfl))
      (pss_cons (ps_set (i := 8) sc_law.nd rfl (Or.inl rfl) (pe_callD G__law_bent hG hr__law_bent rfl T.m__law_bent T.F__law_bent.kp T.B__law_bent .nil (fun σ => passAt tk σ) (pa_cons (pv 1) (pa_cons (pv 6) (pa_cons (pv 4) pa_nil)))))
      (pss_cons (ps_set (i := 9) sc_law.nd rfl (Or.inl rfl) (pe_callB (My.call_repr hG (hu64 hr)) (by rfl) T.b_repr (by decide +kernel) (pa_cons (pv 8) pa_nil)))
      (pss_one (ps_if (PW.pt (pw_or (pt_not (pt_val (pe_callD G__law_is hG hr__law_is rfl T.m__law_is T.F__law_is.kp T.B__law_is .nil (fun σ => passAt tk σ) (pa_cons (pe_callD G_is_packing hG hr_is_packing rfl T.m_is_packing T.F_is_packing.kp T.B_is_packing .nil (fun σ => passAt tk σ) (pa_cons (pv 3) (pa_cons (pv 8) pa_nil))) (pa_cons (pe_callD G__law_is_packing hG hr__law_is_packing rfl T.m__law_is_packing T.F__law_is_packing.kp T.B__law_is_packing .nil (fun σ => passAt tk σ) (pa_cons (pv 2) (pa_cons (pv 8) pa_nil))) pa_nil))))) (pw_or1 (pt_cmpR (op_neAll (hu64 hr)) (pe_callB (My.call_repr hG (hu64 hr)) (by rfl) T.b_repr (by decide +kernel) (pa_cons (pv 8) pa_nil)) (pv 9) (by rfl))))) (pss_one (ps_ret pe_bl)) pss_nil)))))))))
      (pss_one (ps_ret (pe_andT (pe_callD G__law_is hG hr__law_is rfl T.m__law_is T.F__law_is.kp T.B__law_is .nil (fun σ => passAt tk σ) (pa_cons (pe_callD G_is_packing hG hr_is_packing rfl T.m_is_packing T.F_is_packing.kp T.B_is_packing .nil (fun σ => passAt tk σ) (pa_cons (pv 3) (pa_cons (pe_tup pa_nil) pa_nil))) (pa_cons pe_bl pa_nil))) (pe_one (pe_callD G__law_is hG hr__law_is rfl T.m__law_is T.F__law_is.kp T.B__law_is .nil (fun σ => passAt tk σ) (pa_cons (pe_callD G_is_packing hG hr_is_packing rfl T.m_is_packing T.F_is_packing.kp T.B_is_packing .nil (fun σ => passAt tk σ) (pa_cons (pv 3) (pa_cons (pe_lst (pa_cons (pv 6) pa_nil)) pa_nil))) (pa_cons pe_bl pa_nil))))))))))),
    (ss_seq (ss_asg (se_call (fun F => Rps.nil) (sn_cons (se_var 1) sn_nil) (by simp)) (sg_name 2))
      (ss_seq (ss_par (by decide) (sn_cons (se_make (fun F => Rps.nil) (sn_cons (se_op2 po_ix (se_var 2) (se_c (d := .int 0) fun F => rpInt)) (sn_cons (se_op2 po_ix (se_var 2) (se_c (d := .int 1) fun F => rpInt)) (sn_cons (se_op2 po_ix (se_var 2) (se_c (d := .int 2) fun F => rpInt)) sn_nil))) (by simp)) (sn_cons (se_cb pn_len (SAn.sa (sn_cons (se_op2 po_ix (se_var 2) (se_c (d := .int 2) fun F => rpInt)) sn_nil))) sn_nil)))
      (ss_seq (ss_forI (si_ran1 (SAn.sa (sn_cons (se_c (d := .int 2) fun F => rpInt) sn_nil))) (sg_name 5) (ss_seq (ss_asg (se_call (fun F => Rps.nil) (sn_cons (se_var 1) (sn_cons (se_var 2) (sn_cons (se_c (d := .int 12) fun F => rpInt) sn_nil))) (by simp)) (sg_name 6))
      (ss_seq (ss_if (st_or (st_not (st_tst (se_call (fun F => Rps.nil) (sn_cons (se_var 2) (sn_cons (se_var 6) sn_nil)) (by simp)))) (st_not (st_tst (se_call (fun F => Rps.nil) (sn_cons (se_call (fun F => Rps.nil) (sn_cons (se_var 3) (sn_cons (se_var 6) sn_nil)) (by simp)) (sn_cons (se_c (d := .bl true) fun F => rpBl) sn_nil)) (by simp))))) (ss_ret (se_c (d := .bl false) fun F => rpBl)) ss_next)
      (ss_forI (si_ran1 (SAn.sa (sn_cons (se_c (d := .int 8) fun F => rpInt) sn_nil))) (sg_name 7) (ss_seq (ss_asg (se_call (fun F => Rps.nil) (sn_cons (se_var 1) (sn_cons (se_var 6) (sn_cons (se_var 4) sn_nil))) (by simp)) (sg_name 8))
      (ss_seq (ss_asg (se_cb pn_repr (SAn.sa (sn_cons (se_var 8) sn_nil))) (sg_name 9))
      (ss_if (st_or (st_not (st_tst (se_call (fun F => Rps.nil) (sn_cons (se_call (fun F => Rps.nil) (sn_cons (se_var 3) (sn_cons (se_var 8) sn_nil)) (by simp)) (sn_cons (se_call (fun F => Rps.nil) (sn_cons (se_var 2) (sn_cons (se_var 8) sn_nil)) (by simp)) sn_nil)) (by simp)))) (st_tst (se_op2 po_ne (se_cb pn_repr (SAn.sa (sn_cons (se_var 8) sn_nil))) (se_var 9)))) (ss_ret (se_c (d := .bl false) fun F => rpBl)) ss_next)))))))
      (ss_ret (se_andT (se_call (fun F => Rps.nil) (sn_cons (se_call (fun F => Rps.nil) (sn_cons (se_var 3) (sn_cons (se_tup sn_nil) sn_nil)) (by simp)) (sn_cons (se_c (d := .bl true) fun F => rpBl) sn_nil)) (by simp)) (se_call (fun F => Rps.nil) (sn_cons (se_call (fun F => Rps.nil) (sn_cons (se_var 3) (sn_cons (se_lst (sn_cons (se_var 6) sn_nil)) sn_nil)) (by simp)) (sn_cons (se_c (d := .bl false) fun F => rpBl) sn_nil)) (by simp))))))), fun ns ms z hl tl => wp_law T ns ms z hl tl⟩
end Fl

set_option Elab.async false
set_option linter.all false
set_option maxRecDepth 100000
set_option maxHeartbeats 1000000
set_option pp.maxSteps 300
namespace Fl
open PySem PySem.Spec PyProof.Rows L2
local macro_rules | `(tactic| walk_at "fl") => `(tactic| with_reducible conv => whnf)
local macro_rules | `(tactic| walk_at "yes") => `(tactic| ((with_reducible (conv => whnf)); rw [if_pos rfl]; (with_reducible (conv => whnf))))
local macro_rules | `(tactic| walk_at "no") => `(tactic| ((with_reducible (conv => whnf)); rw [if_neg Bool.false_ne_true]; (with_reducible (conv => whnf))))
local macro_rules | `(tactic| walk_at "len") => `(tactic| (first | (simp only [List.length_map, List.length_append, List.length_cons, List.length_nil, List.length_reverse, List.length_replicate]; omega) | (simp only [List.length_map, List.length_append, List.length_cons, List.length_nil, List.length_reverse, List.length_replicate] at *; omega)))
local macro_rules | `(tactic| walk_at "sd") => `(tactic| first | with_reducible rfl | assumption | exact True.intro | omega | walk_at "len" | rfl | decide)
local macro_rules | `(tactic| walk_at "sds") => `(tactic| first | walk_at "sd" | exact And.intro (by walk_at "sd") (by walk_at "sd") | exact And.intro (by walk_at "sd") (And.intro (by walk_at "sd") (by walk_at "sd")) | exact And.intro (And.intro (by walk_at "sd") (by walk_at "sd")) (by walk_at "sd"))
local macro_rules | `(tactic| walk_at "g1") => `(tactic| ((first | refine And.intro (by walk_at "sds") ?_ | with_reducible refine ifT ?_ | with_reducible refine ifF ?_ | with_reducible refine ifNT ?_ | with_reducible refine ifNF ?_ | with_reducible refine Exists.intro _ (And.intro rfl ?_) | refine isi_plain (by walk_at "sd") (by decide) ?_ | refine Exists.intro _ (And.intro (by assumption) ?_) | refine Exists.intro _ (And.intro rfl ?_) | refine Exists.intro _ (Exists.intro _ (Exists.intro _ (And.intro rfl ?_))) | refine Exists.intro _ (Exists.intro _ (And.intro rfl ?_)) | refine Exists.intro _ (Exists.intro _ (Exists.intro _ (Exists.intro _ (And.intro rfl ?_))))); (with_reducible conv => whnf)))
local macro_rules | `(tactic| walk_at "go") => `(tactic| ((with_reducible conv => whnf); repeat walk_at "g1"))
variable {P : Program} {w : World} {K : PySem.W.Frag} {mg : Str → Option Value} {base : Heap} {A : Ad}
theorem all_mk {l : PySem.W.OpenLaw} {w : World} {K : PySem.W.Frag} {h : Heap} {mg : Str → Option Value} {fa : Addr} (X : K.In h) (G : h.Ns mainGlobals mg) (hfa : mg "law" = some (.ref fa))
    {v_a_is_integer v_a_is_within v_a_is_pair v_a_is_lot v_a_is_link v_a_check_net v_a_is_lot_of v_a_reached v_a_is_wood v_a_is_grown v_a_is_tree v_a_are_apart v_a_is_packing v_a__law_mixed v_a__law_hand v_a__law_draw v_a__law_is v_a__law_is_int v_a__law_is_lot v_a__law_shuffled v_a__law_some_tree v_a__law_some_links v_a__law_parts_of v_a__law_is_wood v_a__law_are_apart v_a__law_is_packing v_a__law_grow v_a__law_grown_trees v_a__law_odd v_a__law_bent_lot v_a__law_bent v_a_law v_a_Net___init__ v_e_Net : Addr} {v_od_is_integer v_an_is_integer v_od_is_within v_an_is_within v_od_is_pair v_an_is_pair v_od_is_lot v_an_is_lot v_od_is_link v_an_is_link v_od_check_net v_an_check_net v_od_is_lot_of v_an_is_lot_of v_od_reached v_an_reached v_od_is_wood v_an_is_wood v_od_is_grown v_an_is_grown v_od_is_tree v_an_is_tree v_od_are_apart v_an_are_apart v_od_is_packing v_an_is_packing v_od__law_mixed v_an__law_mixed v_od__law_hand v_an__law_hand v_od__law_draw v_an__law_draw v_od__law_is v_an__law_is v_od__law_is_int v_an__law_is_int v_od__law_is_lot v_an__law_is_lot v_od__law_shuffled v_an__law_shuffled v_od__law_some_tree v_an__law_some_tree v_od__law_some_links v_an__law_some_links v_od__law_parts_of v_an__law_parts_of v_od__law_is_wood v_an__law_is_wood v_od__law_are_apart v_an__law_are_apart v_od__law_is_packing v_an__law_is_packing v_od__law_grow v_an__law_grow v_od__law_grown_trees v_an__law_grown_trees v_od__law_odd v_an__law_odd v_od__law_bent_lot v_an__law_bent_lot v_od__law_bent v_an__law_bent v_od_law v_an_law v_od_Net___init__ v_an_Net___init__ : Option Addr} {v_sl_is_integer v_sl_is_within v_sl_is_pair v_sl_is_lot v_sl_is_link v_sl_check_net v_sl_is_lot_of v_sl_reached v_sl_is_wood v_sl_is_grown v_sl_is_tree v_sl_are_apart v_sl_is_packing v_sl__law_mixed v_sl__law_hand v_sl__law_draw v_sl__law_is v_sl__law_is_int v_sl__law_is_lot v_sl__law_shuffled v_sl__law_some_tree v_sl__law_some_links v_sl__law_parts_of v_sl__law_is_wood v_sl__law_are_apart v_sl__law_is_packing v_sl__law_grow v_sl__law_grown_trees v_sl__law_odd v_sl__law_bent_lot v_sl__law_bent v_sl_law v_sl_Net___init__ : Array (Option Value)} {v_oc_is_integer v_kV_is_integer v_dc_is_integer v_pm_is_integer v_cd_is_integer v_ct_is_integer v_oc_is_within v_kV_is_within v_dc_is_within v_pm_is_within v_cd_is_within v_ct_is_within v_oc_is_pair v_kV_is_pair v_dc_is_pair v_pm_is_pair v_cd_is_pair v_ct_is_pair v_oc_is_lot v_kV_is_lot v_dc_is_lot v_pm_is_lot v_cd_is_lot v_ct_is_lot v_oc_is_link v_kV_is_link v_dc_is_link v_pm_is_link v_cd_is_link v_ct_is_link v_oc_check_net v_kV_check_net v_dc_check_net v_pm_check_net v_cd_check_net v_ct_check_net v_oc_is_lot_of v_kV_is_lot_of v_dc_is_lot_of v_pm_is_lot_of v_cd_is_lot_of v_ct_is_lot_of v_oc_reached v_kV_reached v_dc_reached v_pm_reached v_cd_reached v_ct_reached v_oc_is_wood v_kV_is_wood v_dc_is_wood v_pm_is_wood v_cd_is_wood v_ct_is_wood v_oc_is_grown v_kV_is_grown v_dc_is_grown v_pm_is_grown v_cd_is_grown v_ct_is_grown v_oc_is_tree v_kV_is_tree v_dc_is_tree v_pm_is_tree v_cd_is_tree v_ct_is_tree v_oc_are_apart v_kV_are_apart v_dc_are_apart v_pm_are_apart v_cd_are_apart v_ct_are_apart v_oc_is_packing v_kV_is_packing v_dc_is_packing v_pm_is_packing v_cd_is_packing v_ct_is_packing v_oc__law_mixed v_kV__law_mixed v_dc__law_mixed v_pm__law_mixed v_cd__law_mixed v_ct__law_mixed v_oc__law_hand v_kV__law_hand v_dc__law_hand v_pm__law_hand v_cd__law_hand v_ct__law_hand v_oc__law_draw v_kV__law_draw v_dc__law_draw v_pm__law_draw v_cd__law_draw v_ct__law_draw v_oc__law_is v_kV__law_is v_dc__law_is v_pm__law_is v_cd__law_is v_ct__law_is v_oc__law_is_int v_kV__law_is_int v_dc__law_is_int v_pm__law_is_int v_cd__law_is_int v_ct__law_is_int v_oc__law_is_lot v_kV__law_is_lot v_dc__law_is_lot v_pm__law_is_lot v_cd__law_is_lot v_ct__law_is_lot v_oc__law_shuffled v_kV__law_shuffled v_dc__law_shuffled v_pm__law_shuffled v_cd__law_shuffled v_ct__law_shuffled v_oc__law_some_tree v_kV__law_some_tree v_dc__law_some_tree v_pm__law_some_tree v_cd__law_some_tree v_ct__law_some_tree v_oc__law_some_links v_kV__law_some_links v_dc__law_some_links v_pm__law_some_links v_cd__law_some_links v_ct__law_some_links v_oc__law_parts_of v_kV__law_parts_of v_dc__law_parts_of v_pm__law_parts_of v_cd__law_parts_of v_ct__law_parts_of v_oc__law_is_wood v_kV__law_is_wood v_dc__law_is_wood v_pm__law_is_wood v_cd__law_is_wood v_ct__law_is_wood v_oc__law_are_apart v_kV__law_are_apart v_dc__law_are_apart v_pm__law_are_apart v_cd__law_are_apart v_ct__law_are_apart v_oc__law_is_packing v_kV__law_is_packing v_dc__law_is_packing v_pm__law_is_packing v_cd__law_is_packing v_ct__law_is_packing v_oc__law_grow v_kV__law_grow v_dc__law_grow v_pm__law_grow v_cd__law_grow v_ct__law_grow v_oc__law_grown_trees v_kV__law_grown_trees v_dc__law_grown_trees v_pm__law_grown_trees v_cd__law_grown_trees v_ct__law_grown_trees v_oc__law_odd v_kV__law_odd v_dc__law_odd v_pm__law_odd v_cd__law_odd v_ct__law_odd v_oc__law_bent_lot v_kV__law_bent_lot v_dc__law_bent_lot v_pm__law_bent_lot v_cd__law_bent_lot v_ct__law_bent_lot v_oc__law_bent v_kV__law_bent v_dc__law_bent v_pm__law_bent v_cd__law_bent v_ct__law_bent v_oc_law v_kV_law v_dc_law v_pm_law v_cd_law v_ct_law v_oc_Net___init__ v_kV_Net___init__ v_dc_Net___init__ v_pm_Net___init__ v_cd_Net___init__ v_ct_Net___init__ : Value} {v_qt_LEAST_PLACES v_qt_MOST_PLACES v_qt_MOST_LINKS : Tok}
    (a_is_integer_ : PySem.W.nsIn K mainGlobals "is_integer" = some (some (.ref v_a_is_integer)))
    (l_is_integer : K.lookup v_a_is_integer = some ⟨v_oc_is_integer, v_od_is_integer, .func (PySem.W.fnOf "is_integer" "is_integer" (defArgs s_is_integer) (defBody s_is_integer) (defScope s_is_integer) .none v_kV_is_integer v_dc_is_integer v_pm_is_integer v_an_is_integer v_cd_is_integer v_ct_is_integer), v_sl_is_integer⟩)
    (c_is_integer : PySem.W.codeIn K v_cd_is_integer "is_integer" = true)
    (k_is_integer : PySem.W.keepIn K (.ref v_a_is_integer) = true)
    (a_is_within_ : PySem.W.nsIn K mainGlobals "is_within" = some (some (.ref v_a_is_within)))
    (l_is_within : K.lookup v_a_is_within = some ⟨v_oc_is_within, v_od_is_within, .func (PySem.W.fnOf "is_within" "is_within" (defArgs s_is_within) (defBody s_is_within) (defScope s_is_within) .none v_kV_is_within v_dc_is_within v_pm_is_within v_an_is_within v_cd_is_within v_ct_is_within), v_sl_is_within⟩)
    (c_is_within : PySem.W.codeIn K v_cd_is_within "is_within" = true)
    (k_is_within : PySem.W.keepIn K (.ref v_a_is_within) = true)
    (a_is_pair_ : PySem.W.nsIn K mainGlobals "is_pair" = some (some (.ref v_a_is_pair)))
    (l_is_pair : K.lookup v_a_is_pair = some ⟨v_oc_is_pair, v_od_is_pair, .func (PySem.W.fnOf "is_pair" "is_pair" (defArgs s_is_pair) (defBody s_is_pair) (defScope s_is_pair) .none v_kV_is_pair v_dc_is_pair v_pm_is_pair v_an_is_pair v_cd_is_pair v_ct_is_pair), v_sl_is_pair⟩)
    (c_is_pair : PySem.W.codeIn K v_cd_is_pair "is_pair" = true)
    (k_is_pair : PySem.W.keepIn K (.ref v_a_is_pair) = true)
    (a_is_lot_ : PySem.W.nsIn K mainGlobals "is_lot" = some (some (.ref v_a_is_lot)))
    (l_is_lot : K.lookup v_a_is_lot = some ⟨v_oc_is_lot, v_od_is_lot, .func (PySem.W.fnOf "is_lot" "is_lot" (defArgs s_is_lot) (defBody s_is_lot) (defScope s_is_lot) .none v_kV_is_lot v_dc_is_lot v_pm_is_lot v_an_is_lot v_cd_is_lot v_ct_is_lot), v_sl_is_lot⟩)
    (c_is_lot : PySem.W.codeIn K v_cd_is_lot "is_lot" = true)
    (k_is_lot : PySem.W.keepIn K (.ref v_a_is_lot) = true)
    (a_is_link_ : PySem.W.nsIn K mainGlobals "is_link" = some (some (.ref v_a_is_link)))
    (l_is_link : K.lookup v_a_is_link = some ⟨v_oc_is_link, v_od_is_link, .func (PySem.W.fnOf "is_link" "is_link" (defArgs s_is_link) (defBody s_is_link) (defScope s_is_link) .none v_kV_is_link v_dc_is_link v_pm_is_link v_an_is_link v_cd_is_link v_ct_is_link), v_sl_is_link⟩)
    (c_is_link : PySem.W.codeIn K v_cd_is_link "is_link" = true)
    (k_is_link : PySem.W.keepIn K (.ref v_a_is_link) = true)
    (a_check_net_ : PySem.W.nsIn K mainGlobals "check_net" = some (some (.ref v_a_check_net)))
    (l_check_net : K.lookup v_a_check_net = some ⟨v_oc_check_net, v_od_check_net, .func (PySem.W.fnOf "check_net" "check_net" (defArgs s_check_net) (defBody s_check_net) (defScope s_check_net) .none v_kV_check_net v_dc_check_net v_pm_check_net v_an_check_net v_cd_check_net v_ct_check_net), v_sl_check_net⟩)
    (c_check_net : PySem.W.codeIn K v_cd_check_net "check_net" = true)
    (k_check_net : PySem.W.keepIn K (.ref v_a_check_net) = true)
    (a_is_lot_of_ : PySem.W.nsIn K mainGlobals "is_lot_of" = some (some (.ref v_a_is_lot_of)))
    (l_is_lot_of : K.lookup v_a_is_lot_of = some ⟨v_oc_is_lot_of, v_od_is_lot_of, .func (PySem.W.fnOf "is_lot_of" "is_lot_of" (defArgs s_is_lot_of) (defBody s_is_lot_of) (defScope s_is_lot_of) .none v_kV_is_lot_of v_dc_is_lot_of v_pm_is_lot_of v_an_is_lot_of v_cd_is_lot_of v_ct_is_lot_of), v_sl_is_lot_of⟩)
    (c_is_lot_of : PySem.W.codeIn K v_cd_is_lot_of "is_lot_of" = true)
    (k_is_lot_of : PySem.W.keepIn K (.ref v_a_is_lot_of) = true)
    (a_reached_ : PySem.W.nsIn K mainGlobals "reached" = some (some (.ref v_a_reached)))
    (l_reached : K.lookup v_a_reached = some ⟨v_oc_reached, v_od_reached, .func (PySem.W.fnOf "reached" "reached" (defArgs s_reached) (defBody s_reached) (defScope s_reached) .none v_kV_reached v_dc_reached v_pm_reached v_an_reached v_cd_reached v_ct_reached), v_sl_reached⟩)
    (c_reached : PySem.W.codeIn K v_cd_reached "reached" = true)
    (k_reached : PySem.W.keepIn K (.ref v_a_reached) = true)
    (a_is_wood_ : PySem.W.nsIn K mainGlobals "is_wood" = some (some (.ref v_a_is_wood)))
    (l_is_wood : K.lookup v_a_is_wood = some ⟨v_oc_is_wood, v_od_is_wood, .func (PySem.W.fnOf "is_wood" "is_wood" (defArgs s_is_wood) (defBody s_is_wood) (defScope s_is_wood) .none v_kV_is_wood v_dc_is_wood v_pm_is_wood v_an_is_wood v_cd_is_wood v_ct_is_wood), v_sl_is_wood⟩)
    (c_is_wood : PySem.W.codeIn K v_cd_is_wood "is_wood" = true)
    (k_is_wood : PySem.W.keepIn K (.ref v_a_is_wood) = true)
    (a_is_grown_ : PySem.W.nsIn K mainGlobals "is_grown" = some (some (.ref v_a_is_grown)))
    (l_is_grown : K.lookup v_a_is_grown = some ⟨v_oc_is_grown, v_od_is_grown, .func (PySem.W.fnOf "is_grown" "is_grown" (defArgs s_is_grown) (defBody s_is_grown) (defScope s_is_grown) .none v_kV_is_grown v_dc_is_grown v_pm_is_grown v_an_is_grown v_cd_is_grown v_ct_is_grown), v_sl_is_grown⟩)
    (c_is_grown : PySem.W.codeIn K v_cd_is_grown "is_grown" = true)
    (k_is_grown : PySem.W.keepIn K (.ref v_a_is_grown) = true)
    (a_is_tree_ : PySem.W.nsIn K mainGlobals "is_tree" = some (some (.ref v_a_is_tree)))
    (l_is_tree : K.lookup v_a_is_tree = some ⟨v_oc_is_tree, v_od_is_tree, .func (PySem.W.fnOf "is_tree" "is_tree" (defArgs s_is_tree) (defBody s_is_tree) (defScope s_is_tree) .none v_kV_is_tree v_dc_is_tree v_pm_is_tree v_an_is_tree v_cd_is_tree v_ct_is_tree), v_sl_is_tree⟩)
    (c_is_tree : PySem.W.codeIn K v_cd_is_tree "is_tree" = true)
    (k_is_tree : PySem.W.keepIn K (.ref v_a_is_tree) = true)
    (a_are_apart_ : PySem.W.nsIn K mainGlobals "are_apart" = some (some (.ref v_a_are_apart)))
    (l_are_apart : K.lookup v_a_are_apart = some ⟨v_oc_are_apart, v_od_are_apart, .func (PySem.W.fnOf "are_apart" "are_apart" (defArgs s_are_apart) (defBody s_are_apart) (defScope s_are_apart) .none v_kV_are_apart v_dc_are_apart v_pm_are_apart v_an_are_apart v_cd_are_apart v_ct_are_apart), v_sl_are_apart⟩)
    (c_are_apart : PySem.W.codeIn K v_cd_are_apart "are_apart" = true)
    (k_are_apart : PySem.W.keepIn K (.ref v_a_are_apart) = true)
    (a_is_packing_ : PySem.W.nsIn K mainGlobals "is_packing" = some (some (.ref v_a_is_packing)))
    (l_is_packing : K.lookup v_a_is_packing = some ⟨v_oc_is_packing, v_od_is_packing, .func (PySem.W.fnOf "is_packing" "is_packing" (defArgs s_is_packing) (defBody s_is_packing) (defScope s_is_packing) .none v_kV_is_packing v_dc_is_packing v_pm_is_packing v_an_is_packing v_cd_is_packing v_ct_is_packing), v_sl_is_packing⟩)
    (c_is_packing : PySem.W.codeIn K v_cd_is_packing "is_packing" = true)
    (k_is_packing : PySem.W.keepIn K (.ref v_a_is_packing) = true)
    (a__law_mixed_ : PySem.W.nsIn K mainGlobals "_law_mixed" = some (some (.ref v_a__law_mixed)))
    (l__law_mixed : K.lookup v_a__law_mixed = some ⟨v_oc__law_mixed, v_od__law_mixed, .func (PySem.W.fnOf "_law_mixed" "_law_mixed" (defArgs s__law_mixed) (defBody s__law_mixed) (defScope s__law_mixed) .none v_kV__law_mixed v_dc__law_mixed v_pm__law_mixed v_an__law_mixed v_cd__law_mixed v_ct__law_mixed), v_sl__law_mixed⟩)
    (c__law_mixed : PySem.W.codeIn K v_cd__law_mixed "_law_mixed" = true)
    (k__law_mixed : PySem.W.keepIn K (.ref v_a__law_mixed) = true)
    (a__law_hand_ : PySem.W.nsIn K mainGlobals "_law_hand" = some (some (.ref v_a__law_hand)))
    (l__law_hand : K.lookup v_a__law_hand = some ⟨v_oc__law_hand, v_od__law_hand, .func (PySem.W.fnOf "_law_hand" "_law_hand" (defArgs s__law_hand) (defBody s__law_hand) (defScope s__law_hand) .none v_kV__law_hand v_dc__law_hand v_pm__law_hand v_an__law_hand v_cd__law_hand v_ct__law_hand), v_sl__law_hand⟩)
    (c__law_hand : PySem.W.codeIn K v_cd__law_hand "_law_hand" = true)
    (k__law_hand : PySem.W.keepIn K (.ref v_a__law_hand) = true)
    (a__law_draw_ : PySem.W.nsIn K mainGlobals "_law_draw" = some (some (.ref v_a__law_draw)))
    (l__law_draw : K.lookup v_a__law_draw = some ⟨v_oc__law_draw, v_od__law_draw, .func (PySem.W.fnOf "_law_draw" "_law_draw" (defArgs s__law_draw) (defBody s__law_draw) (defScope s__law_draw) .none v_kV__law_draw v_dc__law_draw v_pm__law_draw v_an__law_draw v_cd__law_draw v_ct__law_draw), v_sl__law_draw⟩)
    (c__law_draw : PySem.W.codeIn K v_cd__law_draw "_law_draw" = true)
    (k__law_draw : PySem.W.keepIn K (.ref v_a__law_draw) = true)
    (a__law_is_ : PySem.W.nsIn K mainGlobals "_law_is" = some (some (.ref v_a__law_is)))
    (l__law_is : K.lookup v_a__law_is = some ⟨v_oc__law_is, v_od__law_is, .func (PySem.W.fnOf "_law_is" "_law_is" (defArgs s__law_is) (defBody s__law_is) (defScope s__law_is) .none v_kV__law_is v_dc__law_is v_pm__law_is v_an__law_is v_cd__law_is v_ct__law_is), v_sl__law_is⟩)
    (c__law_is : PySem.W.codeIn K v_cd__law_is "_law_is" = true)
    (k__law_is : PySem.W.keepIn K (.ref v_a__law_is) = true)
    (a__law_is_int_ : PySem.W.nsIn K mainGlobals "_law_is_int" = some (some (.ref v_a__law_is_int)))
    (l__law_is_int : K.lookup v_a__law_is_int = some ⟨v_oc__law_is_int, v_od__law_is_int, .func (PySem.W.fnOf "_law_is_int" "_law_is_int" (defArgs s__law_is_int) (defBody s__law_is_int) (defScope s__law_is_int) .none v_kV__law_is_int v_dc__law_is_int v_pm__law_is_int v_an__law_is_int v_cd__law_is_int v_ct__law_is_int), v_sl__law_is_int⟩)
    (c__law_is_int : PySem.W.codeIn K v_cd__law_is_int "_law_is_int" = true)
    (k__law_is_int : PySem.W.keepIn K (.ref v_a__law_is_int) = true)
    (a__law_is_lot_ : PySem.W.nsIn K mainGlobals "_law_is_lot" = some (some (.ref v_a__law_is_lot)))
    (l__law_is_lot : K.lookup v_a__law_is_lot = some ⟨v_oc__law_is_lot, v_od__law_is_lot, .func (PySem.W.fnOf "_law_is_lot" "_law_is_lot" (defArgs s__law_is_lot) (defBody s__law_is_lot) (defScope s__law_is_lot) .none v_kV__law_is_lot v_dc__law_is_lot v_pm__law_is_lot v_an__law_is_lot v_cd__law_is_lot v_ct__law_is_lot), v_sl__law_is_lot⟩)
    (c__law_is_lot : PySem.W.codeIn K v_cd__law_is_lot "_law_is_lot" = true)
    (k__law_is_lot : PySem.W.keepIn K (.ref v_a__law_is_lot) = true)
    (a__law_shuffled_ : PySem.W.nsIn K mainGlobals "_law_shuffled" = some (some (.ref v_a__law_shuffled)))
    (l__law_shuffled : K.lookup v_a__law_shuffled = some ⟨v_oc__law_shuffled, v_od__law_shuffled, .func (PySem.W.fnOf "_law_shuffled" "_law_shuffled" (defArgs s__law_shuffled) (defBody s__law_shuffled) (defScope s__law_shuffled) .none v_kV__law_shuffled v_dc__law_shuffled v_pm__law_shuffled v_an__law_shuffled v_cd__law_shuffled v_ct__law_shuffled), v_sl__law_shuffled⟩)
    (c__law_shuffled : PySem.W.codeIn K v_cd__law_shuffled "_law_shuffled" = true)
    (k__law_shuffled : PySem.W.keepIn K (.ref v_a__law_shuffled) = true)
    (a__law_some_tree_ : PySem.W.nsIn K mainGlobals "_law_some_tree" = some (some (.ref v_a__law_some_tree)))
    (l__law_some_tree : K.lookup v_a__law_some_tree = some ⟨v_oc__law_some_tree, v_od__law_some_tree, .func (PySem.W.fnOf "_law_some_tree" "_law_some_tree" (defArgs s__law_some_tree) (defBody s__law_some_tree) (defScope s__law_some_tree) .none v_kV__law_some_tree v_dc__law_some_tree v_pm__law_some_tree v_an__law_some_tree v_cd__law_some_tree v_ct__law_some_tree), v_sl__law_some_tree⟩)
    (c__law_some_tree : PySem.W.codeIn K v_cd__law_some_tree "_law_some_tree" = true)
    (k__law_some_tree : PySem.W.keepIn K (.ref v_a__law_some_tree) = true)
    (a__law_some_links_ : PySem.W.nsIn K mainGlobals "_law_some_links" = some (some (.ref v_a__law_some_links)))
    (l__law_some_links : K.lookup v_a__law_some_links = some ⟨v_oc__law_some_links, v_od__law_some_links, .func (PySem.W.fnOf "_law_some_links" "_law_some_links" (defArgs s__law_some_links) (defBody s__law_some_links) (defScope s__law_some_links) .none v_kV__law_some_links v_dc__law_some_links v_pm__law_some_links v_an__law_some_links v_cd__law_some_links v_ct__law_some_links), v_sl__law_some_links⟩)
    (c__law_some_links : PySem.W.codeIn K v_cd__law_some_links "_law_some_links" = true)
    (k__law_some_links : PySem.W.keepIn K (.ref v_a__law_some_links) = true)
    (a__law_parts_of_ : PySem.W.nsIn K mainGlobals "_law_parts_of" = some (some (.ref v_a__law_parts_of)))
    (l__law_parts_of : K.lookup v_a__law_parts_of = some ⟨v_oc__law_parts_of, v_od__law_parts_of, .func (PySem.W.fnOf "_law_parts_of" "_law_parts_of" (defArgs s__law_parts_of) (defBody s__law_parts_of) (defScope s__law_parts_of) .none v_kV__law_parts_of v_dc__law_parts_of v_pm__law_parts_of v_an__law_parts_of v_cd__law_parts_of v_ct__law_parts_of), v_sl__law_parts_of⟩)
    (c__law_parts_of : PySem.W.codeIn K v_cd__law_parts_of "_law_parts_of" = true)
    (k__law_parts_of : PySem.W.keepIn K (.ref v_a__law_parts_of) = true)
    (a__law_is_wood_ : PySem.W.nsIn K mainGlobals "_law_is_wood" = some (some (.ref v_a__law_is_wood)))
    (l__law_is_wood : K.lookup v_a__law_is_wood = some ⟨v_oc__law_is_wood, v_od__law_is_wood, .func (PySem.W.fnOf "_law_is_wood" "_law_is_wood" (defArgs s__law_is_wood) (defBody s__law_is_wood) (defScope s__law_is_wood) .none v_kV__law_is_wood v_dc__law_is_wood v_pm__law_is_wood v_an__law_is_wood v_cd__law_is_wood v_ct__law_is_wood), v_sl__law_is_wood⟩)
    (c__law_is_wood : PySem.W.codeIn K v_cd__law_is_wood "_law_is_wood" = true)
    (k__law_is_wood : PySem.W.keepIn K (.ref v_a__law_is_wood) = true)
    (a__law_are_apart_ : PySem.W.nsIn K mainGlobals "_law_are_apart" = some (some (.ref v_a__law_are_apart)))
    (l__law_are_apart : K.lookup v_a__law_are_apart = some ⟨v_oc__law_are_apart, v_od__law_are_apart, .func (PySem.W.fnOf "_law_are_apart" "_law_are_apart" (defArgs s__law_are_apart) (defBody s__law_are_apart) (defScope s__law_are_apart) .none v_kV__law_are_apart v_dc__law_are_apart v_pm__law_are_apart v_an__law_are_apart v_cd__law_are_apart v_ct__law_are_apart), v_sl__law_are_apart⟩)
    (c__law_are_apart : PySem.W.codeIn K v_cd__law_are_apart "_law_are_apart" = true)
    (k__law_are_apart : PySem.W.keepIn K (.ref v_a__law_are_apart) = true)
    (a__law_is_packing_ : PySem.W.nsIn K mainGlobals "_law_is_packing" = some (some (.ref v_a__law_is_packing)))
    (l__law_is_packing : K.lookup v_a__law_is_packing = some ⟨v_oc__law_is_packing, v_od__law_is_packing, .func (PySem.W.fnOf "_law_is_packing" "_law_is_packing" (defArgs s__law_is_packing) (defBody s__law_is_packing) (defScope s__law_is_packing) .none v_kV__law_is_packing v_dc__law_is_packing v_pm__law_is_packing v_an__law_is_packing v_cd__law_is_packing v_ct__law_is_packing), v_sl__law_is_packing⟩)
    (c__law_is_packing : PySem.W.codeIn K v_cd__law_is_packing "_law_is_packing" = true)
    (k__law_is_packing : PySem.W.keepIn K (.ref v_a__law_is_packing) = true)
    (a__law_grow_ : PySem.W.nsIn K mainGlobals "_law_grow" = some (some (.ref v_a__law_grow)))
    (l__law_grow : K.lookup v_a__law_grow = some ⟨v_oc__law_grow, v_od__law_grow, .func (PySem.W.fnOf "_law_grow" "_law_grow" (defArgs s__law_grow) (defBody s__law_grow) (defScope s__law_grow) .none v_kV__law_grow v_dc__law_grow v_pm__law_grow v_an__law_grow v_cd__law_grow v_ct__law_grow), v_sl__law_grow⟩)
    (c__law_grow : PySem.W.codeIn K v_cd__law_grow "_law_grow" = true)
    (k__law_grow : PySem.W.keepIn K (.ref v_a__law_grow) = true)
    (a__law_grown_trees_ : PySem.W.nsIn K mainGlobals "_law_grown_trees" = some (some (.ref v_a__law_grown_trees)))
    (l__law_grown_trees : K.lookup v_a__law_grown_trees = some ⟨v_oc__law_grown_trees, v_od__law_grown_trees, .func (PySem.W.fnOf "_law_grown_trees" "_law_grown_trees" (defArgs s__law_grown_trees) (defBody s__law_grown_trees) (defScope s__law_grown_trees) .none v_kV__law_grown_trees v_dc__law_grown_trees v_pm__law_grown_trees v_an__law_grown_trees v_cd__law_grown_trees v_ct__law_grown_trees), v_sl__law_grown_trees⟩)
    (c__law_grown_trees : PySem.W.codeIn K v_cd__law_grown_trees "_law_grown_trees" = true)
    (k__law_grown_trees : PySem.W.keepIn K (.ref v_a__law_grown_trees) = true)
    (a__law_odd_ : PySem.W.nsIn K mainGlobals "_law_odd" = some (some (.ref v_a__law_odd)))
    (l__law_odd : K.lookup v_a__law_odd = some ⟨v_oc__law_odd, v_od__law_odd, .func (PySem.W.fnOf "_law_odd" "_law_odd" (defArgs s__law_odd) (defBody s__law_odd) (defScope s__law_odd) .none v_kV__law_odd v_dc__law_odd v_pm__law_odd v_an__law_odd v_cd__law_odd v_ct__law_odd), v_sl__law_odd⟩)
    (c__law_odd : PySem.W.codeIn K v_cd__law_odd "_law_odd" = true)
    (k__law_odd : PySem.W.keepIn K (.ref v_a__law_odd) = true)
    (a__law_bent_lot_ : PySem.W.nsIn K mainGlobals "_law_bent_lot" = some (some (.ref v_a__law_bent_lot)))
    (l__law_bent_lot : K.lookup v_a__law_bent_lot = some ⟨v_oc__law_bent_lot, v_od__law_bent_lot, .func (PySem.W.fnOf "_law_bent_lot" "_law_bent_lot" (defArgs s__law_bent_lot) (defBody s__law_bent_lot) (defScope s__law_bent_lot) .none v_kV__law_bent_lot v_dc__law_bent_lot v_pm__law_bent_lot v_an__law_bent_lot v_cd__law_bent_lot v_ct__law_bent_lot), v_sl__law_bent_lot⟩)
    (c__law_bent_lot : PySem.W.codeIn K v_cd__law_bent_lot "_law_bent_lot" = true)
    (k__law_bent_lot : PySem.W.keepIn K (.ref v_a__law_bent_lot) = true)
    (a__law_bent_ : PySem.W.nsIn K mainGlobals "_law_bent" = some (some (.ref v_a__law_bent)))
    (l__law_bent : K.lookup v_a__law_bent = some ⟨v_oc__law_bent, v_od__law_bent, .func (PySem.W.fnOf "_law_bent" "_law_bent" (defArgs s__law_bent) (defBody s__law_bent) (defScope s__law_bent) .none v_kV__law_bent v_dc__law_bent v_pm__law_bent v_an__law_bent v_cd__law_bent v_ct__law_bent), v_sl__law_bent⟩)
    (c__law_bent : PySem.W.codeIn K v_cd__law_bent "_law_bent" = true)
    (k__law_bent : PySem.W.keepIn K (.ref v_a__law_bent) = true)
    (a_law_ : PySem.W.nsIn K mainGlobals "law" = some (some (.ref v_a_law)))
    (l_law : K.lookup v_a_law = some ⟨v_oc_law, v_od_law, .func (PySem.W.fnOf "law" "law" (defArgs s_law) (defBody s_law) (defScope s_law) .none v_kV_law v_dc_law v_pm_law v_an_law v_cd_law v_ct_law), v_sl_law⟩)
    (c_law : PySem.W.codeIn K v_cd_law "law" = true)
    (k_law : PySem.W.keepIn K (.ref v_a_law) = true)
    (l_Net___init__ : K.lookup v_a_Net___init__ = some ⟨v_oc_Net___init__, v_od_Net___init__, .func (PySem.W.fnOf "__init__" "Net.__init__" (defArgs s_Net___init__) (defBody s_Net___init__) (defScope s_Net___init__) .none v_kV_Net___init__ v_dc_Net___init__ v_pm_Net___init__ v_an_Net___init__ v_cd_Net___init__ v_ct_Net___init__), v_sl_Net___init__⟩)
    (c_Net___init__ : PySem.W.codeIn K v_cd_Net___init__ "Net.__init__" = true)
    (k_Net___init__ : PySem.W.keepIn K (.ref v_a_Net___init__) = true)
    (at_Net___init__ : PySem.W.findIn K (.ref v_e_Net) "__init__" = some (some (.ref v_a_Net___init__)))
    (fn_Net___init__ : PySem.W.isFn K (.ref v_a_Net___init__) = true)
    (mk_Net_ : PySem.W.makesIn K v_e_Net = true)
    (kc_Net : PySem.W.keepIn K (.ref v_e_Net) = true)
    (q_LEAST_PLACES : PySem.W.nsIn K mainGlobals "LEAST_PLACES" = some (some (.int 2 v_qt_LEAST_PLACES)))
    (q_MOST_PLACES : PySem.W.nsIn K mainGlobals "MOST_PLACES" = some (some (.int 10 v_qt_MOST_PLACES)))
    (q_MOST_LINKS : PySem.W.nsIn K mainGlobals "MOST_LINKS" = some (some (.int 60 v_qt_MOST_LINKS)))
    (z_abs : PySem.W.nsIn K mainGlobals "abs" = some none)
    (z_all : PySem.W.nsIn K mainGlobals "all" = some none)
    (z_any : PySem.W.nsIn K mainGlobals "any" = some none)
    (z_bool : PySem.W.nsIn K mainGlobals "bool" = some none)
    (z_enumerate : PySem.W.nsIn K mainGlobals "enumerate" = some none)
    (z_int : PySem.W.nsIn K mainGlobals "int" = some none)
    (z_isinstance : PySem.W.nsIn K mainGlobals "isinstance" = some none)
    (z_len : PySem.W.nsIn K mainGlobals "len" = some none)
    (z_list : PySem.W.nsIn K mainGlobals "list" = some none)
    (z_max : PySem.W.nsIn K mainGlobals "max" = some none)
    (z_range : PySem.W.nsIn K mainGlobals "range" = some none)
    (z_repr : PySem.W.nsIn K mainGlobals "repr" = some none)
    (z_set : PySem.W.nsIn K mainGlobals "set" = some none)
    (z_sorted : PySem.W.nsIn K mainGlobals "sorted" = some none)
    (z_tuple : PySem.W.nsIn K mainGlobals "tuple" = some none)
    (g_Net_ : PySem.W.nsIn K mainGlobals "Net" = some (some (.ref v_e_Net)))
    (pg_Net : PySem.W.plainGet K v_e_Net Str.empty = true)
    (hd_Net : PySem.W.hasDictIn K v_e_Net = true)
    (po_Net : PySem.W.plainOver K v_e_Net = true)
    (sa_Net : PySem.W.findIn K (.ref v_e_Net) "__setattr__" = some (some (.builtin "object.__setattr__")))
    (i6 : PySem.W.specialIn K (.builtin "object.__class__") "__get__" = some (some (.builtin "getset_descriptor.__get__")))
    (i7 : PySem.W.takesIn K (.builtin "object.__class__") = some true)
    (ha_Net : PySem.W.findIn K (.ref v_e_Net) "__class__" = some (some (.builtin "object.__class__")))
    (hm_Net : PySem.W.mroIn K v_e_Net (.type "object") = some true)
    (y_Net_int : PySem.W.kitOne K (.ref v_e_Net) (.type "int") = some false)
    (y_Net_bool : PySem.W.kitOne K (.ref v_e_Net) (.type "bool") = some false)
    (y_Net_tuple : PySem.W.kitOne K (.ref v_e_Net) (.type "tuple") = some false)
    (y_Net_list : PySem.W.kitOne K (.ref v_e_Net) (.type "list") = some false)
    (y_Net_dict : PySem.W.kitOne K (.ref v_e_Net) (.type "dict") = some false)
    (y_Net_str : PySem.W.kitOne K (.ref v_e_Net) (.type "str") = some false)
    (y_Net_set : PySem.W.kitOne K (.ref v_e_Net) (.type "set") = some false)
    (u_Net_NoneType : PySem.W.subIn K (.type "NoneType") (.ref v_e_Net) = some false)
    (u_Net_int : PySem.W.subIn K (.type "int") (.ref v_e_Net) = some false)
    (u_Net_bool : PySem.W.subIn K (.type "bool") (.ref v_e_Net) = some false)
    (u_Net_tuple : PySem.W.subIn K (.type "tuple") (.ref v_e_Net) = some false)
    (u_Net_list : PySem.W.subIn K (.type "list") (.ref v_e_Net) = some false)
    (u_Net_dict : PySem.W.subIn K (.type "dict") (.ref v_e_Net) = some false)
    (u_Net_str : PySem.W.subIn K (.type "str") (.ref v_e_Net) = some false)
    (u_Net_set : PySem.W.subIn K (.type "set") (.ref v_e_Net) = some false)
    (ty_Net : PySem.W.typeIn K (.ref v_e_Net) = some (.type "type"))
    (nn_Net_links : PySem.W.findIn K (.ref v_e_Net) "links" = some none)
    (nn_Net_many : PySem.W.findIn K (.ref v_e_Net) "many" = some none)
    (nn_Net_root : PySem.W.findIn K (.ref v_e_Net) "root" = some none)
    : ∃ fd : FuncData, (∀ (s : Shared) (v : Value), BindsTo s fd ⟨[v], []⟩ [("_law_script", v)]) ∧ ∀ base : Heap, K.In base → base.Ns mainGlobals mg → My.OkG l.prog w K mg base (L2.CX l.prog w) 8 fa fd ["_law_script"] (spLaw K) := by
  have e := hfa.symm.trans (PySem.W.mg_of X G a_law_)
  cases e
  have Fis_integer := fun_mk (st := s_is_integer) l_is_integer c_is_integer k_is_integer
  have Bis_integer := Fis_integer.binds (ps := P_is_integer) fun _ _ _ _ _ _ us hl => match us, hl with | [_], _ => rfl
  have Fis_within := fun_mk (st := s_is_within) l_is_within c_is_within k_is_within
  have Bis_within := Fis_within.binds (ps := P_is_within) fun _ _ _ _ _ _ us hl => match us, hl with | [_, _, _], _ => rfl
  have Fis_pair := fun_mk (st := s_is_pair) l_is_pair c_is_pair k_is_pair
  have Bis_pair := Fis_pair.binds (ps := P_is_pair) fun _ _ _ _ _ _ us hl => match us, hl with | [_], _ => rfl
  have Fis_lot := fun_mk (st := s_is_lot) l_is_lot c_is_lot k_is_lot
  have Bis_lot := Fis_lot.binds (ps := P_is_lot) fun _ _ _ _ _ _ us hl => match us, hl with | [_, _], _ => rfl
  have Fis_link := fun_mk (st := s_is_link) l_is_link c_is_link k_is_link
  have Bis_link := Fis_link.binds (ps := P_is_link) fun _ _ _ _ _ _ us hl => match us, hl with | [_, _], _ => rfl
  have Fcheck_net := fun_mk (st := s_check_net) l_check_net c_check_net k_check_net
  have Bcheck_net := Fcheck_net.binds (ps := P_check_net) fun _ _ _ _ _ _ us hl => match us, hl with | [_], _ => rfl
  have Fis_lot_of := fun_mk (st := s_is_lot_of) l_is_lot_of c_is_lot_of k_is_lot_of
  have Bis_lot_of := Fis_lot_of.binds (ps := P_is_lot_of) fun _ _ _ _ _ _ us hl => match us, hl with | [_, _], _ => rfl
  have Freached := fun_mk (st := s_reached) l_reached c_reached k_reached
  have Breached := Freached.binds (ps := P_reached) fun _ _ _ _ _ _ us hl => match us, hl with | [_, _, _], _ => rfl
  have Fis_wood := fun_mk (st := s_is_wood) l_is_wood c_is_wood k_is_wood
  have Bis_wood := Fis_wood.binds (ps := P_is_wood) fun _ _ _ _ _ _ us hl => match us, hl with | [_, _, _], _ => rfl
  have Fis_grown := fun_mk (st := s_is_grown) l_is_grown c_is_grown k_is_grown
  have Bis_grown := Fis_grown.binds (ps := P_is_grown) fun _ _ _ _ _ _ us hl => match us, hl with | [_, _], _ => rfl
  have Fis_tree := fun_mk (st := s_is_tree) l_is_tree c_is_tree k_is_tree
  have Bis_tree := Fis_tree.binds (ps := P_is_tree) fun _ _ _ _ _ _ us hl => match us, hl with | [_, _], _ => rfl
  have Fare_apart := fun_mk (st := s_are_apart) l_are_apart c_are_apart k_are_apart
  have Bare_apart := Fare_apart.binds (ps := P_are_apart) fun _ _ _ _ _ _ us hl => match us, hl with | [_], _ => rfl
  have Fis_packing := fun_mk (st := s_is_packing) l_is_packing c_is_packing k_is_packing
  have Bis_packing := Fis_packing.binds (ps := P_is_packing) fun _ _ _ _ _ _ us hl => match us, hl with | [_, _], _ => rfl
  have F_law_mixed := fun_mk (st := s__law_mixed) l__law_mixed c__law_mixed k__law_mixed
  have B_law_mixed := F_law_mixed.binds (ps := P__law_mixed) fun _ _ _ _ _ _ us hl => match us, hl with | [_, _], _ => rfl
  have F_law_hand := fun_mk (st := s__law_hand) l__law_hand c__law_hand k__law_hand
  have B_law_hand := F_law_hand.binds (ps := P__law_hand) fun _ _ _ _ _ _ us hl => match us, hl with | [_], _ => rfl
  have F_law_draw := fun_mk (st := s__law_draw) l__law_draw c__law_draw k__law_draw
  have B_law_draw := F_law_draw.binds (ps := P__law_draw) fun _ _ _ _ _ _ us hl => match us, hl with | [_, _], _ => rfl
  have F_law_is := fun_mk (st := s__law_is) l__law_is c__law_is k__law_is
  have B_law_is := F_law_is.binds (ps := P__law_is) fun _ _ _ _ _ _ us hl => match us, hl with | [_, _], _ => rfl
  have F_law_is_int := fun_mk (st := s__law_is_int) l__law_is_int c__law_is_int k__law_is_int
  have B_law_is_int := F_law_is_int.binds (ps := P__law_is_int) fun _ _ _ _ _ _ us hl => match us, hl with | [_, _, _], _ => rfl
  have F_law_is_lot := fun_mk (st := s__law_is_lot) l__law_is_lot c__law_is_lot k__law_is_lot
  have B_law_is_lot := F_law_is_lot.binds (ps := P__law_is_lot) fun _ _ _ _ _ _ us hl => match us, hl with | [_, _], _ => rfl
  have F_law_shuffled := fun_mk (st := s__law_shuffled) l__law_shuffled c__law_shuffled k__law_shuffled
  have B_law_shuffled := F_law_shuffled.binds (ps := P__law_shuffled) fun _ _ _ _ _ _ us hl => match us, hl with | [_, _], _ => rfl
  have F_law_some_tree := fun_mk (st := s__law_some_tree) l__law_some_tree c__law_some_tree k__law_some_tree
  have B_law_some_tree := F_law_some_tree.binds (ps := P__law_some_tree) fun _ _ _ _ _ _ us hl => match us, hl with | [_, _, _], _ => rfl
  have F_law_some_links := fun_mk (st := s__law_some_links) l__law_some_links c__law_some_links k__law_some_links
  have B_law_some_links := F_law_some_links.binds (ps := P__law_some_links) fun _ _ _ _ _ _ us hl => match us, hl with | [_, _, _], _ => rfl
  have F_law_parts_of := fun_mk (st := s__law_parts_of) l__law_parts_of c__law_parts_of k__law_parts_of
  have B_law_parts_of := F_law_parts_of.binds (ps := P__law_parts_of) fun _ _ _ _ _ _ us hl => match us, hl with | [_], _ => rfl
  have F_law_is_wood := fun_mk (st := s__law_is_wood) l__law_is_wood c__law_is_wood k__law_is_wood
  have B_law_is_wood := F_law_is_wood.binds (ps := P__law_is_wood) fun _ _ _ _ _ _ us hl => match us, hl with | [_, _, _], _ => rfl
  have F_law_are_apart := fun_mk (st := s__law_are_apart) l__law_are_apart c__law_are_apart k__law_are_apart
  have B_law_are_apart := F_law_are_apart.binds (ps := P__law_are_apart) fun _ _ _ _ _ _ us hl => match us, hl with | [_], _ => rfl
  have F_law_is_packing := fun_mk (st := s__law_is_packing) l__law_is_packing c__law_is_packing k__law_is_packing
  have B_law_is_packing := F_law_is_packing.binds (ps := P__law_is_packing) fun _ _ _ _ _ _ us hl => match us, hl with | [_, _], _ => rfl
  have F_law_grow := fun_mk (st := s__law_grow) l__law_grow c__law_grow k__law_grow
  have B_law_grow := F_law_grow.binds (ps := P__law_grow) fun _ _ _ _ _ _ us hl => match us, hl with | [_, _, _, _, _], _ => rfl
  have F_law_grown_trees := fun_mk (st := s__law_grown_trees) l__law_grown_trees c__law_grown_trees k__law_grown_trees
  have B_law_grown_trees := F_law_grown_trees.binds (ps := P__law_grown_trees) fun _ _ _ _ _ _ us hl => match us, hl with | [_, _, _], _ => rfl
  have F_law_odd := fun_mk (st := s__law_odd) l__law_odd c__law_odd k__law_odd
  have B_law_odd := F_law_odd.binds (ps := P__law_odd) fun _ _ _ _ _ _ us hl => match us, hl with | [_], _ => rfl
  have F_law_bent_lot := fun_mk (st := s__law_bent_lot) l__law_bent_lot c__law_bent_lot k__law_bent_lot
  have B_law_bent_lot := F_law_bent_lot.binds (ps := P__law_bent_lot) fun _ _ _ _ _ _ us hl => match us, hl with | [_, _, _], _ => rfl
  have F_law_bent := fun_mk (st := s__law_bent) l__law_bent c__law_bent k__law_bent
  have B_law_bent := F_law_bent.binds (ps := P__law_bent) fun _ _ _ _ _ _ us hl => match us, hl with | [_, _, _], _ => rfl
  have Flaw := fun_mk (st := s_law) l_law c_law k_law
  have Blaw := Flaw.binds (ps := P_law) fun _ _ _ _ _ _ us hl => match us, hl with | [_], _ => rfl
  have FNet___init__ := fun_mk (st := s_Net___init__) l_Net___init__ c_Net___init__ k_Net___init__
  have BNet___init__ := FNet___init__.binds (ps := P_Net___init__) fun _ _ _ _ _ _ us hl => match us, hl with | [_, _, _, _], _ => rfl
  have T : Txt K mg { a_is_integer := v_a_is_integer, d_is_integer := _, a_is_within := v_a_is_within, d_is_within := _, a_is_pair := v_a_is_pair, d_is_pair := _, a_is_lot := v_a_is_lot, d_is_lot := _, a_is_link := v_a_is_link, d_is_link := _, a_check_net := v_a_check_net, d_check_net := _, a_is_lot_of := v_a_is_lot_of, d_is_lot_of := _, a_reached := v_a_reached, d_reached := _, a_is_wood := v_a_is_wood, d_is_wood := _, a_is_grown := v_a_is_grown, d_is_grown := _, a_is_tree := v_a_is_tree, d_is_tree := _, a_are_apart := v_a_are_apart, d_are_apart := _, a_is_packing := v_a_is_packing, d_is_packing := _, a__law_mixed := v_a__law_mixed, d__law_mixed := _, a__law_hand := v_a__law_hand, d__law_hand := _, a__law_draw := v_a__law_draw, d__law_draw := _, a__law_is := v_a__law_is, d__law_is := _, a__law_is_int := v_a__law_is_int, d__law_is_int := _, a__law_is_lot := v_a__law_is_lot, d__law_is_lot := _, a__law_shuffled := v_a__law_shuffled, d__law_shuffled := _, a__law_some_tree := v_a__law_some_tree, d__law_some_tree := _, a__law_some_links := v_a__law_some_links, d__law_some_links := _, a__law_parts_of := v_a__law_parts_of, d__law_parts_of := _, a__law_is_wood := v_a__law_is_wood, d__law_is_wood := _, a__law_are_apart := v_a__law_are_apart, d__law_are_apart := _, a__law_is_packing := v_a__law_is_packing, d__law_is_packing := _, a__law_grow := v_a__law_grow, d__law_grow := _, a__law_grown_trees := v_a__law_grown_trees, d__law_grown_trees := _, a__law_odd := v_a__law_odd, d__law_odd := _, a__law_bent_lot := v_a__law_bent_lot, d__law_bent_lot := _, a__law_bent := v_a__law_bent, d__law_bent := _, a_law := fa, d_law := _, a_Net___init__ := v_a_Net___init__, d_Net___init__ := _, e_TreeError := fa, e_BadNet := fa, e_NoNet := fa, e_Net := v_e_Net } := {
    m_is_integer := PySem.W.mg_of X G a_is_integer_,
    F_is_integer := Fis_integer,
    B_is_integer := Bis_integer,
    m_is_within := PySem.W.mg_of X G a_is_within_,
    F_is_within := Fis_within,
    B_is_within := Bis_within,
    m_is_pair := PySem.W.mg_of X G a_is_pair_,
    F_is_pair := Fis_pair,
    B_is_pair := Bis_pair,
    m_is_lot := PySem.W.mg_of X G a_is_lot_,
    F_is_lot := Fis_lot,
    B_is_lot := Bis_lot,
    m_is_link := PySem.W.mg_of X G a_is_link_,
    F_is_link := Fis_link,
    B_is_link := Bis_link,
    m_check_net := PySem.W.mg_of X G a_check_net_,
    F_check_net := Fcheck_net,
    B_check_net := Bcheck_net,
    m_is_lot_of := PySem.W.mg_of X G a_is_lot_of_,
    F_is_lot_of := Fis_lot_of,
    B_is_lot_of := Bis_lot_of,
    m_reached := PySem.W.mg_of X G a_reached_,
    F_reached := Freached,
    B_reached := Breached,
    m_is_wood := PySem.W.mg_of X G a_is_wood_,
    F_is_wood := Fis_wood,
    B_is_wood := Bis_wood,
    m_is_grown := PySem.W.mg_of X G a_is_grown_,
    F_is_grown := Fis_grown,
    B_is_grown := Bis_grown,
    m_is_tree := PySem.W.mg_of X G a_is_tree_,
    F_is_tree := Fis_tree,
    B_is_tree := Bis_tree,
    m_are_apart := PySem.W.mg_of X G a_are_apart_,
    F_are_apart := Fare_apart,
    B_are_apart := Bare_apart,
    m_is_packing := PySem.W.mg_of X G a_is_packing_,
    F_is_packing := Fis_packing,
    B_is_packing := Bis_packing,
    m__law_mixed := PySem.W.mg_of X G a__law_mixed_,
    F__law_mixed := F_law_mixed,
    B__law_mixed := B_law_mixed,
    m__law_hand := PySem.W.mg_of X G a__law_hand_,
    F__law_hand := F_law_hand,
    B__law_hand := B_law_hand,
    m__law_draw := PySem.W.mg_of X G a__law_draw_,
    F__law_draw := F_law_draw,
    B__law_draw := B_law_draw,
    m__law_is := PySem.W.mg_of X G a__law_is_,
    F__law_is := F_law_is,
    B__law_is := B_law_is,
    m__law_is_int := PySem.W.mg_of X G a__law_is_int_,
    F__law_is_int := F_law_is_int,
    B__law_is_int := B_law_is_int,
    m__law_is_lot := PySem.W.mg_of X G a__law_is_lot_,
    F__law_is_lot := F_law_is_lot,
    B__law_is_lot := B_law_is_lot,
    m__law_shuffled := PySem.W.mg_of X G a__law_shuffled_,
    F__law_shuffled := F_law_shuffled,
    B__law_shuffled := B_law_shuffled,
    m__law_some_tree := PySem.W.mg_of X G a__law_some_tree_,
    F__law_some_tree := F_law_some_tree,
    B__law_some_tree := B_law_some_tree,
    m__law_some_links := PySem.W.mg_of X G a__law_some_links_,
    F__law_some_links := F_law_some_links,
    B__law_some_links := B_law_some_links,
    m__law_parts_of := PySem.W.mg_of X G a__law_parts_of_,
    F__law_parts_of := F_law_parts_of,
    B__law_parts_of := B_law_parts_of,
    m__law_is_wood := PySem.W.mg_of X G a__law_is_wood_,
    F__law_is_wood := F_law_is_wood,
    B__law_is_wood := B_law_is_wood,
    m__law_are_apart := PySem.W.mg_of X G a__law_are_apart_,
    F__law_are_apart := F_law_are_apart,
    B__law_are_apart := B_law_are_apart,
    m__law_is_packing := PySem.W.mg_of X G a__law_is_packing_,
    F__law_is_packing := F_law_is_packing,
    B__law_is_packing := B_law_is_packing,
    m__law_grow := PySem.W.mg_of X G a__law_grow_,
    F__law_grow := F_law_grow,
    B__law_grow := B_law_grow,
    m__law_grown_trees := PySem.W.mg_of X G a__law_grown_trees_,
    F__law_grown_trees := F_law_grown_trees,
    B__law_grown_trees := B_law_grown_trees,
    m__law_odd := PySem.W.mg_of X G a__law_odd_,
    F__law_odd := F_law_odd,
    B__law_odd := B_law_odd,
    m__law_bent_lot := PySem.W.mg_of X G a__law_bent_lot_,
    F__law_bent_lot := F_law_bent_lot,
    B__law_bent_lot := B_law_bent_lot,
    m__law_bent := PySem.W.mg_of X G a__law_bent_,
    F__law_bent := F_law_bent,
    B__law_bent := B_law_bent,
    m_law := PySem.W.mg_of X G a_law_,
    F_law := Flaw,
    B_law := Blaw,
    F_Net___init__ := FNet___init__,
    B_Net___init__ := BNet___init__,
    mk_Net := ⟨mk_Net_, at_Net___init__, fn_Net___init__, kc_Net⟩,
    c_LEAST_PLACES := ⟨_, PySem.W.mg_of X G q_LEAST_PLACES⟩,
    c_MOST_PLACES := ⟨_, PySem.W.mg_of X G q_MOST_PLACES⟩,
    c_MOST_LINKS := ⟨_, PySem.W.mg_of X G q_MOST_LINKS⟩,
    b_abs := PySem.W.mg_none_of X G z_abs,
    b_all := PySem.W.mg_none_of X G z_all,
    b_any := PySem.W.mg_none_of X G z_any,
    b_bool := PySem.W.mg_none_of X G z_bool,
    b_enumerate := PySem.W.mg_none_of X G z_enumerate,
    b_int := PySem.W.mg_none_of X G z_int,
    b_isinstance := PySem.W.mg_none_of X G z_isinstance,
    b_len := PySem.W.mg_none_of X G z_len,
    b_list := PySem.W.mg_none_of X G z_list,
    b_max := PySem.W.mg_none_of X G z_max,
    b_range := PySem.W.mg_none_of X G z_range,
    b_repr := PySem.W.mg_none_of X G z_repr,
    b_set := PySem.W.mg_none_of X G z_set,
    b_sorted := PySem.W.mg_none_of X G z_sorted,
    b_tuple := PySem.W.mg_none_of X G z_tuple,
    g_Net := PySem.W.mg_of X G g_Net_,
    l_Net := ⟨pg_Net, hd_Net, po_Net, sa_Net⟩,
    i_Net := ⟨⟨pg_Net, hd_Net, po_Net, sa_Net⟩, ha_Net, i6, i7, hm_Net, fun n hn => by
      simp only [isiN, List.mem_cons, List.not_mem_nil, or_false] at hn
      rcases hn with rfl | rfl | rfl | rfl | rfl | rfl | rfl <;> assumption⟩,
    j_Net := fun n hn => by
      simp only [List.mem_cons, List.not_mem_nil, or_false] at hn
      rcases hn with rfl | rfl | rfl | rfl | rfl | rfl | rfl | rfl <;> exact My.kit_ref hd_Net ty_Net (by assumption) (fun z => nomatch z),
    n_Net_links := nn_Net_links,
    n_Net_many := nn_Net_many,
    n_Net_root := nn_Net_root }
  exact ⟨_, fun s v => .of_eq rfl, fun base _ _ => ok_law T⟩
theorem walk {l : PySem.W.OpenLaw} {q : Program} {loose : List Str} {XP : (Str → Option Value) → Heap → Prop} {YP : World → Heap → Prop} {d : DefRec} {K : Params → PySem.W.Frag} (hn : l.most = some 63) (hdf : d.params.defaults = [])
    (hY : ∀ (w : World) (h : Heap), YP w h → (K w.params).In h)
    (F : ∀ (w : World) (mg : Str → Option Value) (fa : Addr) (h : Heap), (K w.params).In h → h.Ns mainGlobals mg → mg d.name = some (.ref fa) →
      ∃ fd : FuncData, (∀ (s : Shared) (u : Value), BindsTo s fd ⟨[u], []⟩ [("_law_script", u)]) ∧ ∀ base : Heap, (K w.params).In base → base.Ns mainGlobals mg → My.OkG l.prog w (K w.params) mg base (L2.CX l.prog w) 8 fa fd ["_law_script"] (spLaw (K w.params))) :
    PySem.W.WalkO q loose XP YP l.row.toRowW d [] (fun f vs => PySem.call f vs) :=
  My.walk_ofG (n := 63) (k := 8) (x := "_law_script") (CX := fun w => L2.CX l.prog w) (sp := fun w => spLaw (K w.params)) hn (by decide) hdf ⟨rfl, by decide, by decide⟩ hY F (fun _ _ a ns hl _ hS => ⟨.ref a, rfl, a, ns, rfl, hS, hl, fun _ => rfl⟩) fun _ _ _ _ _ ⟨_, _, _, _, _, _, _, _, _, _, _, _, z⟩ => z
end Fl
open PySem PySem.W PyProof.Rows
set_option maxRecDepth 100000 in
set_option maxHeartbeats 0 in
theorem PySem.Challenge.cw_sparetrees_k11_whole_packings_judged_holds : PySem.Challenge.rw_sparetrees_k11_whole_packings_judged.Holds := by
  w_on; o_law; k_head; (case hw => w_witness2)
  k_fill
  refine Fl.walk (l := PySem.Challenge.rw_sparetrees_k11_whole_packings_judged) rfl rfl (fun w h Y => PySem.W.kIn_of Y) ?F
  case F =>
    intro w mg fa h KX G hmg
    refine' Fl.all_mk KX G hmg ?a_is_integer_ ?l_is_integer ?c_is_integer ?k_is_integer ?a_is_within_ ?l_is_within ?c_is_within ?k_is_within ?a_is_pair_ ?l_is_pair ?c_is_pair ?k_is_pair ?a_is_lot_ ?l_is_lot ?c_is_lot ?k_is_lot ?a_is_link_ ?l_is_link ?c_is_link ?k_is_link ?a_check_net_ ?l_check_net ?c_check_net ?k_check_net ?a_is_lot_of_ ?l_is_lot_of ?c_is_lot_of ?k_is_lot_of ?a_reached_ ?l_reached ?c_reached ?k_reached ?a_is_wood_ ?l_is_wood ?c_is_wood ?k_is_wood ?a_is_grown_ ?l_is_grown ?c_is_grown ?k_is_grown ?a_is_tree_ ?l_is_tree ?c_is_tree ?k_is_tree ?a_are_apart_ ?l_are_apart ?c_are_apart ?k_are_apart ?a_is_packing_ ?l_is_packing ?c_is_packing ?k_is_packing ?a__law_mixed_ ?l__law_mixed ?c__law_mixed ?k__law_mixed ?a__law_hand_ ?l__law_hand ?c__law_hand ?k__law_hand ?a__law_draw_ ?l__law_draw ?c__law_draw ?k__law_draw ?a__law_is_ ?l__law_is ?c__law_is ?k__law_is ?a__law_is_int_ ?l__law_is_int ?c__law_is_int ?k__law_is_int ?a__law_is_lot_ ?l__law_is_lot ?c__law_is_lot ?k__law_is_lot ?a__law_shuffled_ ?l__law_shuffled ?c__law_shuffled ?k__law_shuffled ?a__law_some_tree_ ?l__law_some_tree ?c__law_some_tree ?k__law_some_tree ?a__law_some_links_ ?l__law_some_links ?c__law_some_links ?k__law_some_links ?a__law_parts_of_ ?l__law_parts_of ?c__law_parts_of ?k__law_parts_of ?a__law_is_wood_ ?l__law_is_wood ?c__law_is_wood ?k__law_is_wood ?a__law_are_apart_ ?l__law_are_apart ?c__law_are_apart ?k__law_are_apart ?a__law_is_packing_ ?l__law_is_packing ?c__law_is_packing ?k__law_is_packing ?a__law_grow_ ?l__law_grow ?c__law_grow ?k__law_grow ?a__law_grown_trees_ ?l__law_grown_trees ?c__law_grown_trees ?k__law_grown_trees ?a__law_odd_ ?l__law_odd ?c__law_odd ?k__law_odd ?a__law_bent_lot_ ?l__law_bent_lot ?c__law_bent_lot ?k__law_bent_lot ?a__law_bent_ ?l__law_bent ?c__law_bent ?k__law_bent ?a_law_ ?l_law ?c_law ?k_law ?l_Net___init__ ?c_Net___init__ ?k_Net___init__ ?at_Net___init__ ?fn_Net___init__ ?mk_Net_ ?kc_Net ?q_LEAST_PLACES ?q_MOST_PLACES ?q_MOST_LINKS ?z_abs ?z_all ?z_any ?z_bool ?z_enumerate ?z_int ?z_isinstance ?z_len ?z_list ?z_max ?z_range ?z_repr ?z_set ?z_sorted ?z_tuple ?g_Net_ ?pg_Net ?hd_Net ?po_Net ?sa_Net ?i6 ?i7 ?ha_Net ?hm_Net ?y_Net_int ?y_Net_bool ?y_Net_tuple ?y_Net_list ?y_Net_dict ?y_Net_str ?y_Net_set ?u_Net_NoneType ?u_Net_int ?u_Net_bool ?u_Net_tuple ?u_Net_list ?u_Net_dict ?u_Net_str ?u_Net_set ?ty_Net ?nn_Net_links ?nn_Net_many ?nn_Net_root
    (case a_is_integer_ => k_is)
    (case a_is_within_ => k_is)
    (case a_is_pair_ => k_is)
    (case a_is_lot_ => k_is)
    (case a_is_link_ => k_is)
    (case a_check_net_ => k_is)
    (case a_is_lot_of_ => k_is)
    (case a_reached_ => k_is)
    (case a_is_wood_ => k_is)
    (case a_is_grown_ => k_is)
    (case a_is_tree_ => k_is)
    (case a_are_apart_ => k_is)
    (case a_is_packing_ => k_is)
    (case a__law_mixed_ => k_is)
    (case a__law_hand_ => k_is)
    (case a__law_draw_ => k_is)
    (case a__law_is_ => k_is)
    (case a__law_is_int_ => k_is)
    (case a__law_is_lot_ => k_is)
    (case a__law_shuffled_ => k_is)
    (case a__law_some_tree_ => k_is)
    (case a__law_some_links_ => k_is)
    (case a__law_parts_of_ => k_is)
    (case a__law_is_wood_ => k_is)
    (case a__law_are_apart_ => k_is)
    (case a__law_is_packing_ => k_is)
    (case a__law_grow_ => k_is)
    (case a__law_grown_trees_ => k_is)
    (case a__law_odd_ => k_is)
    (case a__law_bent_lot_ => k_is)
    (case a__law_bent_ => k_is)
    (case a_law_ => k_is)
    (case q_LEAST_PLACES => k_is)
    (case q_MOST_PLACES => k_is)
    (case q_MOST_LINKS => k_is)
    (case z_abs => k_is)
    (case z_all => k_is)
    (case z_any => k_is)
    (case z_bool => k_is)
    (case z_enumerate => k_is)
    (case z_int => k_is)
    (case z_isinstance => k_is)
    (case z_len => k_is)
    (case z_list => k_is)
    (case z_max => k_is)
    (case z_range => k_is)
    (case z_repr => k_is)
    (case z_set => k_is)
    (case z_sorted => k_is)
    (case z_tuple => k_is)
    (case g_Net_ => k_is)
    (case at_Net___init__ => k_is)
    (case l_is_integer => k_is)
    (case c_is_integer => k_is)
    (case k_is_integer => k_is)
    (case l_is_within => k_is)
    (case c_is_within => k_is)
    (case k_is_within => k_is)
    (case l_is_pair => k_is)
    (case c_is_pair => k_is)
    (case k_is_pair => k_is)
    (case l_is_lot => k_is)
    (case c_is_lot => k_is)
    (case k_is_lot => k_is)
    (case l_is_link => k_is)
    (case c_is_link => k_is)
    (case k_is_link => k_is)
    (case l_check_net => k_is)
    (case c_check_net => k_is)
    (case k_check_net => k_is)
    (case l_is_lot_of => k_is)
    (case c_is_lot_of => k_is)
    (case k_is_lot_of => k_is)
    (case l_reached => k_is)
    (case c_reached => k_is)
    (case k_reached => k_is)
    (case l_is_wood => k_is)
    (case c_is_wood => k_is)
    (case k_is_wood => k_is)
    (case l_is_grown => k_is)
    (case c_is_grown => k_is)
    (case k_is_grown => k_is)
    (case l_is_tree => k_is)
    (case c_is_tree => k_is)
    (case k_is_tree => k_is)
    (case l_are_apart => k_is)
    (case c_are_apart => k_is)
    (case k_are_apart => k_is)
    (case l_is_packing => k_is)
    (case c_is_packing => k_is)
    (case k_is_packing => k_is)
    (case l__law_mixed => k_is)
    (case c__law_mixed => k_is)
    (case k__law_mixed => k_is)
    (case l__law_hand => k_is)
    (case c__law_hand => k_is)
    (case k__law_hand => k_is)
    (case l__law_draw => k_is)
    (case c__law_draw => k_is)
    (case k__law_draw => k_is)
    (case l__law_is => k_is)
    (case c__law_is => k_is)
    (case k__law_is => k_is)
    (case l__law_is_int => k_is)
    (case c__law_is_int => k_is)
    (case k__law_is_int => k_is)
    (case l__law_is_lot => k_is)
    (case c__law_is_lot => k_is)
    (case k__law_is_lot => k_is)
    (case l__law_shuffled => k_is)
    (case c__law_shuffled => k_is)
    (case k__law_shuffled => k_is)
    (case l__law_some_tree => k_is)
    (case c__law_some_tree => k_is)
    (case k__law_some_tree => k_is)
    (case l__law_some_links => k_is)
    (case c__law_some_links => k_is)
    (case k__law_some_links => k_is)
    (case l__law_parts_of => k_is)
    (case c__law_parts_of => k_is)
    (case k__law_parts_of => k_is)
    (case l__law_is_wood => k_is)
    (case c__law_is_wood => k_is)
    (case k__law_is_wood => k_is)
    (case l__law_are_apart => k_is)
    (case c__law_are_apart => k_is)
    (case k__law_are_apart => k_is)
    (case l__law_is_packing => k_is)
    (case c__law_is_packing => k_is)
    (case k__law_is_packing => k_is)
    (case l__law_grow => k_is)
    (case c__law_grow => k_is)
    (case k__law_grow => k_is)
    (case l__law_grown_trees => k_is)
    (case c__law_grown_trees => k_is)
    (case k__law_grown_trees => k_is)
    (case l__law_odd => k_is)
    (case c__law_odd => k_is)
    (case k__law_odd => k_is)
    (case l__law_bent_lot => k_is)
    (case c__law_bent_lot => k_is)
    (case k__law_bent_lot => k_is)
    (case l__law_bent => k_is)
    (case c__law_bent => k_is)
    (case k__law_bent => k_is)
    (case l_law => k_is)
    (case c_law => k_is)
    (case k_law => k_is)
    (case l_Net___init__ => k_is)
    (case c_Net___init__ => k_is)
    (case k_Net___init__ => k_is)
    (case fn_Net___init__ => k_is)
    (case mk_Net_ => k_is)
    (case kc_Net => k_is)
    (case pg_Net => k_is)
    (case hd_Net => k_is)
    (case po_Net => k_is)
    (case sa_Net => k_is)
    (case i6 => k_is)
    (case i7 => k_is)
    (case ha_Net => k_is)
    (case hm_Net => k_is)
    (case y_Net_int => first | rfl | k_is)
    (case y_Net_bool => first | rfl | k_is)
    (case y_Net_tuple => first | rfl | k_is)
    (case y_Net_list => first | rfl | k_is)
    (case y_Net_dict => first | rfl | k_is)
    (case y_Net_str => first | rfl | k_is)
    (case y_Net_set => first | rfl | k_is)
    (case u_Net_NoneType => k_is)
    (case u_Net_int => k_is)
    (case u_Net_bool => k_is)
    (case u_Net_tuple => k_is)
    (case u_Net_list => k_is)
    (case u_Net_dict => k_is)
    (case u_Net_str => k_is)
    (case u_Net_set => k_is)
    (case ty_Net => k_is)
    (case nn_Net_links => k_is)
    (case nn_Net_many => k_is)
    (case nn_Net_root => k_is)

