import PyProof.Rows.All
import Wide.All
import OpenK.AllK
import Wide.FinOn
import HandS.ForMost
import HandS.ClsMeth
import HandS.Gcd
import HandS.IsInst
import HandS.Zip
import HandS.Rev
import HandS.Evl
import KE.KMathGC
import PySem.Challenge.RW_fewturnatonce_k36_fewest_wires
set_option Elab.async false
set_option linter.all false
set_option maxRecDepth 100000
set_option maxHeartbeats 4000000
local macro_rules | `(tactic| walk_at "g") => `(tactic| first
  | refine ⟨_, rfl, ?_⟩ | refine ⟨_, _, rfl, rfl, ?_⟩ | refine ⟨rfl, ?_⟩)

local macro_rules | `(tactic| walk_at "gg") => `(tactic| repeat walk_at "g")
namespace G
open PySem PySem.Spec PyProof.Rows L2
/-! ### a def of the module by its name: what a caller needs -/
structure Dn (P : Program) (w : World) (K : PySem.W.Frag) (mg : Str → Option Value) (base : Heap) (CX : CXT) (x : Str) (k : Nat) (ps : List Str) (sp : Sp) : Prop where
  ex : ∃ (f : Addr) (fd : FuncData), FnOk P w K mg base CX k f fd ps sp ∧ mg x = some (.ref f) ∧ PySem.W.keepIn K (.ref f) = true ∧ Binds K fd ps []
structure Fg (K : PySem.W.Frag) (mg : Str → Option Value) (x : Str) (st : Stmt) : Prop where
  ex : ∃ (f : Addr) (fd : FuncData), Fun K x x st f fd ∧ mg x = some (.ref f)
section
variable {X : Cx} {CX : CXT} {k : Nat} {x : Str} {ps : List Str} {sp : Sp} {E : XK} {e : Expr} {es : List Expr} {t : TA} {p pos : Pos}
theorem pe_callD (D : Dn X.prog X.w X.K X.mg X.base CX x k ps sp) (hr : Room k X.A) (hx : Passes CX X E) (ha : PA X (e :: es) t) (hg : Gl X x := by rfl)
    (hdb : (x == ("__debug__" : Str)) = false := by decide) (he : starEach (e :: es) X.env = (false, eval e X.env) :: starEach es X.env := by rfl) (hpl : (backTo pos (starEach es X.env)).any (·.1) = false := by rfl) :
    PE X (.Call (.Name x p) (e :: es) [] pos) (tCall sp [] E t) := by
  obtain ⟨f, fd, F, hm, hk, hb⟩ := D.ex
  exact pe_call F hr hg hm hk hb .nil hx ha hdb he hpl
theorem pe_callD0 (D : Dn X.prog X.w X.K X.mg X.base CX x k ps sp) (hr : Room k X.A) (hx : Passes CX X E) (hg : Gl X x := by rfl) (hdb : (x == ("__debug__" : Str)) = false := by decide) :
    PE X (.Call (.Name x p) [] [] pos) (tCall sp [] E tNil) := by
  obtain ⟨f, fd, F, hm, hk, hb⟩ := D.ex
  exact pe_call0 F hr hg hm hk hb .nil hx hdb
end
section
variable {P : Program} {w : World} {K : PySem.W.Frag} {mg : Str → Option Value} {base : Heap}
theorem dn_of {x : Str} {st : Stmt} {N ps : List Str} {k : Nat} {sp : Sp} (g : Fg K mg x st) (S : FnScope N ps (defScope st)) (len : ∀ vs H Q E, sp vs H Q E → vs.length = ps.length)
    (hb : ∀ (kV doc pm : Value) (an : Option Addr) (cdv ct : Value) (us : List Value), us.length = ps.length → bindArgs (PySem.W.fnOf x x (defArgs st) (defBody st) (defScope st) .none kV doc pm an cdv ct) ⟨us, []⟩ = pure (ps.zip us))
    (hbody : ∀ (f : Addr) (cdv : Value) (A : Around) (outer : List Env) (s : Shared) (H : Hp) (vs : List V) (Q : VK) (E : XK), Room k (A.deeper (envOfC x (defScope st) s.heap.objs.size f cdv)) → sp vs H Q E →
      ∃ t, PSs (cxOf CX0 P w K mg base N x (defScope st) f cdv A outer s H E).nox (defBody st) t ∧ t { nx := fun _ H' => Q .non H', rt := Q } (start N vs) H) :
    Dn P w K mg base CX0 x (k + 1) ps sp := by
  obtain ⟨f, fd, F, hm⟩ := g.ex
  exact ⟨f, fd, F.ok S len (hbody f), hm, F.kp, F.binds hb⟩
theorem Dn.imp {x : Str} {k : Nat} {ps : List Str} {sp sp' : Sp} {CX : CXT} (D : Dn P w K mg base CX x k ps sp) (h : ∀ vs H Q E, sp' vs H Q E → sp vs H Q E) : Dn P w K mg base CX x k ps sp' := by
  obtain ⟨f, fd, F, r⟩ := D.ex
  exact ⟨f, fd, F.imp h, r⟩
theorem fg_of {st : Stmt} {x : Str} {f : Addr} {h : Heap} {oc : Value} {od an : Option Addr} {osl : Array (Option Value)} {kV doc pm cdv ct : Value} (X : K.In h) (G : h.Ns mainGlobals mg)
    (a : PySem.W.nsIn K mainGlobals x = some (some (.ref f))) (l : K.lookup f = some ⟨oc, od, .func (PySem.W.fnOf x x (defArgs st) (defBody st) (defScope st) .none kV doc pm an cdv ct), osl⟩)
    (c : PySem.W.codeIn K cdv x = true) (kp : PySem.W.keepIn K (.ref f) = true) : Fg K mg x st := ⟨f, _, fun_mk l c kp, PySem.W.mg_of X G a⟩
end
/-! ### heaps -/
/-- all that was tracked stands, but at p -/
def Sb (p : Addr) (H H' : Hp) : Prop := ∀ b o, b ≠ p → H b = some o → H' b = some o
theorem Sb.refl (p : Addr) (H : Hp) : Sb p H H := fun _ _ _ h => h
theorem Sb.trans {p : Addr} {H H1 H2 : Hp} (a : Sb p H H1) (b : Sb p H1 H2) : Sb p H H2 := fun c o n h => b c o n (a c o n h)
theorem Sb.of {p : Addr} {H H' : Hp} (a : Same H H') : Sb p H H' := fun c o _ h => a c o h
theorem Sb.upd {p : Addr} {H H' : Hp} {o : HO} (a : Sb p H H') : Sb p H (upd H' p o) := fun c u n h => by rw [upd_ne n]; exact a c u n h
theorem same_new {H : Hp} {p : Addr} {o : HO} (h : H p = none) : Same H (upd H p o) := fun b x e => by rw [upd_ne (ne_of_none e h)]; exact e
theorem _root_.L2.Same.new {H H' : Hp} {p : Addr} {o : HO} (s : Same H H') (h : H' p = none) : Same H (upd H' p o) := s.trans (same_new h)
/-- a list that H does not know changes -/
theorem _root_.L2.Same.mut {H H' : Hp} {p : Addr} {o : HO} (s : Same H H') (h : H p = none) : Same H (upd H' p o) := fun b x e => by rw [upd_ne (ne_of_none e h)]; exact s b x e
theorem _root_.L2.Same.none {H H' : Hp} {p : Addr} (s : Same H H') (h : H' p = Option.none) : H p = Option.none := s.free h
def PoolAt (H : Hp) (p : Addr) : Prop := ∃ ns : List Int, H p = some (.lst (ns.map V.int))
theorem sq_lst {K : PySem.W.Frag} {H : Hp} {a : Addr} {xs : List V} (h : H a = some (.lst xs)) : SqL K H a xs := .inl (.inl h)
theorem sq_tup {K : PySem.W.Frag} {H : Hp} {a : Addr} {xs : List V} (h : H a = some (.tup xs)) : SqT K H a xs := .inl (.inl h)
theorem sz {n : Nat} (h : n ≤ 16777216) : n ≤ sizeLine := by rw [sizeLine_eq]; exact h
theorem szl {n : Nat} (h : n < 16777216) : n < sizeLine := by rw [sizeLine_eq]; exact h
theorem map_int_at {ns : List Int} {i : Nat} {x : V} (h : (ns.map V.int)[i]? = some x) : ∃ n, ns[i]? = some n ∧ x = .int n := by
  rw [List.getElem?_map] at h
  cases e : ns[i]? with
  | none => rw [e] at h; cases h
  | some z => rw [e] at h; exact ⟨z, rfl, (Option.some.inj h).symm⟩
theorem map_at {ns : List Int} {i : Nat} {n : Int} (h : ns[i]? = some n) : (ns.map V.int)[i]? = some (.int n) := by rw [List.getElem?_map, h]; rfl
theorem atI_of {α : Type} {xs : List α} {i : Int} {j : Nat} {v : α} (hi : i = (j : Int)) (h : xs[j]? = some v) : atI xs i = some v := by subst hi; exact atI_nat h
theorem take_more {α : Type} {l : List α} {i : Nat} {x : α} (h : l[i]? = some x) : l.take (i + 1) = l.take i ++ [x] := by
  rw [List.take_add_one, h]; rfl
theorem int_ne {i j : Int} (h : i ≠ j) : V.int i ≠ V.int j := fun e => h (V.int.inj e)
theorem ite2d {c : Prop} [Decidable c] {A B : Prop} (h1 : c → A) (h2 : ¬ c → B) : if decide c = true then A else B := by
  by_cases h : c
  · rw [if_pos (decide_eq_true h)]; exact h1 h
  · rw [if_neg (by simpa using h)]; exact h2 h
theorem ite2i {i j : Int} {A B : Prop} (h1 : i = j → A) (h2 : i ≠ j → B) : if decide (V.int i = V.int j) = true then A else B :=
  ite2d (fun e => h1 (V.int.inj e)) (fun e => h2 fun z => e (by rw [z]))
/-! ### for over a list of ints -/
theorem for_ints {K : PySem.W.Frag} {a : Addr} {ns : List Int} {g : TG} {tb : TS} {D : Ends} {σ : L2.St} {H : Hp} (Pv : Nat → L2.St → Hp → Prop) (h0 : Pv 0 σ H) (hl : ∀ i σ H, i ≤ ns.length → Pv i σ H → SqL K H a (ns.map V.int))
    (hs : ∀ i n σ H, ns[i]? = some n → Pv i σ H → g (.int n) σ H fun σ2 H2 => tb { D with nx := Pv (i + 1), ct := Pv (i + 1), bk := D.nx } σ2 H2) (hd : ∀ σ H, Pv ns.length σ H → D.nx σ H) :
    ∃ W : Nat → Nat → L2.St → Hp → Prop, (∃ m, W 0 m σ H) ∧ ∀ i m σ H, W i m σ H →
      ((Itl K a).stop i H ∧ D.nx σ H) ∨ ((Itl K a).go i H ∧ ∃ N : L2.St → Hp → Prop, (∀ σ' H', N σ' H' → ∃ m', m' < m ∧ W (i + 1) m' σ' H') ∧ ∀ x H', (Itl K a).yld i H x H' → g x σ H' fun σ2 H2 => tb { D with nx := N, ct := N, bk := D.nx } σ2 H2) := by
  refine for_list (xs := ns.map V.int) Pv h0 (fun i σ H hi p => hl i σ H (by rw [List.length_map] at hi; exact hi) p) (fun i x σ H hx p => ?_) (fun σ H p => hd σ H (by rw [List.length_map] at p; exact p))
  obtain ⟨n, hn, rfl⟩ := map_int_at hx
  exact hs i n σ H hn p
/-! ### math.comb -/
section
variable {X : Cx}
def rComb : List V → Hp → VK → Prop := fun vs H Q => ∃ a b : Int, vs = [.int a, .int b] ∧ 0 ≤ a ∧ 0 ≤ b ∧ a ≤ 18000 ∧ Q (.int (PySem.W.mcComb a b)) H
theorem cr_comb : CallR X (.builtin "math.comb") rComb := by
  intro pins s σ H vs us Q I r h
  obtain ⟨a, b, rfl, ha, hb, h1, q⟩ := h
  obtain ⟨t, u, rfl⟩ := Vals.int2 r
  exact PySem.W.mc_comb ha hb (by omega) (.inr h1) fun _ => ⟨.int _, H, I.tok _, ⟨_, rfl⟩, q⟩
end
end G

/-! binomials: cho n k, the ball bal n b = sum of cho n i for i ≤ b; math.comb is cho -/
namespace G
def cho : Nat → Nat → Nat
  | _, 0 => 1
  | 0, _ + 1 => 0
  | n + 1, k + 1 => cho n k + cho n (k + 1)
theorem cho_zero (n : Nat) : cho n 0 = 1 := by cases n <;> rfl
theorem cho_gt : ∀ {n k : Nat}, n < k → cho n k = 0
  | 0, k + 1, _ => rfl
  | n + 1, k + 1, h => by
    show cho n k + cho n (k + 1) = 0
    rw [cho_gt (show n < k by omega), cho_gt (show n < k + 1 by omega)]
theorem cho_self : ∀ n : Nat, cho n n = 1
  | 0 => rfl
  | n + 1 => by
    show cho n n + cho n (n + 1) = 1
    rw [cho_self n, cho_gt (Nat.lt_succ_self n)]
/-- (k + 1) * C(n, k + 1) = (n - k) * C(n, k) -/
theorem cho_step : ∀ n k : Nat, k ≤ n → (k + 1) * cho n (k + 1) = (n - k) * cho n k
  | 0, 0, _ => rfl
  | n + 1, 0, _ => by
    have ih := cho_step n 0 (Nat.zero_le n)
    rw [cho_zero] at ih
    show (0 + 1) * (cho n 0 + cho n (0 + 1)) = (n + 1 - 0) * cho (n + 1) 0
    rw [cho_zero, cho_zero]
    omega
  | n + 1, k + 1, h => by
    show (k + 1 + 1) * (cho n (k + 1) + cho n (k + 1 + 1)) = (n + 1 - (k + 1)) * (cho n k + cho n (k + 1))
    have e : n + 1 - (k + 1) = n - k := by omega
    rw [e]
    have h1 := cho_step n k (by omega)
    by_cases hk : k + 1 ≤ n
    · have h2 := cho_step n (k + 1) hk
      have e2 : n - k = (n - (k + 1)) + 1 := by omega
      rw [Nat.mul_add, Nat.mul_add, h2, ← h1, ← Nat.add_mul, ← Nat.add_mul]
      congr 1
      omega
    · have e3 : n = k := by omega
      subst e3
      rw [cho_gt (show n < n + 1 by omega), cho_gt (show n < n + 1 + 1 by omega)]
      simp
/-- (n + 1) * C(n, k) = (n + 1 - k) * C(n + 1, k) -/
theorem cho_up (n k : Nat) (h : k ≤ n) : (n + 1) * cho n k = (n + 1 - k) * cho (n + 1) k := by
  cases k with
  | zero => rw [cho_zero, cho_zero]; rfl
  | succ k =>
    show (n + 1) * cho n (k + 1) = (n + 1 - (k + 1)) * (cho n k + cho n (k + 1))
    have h1 := cho_step n k (by omega)
    have e : n + 1 - (k + 1) = n - k := by omega
    rw [e, Nat.mul_add, ← h1, ← Nat.add_mul]
    congr 1
    omega
theorem cho_sym : ∀ a b : Nat, cho (a + b) a = cho (a + b) b
  | 0, b => by rw [cho_zero, Nat.zero_add, cho_self]
  | a + 1, 0 => by rw [Nat.add_zero, cho_self, cho_zero]
  | a + 1, b + 1 => by
    show cho (a + 1 + b) a + cho (a + 1 + b) (a + 1) = cho (a + 1 + b) b + cho (a + 1 + b) (b + 1)
    have h1 : cho (a + 1 + b) a = cho (a + 1 + b) (b + 1) := by
      have := cho_sym a (b + 1)
      rw [show a + (b + 1) = a + 1 + b by omega] at this
      exact this
    have h2 := cho_sym (a + 1) b
    rw [h1, h2]; omega
/-! balls -/
def bal (n : Nat) : Nat → Nat
  | 0 => 1
  | b + 1 => bal n b + cho n (b + 1)
theorem bal_up (n : Nat) : ∀ b : Nat, bal (n + 1) b + cho n b = 2 * bal n b
  | 0 => by rw [cho_zero]; rfl
  | b + 1 => by
    have ih := bal_up n b
    show (bal (n + 1) b + (cho n b + cho n (b + 1))) + cho n (b + 1) = 2 * (bal n b + cho n (b + 1))
    omega
theorem cho_le_bal (n : Nat) : ∀ b, cho n b ≤ bal n b
  | 0 => by rw [cho_zero]; exact Nat.le_refl 1
  | b + 1 => Nat.le_add_left _ _
theorem bal_mono1 {n m b : Nat} (h : n ≤ m) : bal n b ≤ bal m b := by
  induction m with
  | zero => rw [Nat.le_zero.mp h]; exact Nat.le_refl _
  | succ m ih =>
    by_cases e : n = m + 1
    · rw [e]; exact Nat.le_refl _
    · have := ih (by omega)
      have h1 := bal_up m b
      have h2 := cho_le_bal m b
      omega
theorem bal_mono2 {n b c : Nat} (h : b ≤ c) : bal n b ≤ bal n c := by
  induction c with
  | zero => rw [Nat.le_zero.mp h]; exact Nat.le_refl _
  | succ c ih =>
    by_cases e : b = c + 1
    · rw [e]; exact Nat.le_refl _
    · exact Nat.le_trans (ih (by omega)) (Nat.le_add_right _ _)
theorem bal_pos (n b : Nat) : 1 ≤ bal n b := Nat.le_trans (bal_mono2 (n := n) (Nat.zero_le b)) (Nat.le_refl _)
theorem bal_zero : ∀ b, bal 0 b = 1
  | 0 => rfl
  | b + 1 => by show bal 0 b + 0 = 1; rw [bal_zero b]
theorem bal_full : ∀ {n b : Nat}, n ≤ b → bal n b = 2 ^ n
  | 0, b, _ => bal_zero b
  | n + 1, b, h => by
    have h1 := bal_up n b
    rw [bal_full (show n ≤ b by omega), cho_gt (show n < b by omega)] at h1
    rw [Nat.pow_succ]; omega
theorem bal_over {n b : Nat} (h : n ≤ b) : bal n b = bal n n := by rw [bal_full h, bal_full (Nat.le_refl n)]
end G
namespace G
/-- the sum of the cho n j for j < i -/
def bals (n : Nat) : Nat → Nat
  | 0 => 0
  | i + 1 => bal n i
theorem bals_succ (n : Nat) : ∀ i, bals n (i + 1) = bals n i + cho n i
  | 0 => by show 1 = 0 + cho n 0; rw [cho_zero]
  | _ + 1 => rfl
theorem cho_div {n i : Nat} (h : i ≤ n) : ((cho n i : Nat) : Int) * ((n : Int) - (i : Int)) / ((i : Int) + 1) = ((cho n (i + 1) : Nat) : Int) := by
  have h1 := cho_step n i h
  have e : ((n : Int) - (i : Int)) = ((n - i : Nat) : Int) := by omega
  have e2 : ((i : Int) + 1) = ((i + 1 : Nat) : Int) := by omega
  rw [e, e2, ← Int.natCast_mul, Nat.mul_comm, ← h1, ← Int.natCast_ediv, Nat.mul_div_cancel_left _ (Nat.succ_pos i)]
theorem cho_divUp {n k : Nat} (h : k ≤ n) : ((cho n k : Nat) : Int) * ((n : Int) + 1) / ((n : Int) + 1 - (k : Int)) = ((cho (n + 1) k : Nat) : Int) := by
  have h1 := cho_up n k h
  have e : ((n : Int) + 1) = ((n + 1 : Nat) : Int) := by omega
  have e2 : (((n + 1 : Nat) : Int) - (k : Int)) = ((n + 1 - k : Nat) : Int) := by omega
  rw [e, e2, ← Int.natCast_mul, Nat.mul_comm, h1, ← Int.natCast_ediv, Nat.mul_div_cancel_left _ (by omega)]
theorem bal_min (n b : Nat) : bal n (min n b) = bal n b := by
  by_cases h : n ≤ b
  · rw [Nat.min_eq_left h, bal_over h]
  · rw [Nat.min_eq_right (by omega)]
end G

/-! math.comb is cho -/
namespace G
open PySem
def fac : Nat → Nat
  | 0 => 1
  | n + 1 => (n + 1) * fac n
theorem fac_pos : ∀ n, 0 < fac n
  | 0 => Nat.one_pos
  | n + 1 => Nat.mul_pos (Nat.succ_pos n) (fac_pos n)
theorem fp_succ (n : Int) (k : Nat) : Builtin.Math.fallingProduct n (k + 1) = Builtin.Math.fallingProduct n k * (n - k) := by
  unfold Builtin.Math.fallingProduct
  rw [List.range_succ, List.foldl_append]; rfl
theorem fp_cho (n : Nat) : ∀ k : Nat, k ≤ n → Builtin.Math.fallingProduct (n : Int) k = ((fac k * cho n k : Nat) : Int)
  | 0, _ => by rw [cho_zero]; rfl
  | k + 1, h => by
    rw [fp_succ, fp_cho n k (by omega)]
    have h1 := cho_step n k (by omega)
    have e : ((n : Int) - (k : Int)) = ((n - k : Nat) : Int) := by omega
    rw [e, ← Int.natCast_mul]
    congr 1
    show fac k * cho n k * (n - k) = (k + 1) * fac k * cho n (k + 1)
    rw [Nat.mul_assoc, Nat.mul_comm (cho n k), ← h1, ← Nat.mul_assoc, Nat.mul_comm (fac k)]
theorem mcComb_cho (n k : Nat) : PySem.W.mcComb (n : Int) (k : Int) = ((cho n k : Nat) : Int) := by
  by_cases h : n < k
  · rw [PySem.W.mcComb_above (by omega), cho_gt h]; rfl
  · have hk : k ≤ n := by omega
    have key : ∀ m : Nat, m ≤ n → cho n m = cho n k → (Builtin.Math.fallingProduct (n : Int) m / Builtin.Math.fallingProduct (m : Int) m) = ((cho n k : Nat) : Int) := by
      intro m hm e
      rw [fp_cho n m hm, fp_cho m m (Nat.le_refl m), cho_self, Nat.mul_one, ← Int.natCast_ediv, Nat.mul_div_cancel_left _ (fac_pos m), e]
    by_cases c : k ≤ n - k
    · have hm : min (k : Int) ((n : Int) - (k : Int)) = (k : Int) := by omega
      rw [PySem.W.mcComb_at (a := (n : Int)) (b := (k : Int)) (m := (k : Int)) (by omega) (by omega) hm]
      rw [Int.toNat_natCast]
      exact key k hk rfl
    · have hm : min (k : Int) ((n : Int) - (k : Int)) = ((n - k : Nat) : Int) := by omega
      rw [PySem.W.mcComb_at (a := (n : Int)) (b := (k : Int)) (m := ((n - k : Nat) : Int)) (by omega) (by omega) hm]
      rw [Int.toNat_natCast]
      refine key (n - k) (by omega) ?_
      have := cho_sym (n - k) k
      rw [show n - k + k = n by omega] at this
      exact this
end G

namespace Lw
open PySem PySem.Spec PyProof.Rows L2 G
def topS (i : Nat) : Stmt := PySem.Challenge.pw_fewturnatonce_k36_fewest_wires.main.body.getD i (.Pass ⟨0, 0, 0, 0⟩)
structure Mg (mg : Str → Option Value) : Prop where
  all : mg "all" = none
  bool : mg "bool" = none
  enumerate : mg "enumerate" = none
  int : mg "int" = none
  isinstance : mg "isinstance" = none
  len : mg "len" = none
  list : mg "list" = none
  max : mg "max" = none
  min : mg "min" = none
  range : mg "range" = none
  str : mg "str" = none
  sum : mg "sum" = none
  tuple : mg "tuple" = none
  comb : mg "comb" = some (.builtin "math.comb")
structure Cg (K : PySem.W.Frag) (mg : Str → Option Value) : Prop where
  rule : ∃ (R : Addr) (mc : Value), mg "Rule" = some (.ref R) ∧ ClX.CRead K R mc ∧ ∃ u, ClX.CVal K R mc "MOST_WIRES" (.int 300) u
end Lw
namespace Lw
open PySem PySem.Spec PyProof.Rows L2 G
section
variable {P : Program} {w : World} {K : PySem.W.Frag} {mg : Str → Option Value} {base : Heap}
/-- t is the answer to fewest_wires(m, b) -/
def FW (m : Int) (b : Nat) (t : V) : Prop := (t = .non ∧ ((bal 300 b : Nat) : Int) < m) ∨ ∃ w : Nat, w ≤ 300 ∧ t = .int w ∧ m ≤ ((bal w b : Nat) : Int) ∧ (w = 0 ∨ ((bal (w - 1) b : Nat) : Int) < m)
def sp_fewest_wires (_K : PySem.W.Frag) : Sp := fun vs H Q _ => ∃ (m : Int) (b : Nat), vs = [.int m, .int b] ∧ ∀ t, FW m b t → Q t H
theorem comb0 (i b : Nat) : PySem.W.mcComb (0 + (i : Int)) (b : Int) = ((cho i b : Nat) : Int) := by rw [Int.zero_add, mcComb_cho]
abbrev s_fewest_wires : Stmt := topS 15
theorem sc_fewest_wires : FnScope ["messages", "bound", "count", "wires"] ["messages", "bound"] (defScope s_fewest_wires) := ⟨rfl, rfl, rfl, by decide +kernel, rfl, by decide +kernel, by decide +kernel⟩
/-- slots: 0 messages 1 bound 2 count 3 wires -/
theorem dn_fewest_wires (M : Mg mg) (C : Cg K mg) (g : Fg K mg "fewest_wires" s_fewest_wires) : Dn P w K mg base CX0 "fewest_wires" 1 ["messages", "bound"] (sp_fewest_wires K) := by
  refine dn_of g sc_fewest_wires (fun vs H Q E h => by unfold sp_fewest_wires at h; (repeat (obtain ⟨_, h⟩ := h)); subst_vars; rfl) (fun _ _ _ _ _ _ us hl => match us, hl with | [_, _], _ => rfl) (fun f cdv A outer s H vs Q E hr h => ?_)
  obtain ⟨m, b, rfl, q⟩ := h
  have nd := sc_fewest_wires.nd
  obtain ⟨R, mc, hR, cR, u, cv⟩ := C.rule
  refine ⟨_, (pss_cons (ps_set (i := 2) nd rfl (by first | exact Or.inl rfl | exact Or.inr rfl) pe_int)
    (pss_cons (ps_for PassesOwn.never rfl (pi_range1 rfl M.range (pa_cons (pe_op op_add (ClX.pe_cval (pe_glob (v := .ref R) rfl hR rfl)) pe_int) pa_nil)) (pg_name (i := 3) nd rfl (by first | exact Or.inl rfl | exact Or.inr rfl)) (pss_cons (ps_if (pt_cmpR op_ge (pv 2) (pv 0) (nomark _)) (pss_one (ps_ret (pv 3))) pss_nil)
    (pss_one (ps_set (i := 2) nd rfl (by first | exact Or.inl rfl | exact Or.inr rfl) (pe_op op_sub (pe_op op_mul pe_int (pv 2)) (pe_callBfun G.cr_comb (by rfl) M.comb (pa_cons (pv 3) (pa_cons (pv 1) pa_nil))))))))
    (pss_one (ps_ret pe_non)))), ?_⟩
  refine ⟨R, mc, .int 300, u, rfl, cR, cv, _, _, rfl, rfl, _, rfl, by omega, by omega, for_range (lo := 0) (n := 301)
    (fun i σ H' => H' = H ∧ ∃ v, σ = [some (.int m), some (.int b), some (.int (bal i b : Nat)), v] ∧ (i = 0 ∨ ((bal (i - 1) b : Nat) : Int) < m)) ⟨rfl, none, by rw [bal_zero]; rfl, .inl rfl⟩ ?_ ?_⟩
  · rintro i σ H' hi ⟨rfl, v, rfl, hb⟩
    refine ⟨_, rfl, _, rfl, _, _, rfl, rfl, _, rfl, ite2d (fun e => ?_) (fun e => ?_)⟩
    · refine ⟨_, rfl, q _ (.inr ⟨i, by omega, by rw [Int.zero_add], e, hb⟩)⟩
    · refine ⟨_, rfl, _, _, rfl, rfl, .inl ⟨by omega, by omega⟩, _, rfl, _, rfl, _, _, rfl, by omega, by omega, by omega, _, _, rfl, rfl, ?_⟩
      refine ⟨rfl, some (.int (0 + (i : Int))), ?_, .inr ?_⟩
      · have hup := bal_up i b
        dsimp only
        rw [comb0, show (2 * ((bal i b : Nat) : Int) - ((cho i b : Nat) : Int)) = ((bal (i + 1) b : Nat) : Int) by omega]
        rfl
      · show ((bal i b : Nat) : Int) < m
        omega
  · rintro σ H' ⟨rfl, v, rfl, hb⟩
    exact q _ (.inl ⟨rfl, hb.resolve_left (by omega)⟩)
def LB (n : Nat) (m : Int) (t : V) : Prop := (t = .non ∧ (2 : Int) ^ n < m) ∨ ∃ b : Nat, b ≤ n ∧ t = .int b ∧ m ≤ ((bal n b : Nat) : Int) ∧ (b = 0 ∨ ((bal n (b - 1) : Nat) : Int) < m)
def sp_least_bound (_K : PySem.W.Frag) : Sp := fun vs H Q _ => ∃ (n : Nat) (m : Int), vs = [.int n, .int m] ∧ n ≤ 10000 ∧ ∀ t, LB n m t → Q t H
abbrev s_least_bound : Stmt := topS 16
theorem sc_least_bound : FnScope ["wires", "messages", "count", "bound"] ["wires", "messages"] (defScope s_least_bound) := ⟨rfl, rfl, rfl, by decide +kernel, rfl, by decide +kernel, by decide +kernel⟩
/-- slots: 0 wires 1 messages 2 count 3 bound -/
theorem dn_least_bound (M : Mg mg) (C : Cg K mg) (g : Fg K mg "least_bound" s_least_bound) : Dn P w K mg base CX0 "least_bound" 1 ["wires", "messages"] (sp_least_bound K) := by
  refine dn_of g sc_least_bound (fun vs H Q E h => by unfold sp_least_bound at h; (repeat (obtain ⟨_, h⟩ := h)); subst_vars; rfl) (fun _ _ _ _ _ _ us hl => match us, hl with | [_, _], _ => rfl) (fun f cdv A outer s H vs Q E hr h => ?_)
  obtain ⟨n, m, rfl, hn, q⟩ := h
  have nd := sc_least_bound.nd
  refine ⟨_, (pss_cons (ps_set (i := 2) nd rfl (by first | exact Or.inl rfl | exact Or.inr rfl) pe_int)
    (pss_cons (ps_for PassesOwn.never rfl (pi_range1 rfl M.range (pa_cons (pe_op op_add (pv 0) pe_int) pa_nil)) (pg_name (i := 3) nd rfl (by first | exact Or.inl rfl | exact Or.inr rfl)) (pss_cons (ps_aug (i := 2) nd rfl (by first | exact Or.inl rfl | exact Or.inr rfl) (pe_callBfun G.cr_comb (by rfl) M.comb (pa_cons (pv 0) (pa_cons (pv 3) pa_nil))) ip_add)
    (pss_one (ps_if (pt_cmpR op_ge (pv 2) (pv 1) (nomark _)) (pss_one (ps_ret (pv 3))) pss_nil))))
    (pss_one (ps_ret pe_non)))), ?_⟩
  refine ⟨_, rfl, _, _, rfl, rfl, _, rfl, by omega, by omega, for_range (lo := 0) (n := ((n : Int) + 1).toNat)
    (fun i σ H' => H' = H ∧ ∃ v, σ = [some (.int n), some (.int m), some (.int (bals n i : Nat)), v] ∧ (i = 0 ∨ ((bals n i : Nat) : Int) < m)) ⟨rfl, none, rfl, .inl rfl⟩ ?_ ?_⟩
  · rintro i σ H' hi ⟨rfl, v, rfl, hb⟩
    refine ⟨_, rfl, _, rfl, _, rfl, _, _, rfl, by omega, by omega, by omega, _, _, rfl, rfl, ?_⟩
    have e0 : (((bals n i : Nat) : Int) + PySem.W.mcComb (n : Int) (0 + (i : Int))) = ((bals n (i + 1) : Nat) : Int) := by
      rw [Int.zero_add, mcComb_cho, bals_succ]; omega
    dsimp only
    rw [e0]
    refine ⟨_, rfl, _, rfl, _, _, rfl, rfl, _, rfl, ite2d (fun e => ?_) (fun e => ?_)⟩
    · refine ⟨_, rfl, q _ (.inr ⟨i, by omega, by rw [Int.zero_add], e, ?_⟩)⟩
      rcases hb with h | h
      · exact .inl h
      · cases i with
        | zero => exact .inl rfl
        | succ i => exact .inr h
    · exact ⟨rfl, some (.int (0 + (i : Int))), rfl, .inr (by omega)⟩
  · rintro σ H' ⟨rfl, v, rfl, hb⟩
    refine q _ (.inl ⟨rfl, ?_⟩)
    have e : ((n : Int) + 1).toNat = n + 1 := by omega
    rw [e] at hb
    rcases hb with h | h
    · omega
    · have h2 : ((bal n n : Nat) : Int) < m := h
      rw [bal_full (Nat.le_refl n)] at h2
      simpa using h2
/-- ts is the answer to wires_for_bits(b, k) -/
def FWs (b k : Nat) (ts : List V) : Prop := ts.length = k + 1 ∧ ∀ (i : Nat) (t : V), ts[i]? = some t → FW ((2 ^ i : Nat) : Int) b t
def sp_wires_for_bits (_K : PySem.W.Frag) : Sp := fun vs H Q _ => ∃ (b k : Nat), vs = [.int b, .int k] ∧ k ≤ 10000 ∧
  ∀ (H' : Hp) (p : Addr) (ts : List V), Same H H' → H p = none → H' p = some (.lst ts) → FWs b k ts → Q (.ref p) H'
/-- the wires found so far, ahead of i wires -/
structure WInv (b k i : Nat) (ws : List Nat) : Prop where
  le : ws.length ≤ k + 1
  ok : ∀ (j w : Nat), ws[j]? = some w → w ≤ 300 ∧ 2 ^ j ≤ bal w b ∧ (w = 0 ∨ bal (w - 1) b < 2 ^ j)
  nxt : ws.length ≤ k → i = 0 ∨ bal (i - 1) b < 2 ^ ws.length
theorem WInv.push {b k i : Nat} {ws : List Nat} (h : WInv b k i ws) (h1 : ws.length ≤ k) (h2 : 2 ^ ws.length ≤ bal i b) (hi : i ≤ 300) : WInv b k i (ws ++ [i]) := by
  have hn := h.nxt h1
  refine ⟨by rw [List.length_append]; simp; omega, fun j w hj => ?_, fun _ => ?_⟩
  · by_cases c : j < ws.length
    · rw [List.getElem?_append_left c] at hj
      exact h.ok j w hj
    · rw [List.getElem?_append_right (by omega)] at hj
      have e : j = ws.length := by
        have : j - ws.length < [i].length := (List.getElem?_eq_some_iff.mp hj).1
        simp at this; omega
      subst e
      rw [Nat.sub_self] at hj
      have : i = w := Option.some.inj hj
      subst this
      exact ⟨hi, h2, hn⟩
  · rcases hn with hn | hn
    · exact .inl hn
    · refine .inr (Nat.lt_of_lt_of_le hn (Nat.pow_le_pow_right (by decide) ?_))
      rw [List.length_append]; omega
theorem WInv.next {b k i : Nat} {ws : List Nat} (h : WInv b k i ws) (hx : ws.length ≤ k → bal i b < 2 ^ ws.length) : WInv b k (i + 1) ws := ⟨h.le, h.ok, fun q => .inr (hx q)⟩
theorem WInv.done {b k : Nat} {ws : List Nat} (h : WInv b k 301 ws) : FWs b k (ws.map (fun w : Nat => V.int w) ++ List.replicate (k + 1 - ws.length) V.non) := by
  have hl := h.le
  refine ⟨by rw [List.length_append, List.length_map, List.length_replicate]; omega, fun i t ht => ?_⟩
  by_cases c : i < ws.length
  · rw [List.getElem?_append_left (by rw [List.length_map]; exact c), List.getElem?_map] at ht
    cases e : ws[i]? with
    | none => rw [e] at ht; cases ht
    | some w =>
      rw [e] at ht
      have : V.int w = t := Option.some.inj ht
      subst this
      obtain ⟨h1, h2, h3⟩ := h.ok i w e
      exact .inr ⟨w, h1, rfl, by omega, h3.imp id (fun h3 => by omega)⟩
  · rw [List.getElem?_append_right (by rw [List.length_map]; omega), List.length_map, List.getElem?_replicate] at ht
    split at ht
    · rename_i hi
      have : V.non = t := Option.some.inj ht
      subst this
      refine .inl ⟨rfl, ?_⟩
      have h1 := (h.nxt (by omega)).resolve_left (by omega)
      have h2 : 2 ^ ws.length ≤ 2 ^ i := Nat.pow_le_pow_right (by decide) (by omega)
      have h3 : bal 300 b < 2 ^ ws.length := h1
      omega
    · cases ht
abbrev s_wires_for_bits : Stmt := topS 17
theorem sc_wires_for_bits : FnScope ["bound", "bits", "found", "count", "wires"] ["bound", "bits"] (defScope s_wires_for_bits) := ⟨rfl, rfl, rfl, by decide +kernel, rfl, by decide +kernel, by decide +kernel⟩
/-- slots: 0 bound 1 bits 2 found 3 count 4 wires -/
theorem dn_wires_for_bits (M : Mg mg) (C : Cg K mg) (g : Fg K mg "wires_for_bits" s_wires_for_bits) : Dn P w K mg base CX0 "wires_for_bits" 1 ["bound", "bits"] (sp_wires_for_bits K) := by
  refine dn_of g sc_wires_for_bits (fun vs H Q E h => by unfold sp_wires_for_bits at h; (repeat (obtain ⟨_, h⟩ := h)); subst_vars; rfl) (fun _ _ _ _ _ _ us hl => match us, hl with | [_, _], _ => rfl) (fun f cdv A outer s H vs Q E hr h => ?_)
  obtain ⟨b, k, rfl, hk, q⟩ := h
  have nd := sc_wires_for_bits.nd
  obtain ⟨R, mc, hR, cR, u, cv⟩ := C.rule
  refine ⟨_, (pss_cons (ps_set (i := 2) nd rfl (by first | exact Or.inl rfl | exact Or.inr rfl) (pe_lst pa_nil))
    (pss_cons (ps_set (i := 3) nd rfl (by first | exact Or.inl rfl | exact Or.inr rfl) pe_int)
    (pss_cons (ps_for PassesOwn.never rfl (pi_range1 rfl M.range (pa_cons (pe_op op_add (ClX.pe_cval (pe_glob (v := .ref R) rfl hR rfl)) pe_int) pa_nil)) (pg_name (i := 4) nd rfl (by first | exact Or.inl rfl | exact Or.inr rfl)) (pss_cons (ps_while PassesOwn.never (PW.pt (pw_and (pt_cmpR op_le (pe_callB call_len_seq (by rfl) M.len PySem.boot_len (pa_cons (pv 2) pa_nil)) (pv 1) (nomark _)) (pw_and1 (pt_cmpR op_ge (pv 3) (pe_op op_shl pe_int (pe_callB call_len_seq (by rfl) M.len PySem.boot_len (pa_cons (pv 2) pa_nil))) (nomark _))))) (pss_one (ps_expr (pe_bm PySem.F.plainAttrs_list PySem.F.slot_list_append PySem.F.type_list_append mt_append (pv 2) (pa_cons (pv 4) pa_nil)))))
    (pss_one (ps_set (i := 3) nd rfl (by first | exact Or.inl rfl | exact Or.inr rfl) (pe_op op_sub (pe_op op_mul pe_int (pv 3)) (pe_callBfun G.cr_comb (by rfl) M.comb (pa_cons (pv 4) (pa_cons (pv 0) pa_nil))))))))
    (pss_one (ps_ret (pe_op op_cat (pv 2) (pe_op op_rep (pe_lst (pa_cons pe_non pa_nil)) (pe_op op_sub (pe_op op_add (pv 1) pe_int) (pe_callB call_len_seq (by rfl) M.len PySem.boot_len (pa_cons (pv 2) pa_nil)))))))))), ?_⟩
  refine ⟨Nat.zero_le _, fun o no => ?_⟩
  refine ⟨R, mc, .int 300, u, rfl, cR, cv, _, _, rfl, rfl, _, rfl, by omega, by omega, for_range (lo := 0) (n := 301)
    (fun i σ H' => Same H H' ∧ ∃ (ws : List Nat) (v : Option V), H' o = some (.lst (ws.map fun w : Nat => V.int w)) ∧ WInv b k i ws ∧ σ = [some (.int b), some (.int k), some (.ref o), some (.int (bal i b : Nat)), v])
    ⟨same_new no, [], none, upd_same, ⟨Nat.zero_le _, fun j w h => by simp at h, fun _ => .inl rfl⟩, by rw [bal_zero]; rfl⟩ ?_ ?_⟩
  · rintro i σ H' hi ⟨sm, ws, v, ho, hw, rfl⟩
    refine ⟨fun m σ2 H2 => Same H H2 ∧ ∃ (ws : List Nat), H2 o = some (.lst (ws.map fun w : Nat => V.int w)) ∧ WInv b k i ws ∧ σ2 = [some (.int b), some (.int k), some (.ref o), some (.int (bal i b : Nat)), some (.int (0 + (i : Int)))] ∧ m = k + 1 - ws.length,
      ⟨_, sm, ws, ho, hw, rfl, rfl⟩, ?_⟩
    rintro m σ2 H2 ⟨sm2, ws2, ho2, hw2, rfl, rfl⟩
    have fin : (ws2.length ≤ k → bal i b < 2 ^ ws2.length) → (tAsg (tOp (rI0 fun i j => .int (i - j)) (tOp (rI CMul fun i j => .int (i * j)) (tC (.int 2)) (tVar 3)) (tCB rComb (tCons (tVar 4) (tCons (tVar 0) tNil)))) (gName 3))
        { nx := fun σ H' => Same H H' ∧ ∃ (ws : List Nat) (v : Option V), H' o = some (.lst (ws.map fun w : Nat => V.int w)) ∧ WInv b k (i + 1) ws ∧ σ = [some (.int b), some (.int k), some (.ref o), some (.int (bal (i + 1) b : Nat)), v], rt := Q, bk := fun _ _ => True, ct := fun _ _ => True }
        [some (.int b), some (.int k), some (.ref o), some (.int (bal i b : Nat)), some (.int (0 + (i : Int)))] H2 := by
      intro hx
      refine ⟨_, rfl, _, _, rfl, rfl, .inl ⟨by omega, by omega⟩, _, rfl, _, rfl, _, _, rfl, by omega, by omega, by omega, _, _, rfl, rfl, ?_⟩
      refine ⟨sm2, ws2, some (.int (0 + (i : Int))), ho2, hw2.next hx, ?_⟩
      have hup := bal_up i b
      dsimp only
      rw [comb0, show (2 * ((bal i b : Nat) : Int) - ((cho i b : Nat) : Int)) = ((bal (i + 1) b : Nat) : Int) by omega]
      rfl
    refine ⟨_, rfl, o, _, rfl, .inl (sq_lst ho2), _, rfl, _, _, rfl, rfl, _, rfl, ite2d (fun e => ?_) (fun e => iteF ?_)⟩
    · rw [List.length_map] at e
      refine ⟨_, rfl, _, rfl, o, _, rfl, .inl (sq_lst ho2), _, _, rfl, rfl, ⟨by omega, by rw [List.length_map]; omega, by decide⟩, _, _, rfl, rfl, _, rfl, ite2d (fun e2 => ?_) (fun e2 => ?_)⟩
      · rw [List.length_map, Int.one_mul, Int.toNat_natCast] at e2
        have e3 : (2 : Int) ^ ws2.length = ((2 ^ ws2.length : Nat) : Int) := by simp
        rw [e3] at e2
        refine ⟨fun σ3 H3 => σ3 = [some (.int b), some (.int k), some (.ref o), some (.int (bal i b : Nat)), some (.int (0 + (i : Int)))] ∧ H3 = upd H2 o (.lst (ws2.map (fun w : Nat => V.int w) ++ [.int (0 + (i : Int))])), ?_, ?_⟩
        · rintro σ3 H3 ⟨rfl, rfl⟩
          refine ⟨k + 1 - (ws2 ++ [i]).length, ?_, Same.mut sm2 no, ws2 ++ [i], ?_, hw2.push (by omega) (by omega) (by omega), rfl, rfl⟩
          · rw [List.length_append]; simp; omega
          · rw [upd_same, List.map_append, Int.zero_add]; rfl
        · refine ⟨_, rfl, .inl ⟨rfl, _, sq_lst ho2⟩, _, rfl, o, _, _, rfl, rfl, ho2, szl (by rw [List.length_map]; omega), ?_⟩
          exact ⟨rfl, rfl⟩
      · rw [List.length_map, Int.one_mul, Int.toNat_natCast] at e2
        have e3 : (2 : Int) ^ ws2.length = ((2 ^ ws2.length : Nat) : Int) := by simp
        rw [e3] at e2
        exact fin (fun _ => by omega)
    · rw [List.length_map] at e
      exact fin (fun _ => by omega)
  · rintro σ H' ⟨sm, ws, v, ho, hw, rfl⟩
    have hl := hw.le
    refine ⟨_, rfl, by decide, fun l1 n1 => ?_⟩
    have o1 : (upd H' l1 (.lst [V.non])) o = some (.lst (ws.map fun w : Nat => V.int w)) := by rw [upd_ne (ne_of_none ho n1)]; exact ho
    refine ⟨_, rfl, _, _, rfl, rfl, _, rfl, o, _, rfl, .inl (sq_lst o1), _, _, rfl, rfl, l1, _, _, rfl, rfl, upd_same, ?_, ?_, ?_, fun l2 n2 => ?_⟩
    · rw [List.length_map]; omega
    · rw [List.length_map]; omega
    · rw [List.length_map]; exact sz (by simp; omega)
    · have o2 : (upd (upd H' l1 (.lst [V.non])) l2 (.lst (List.replicate ((k : Int) + 1 - ((List.map (fun w : Nat => V.int w) ws).length : Int)).toNat [V.non]).flatten)) o = some (.lst (ws.map fun w : Nat => V.int w)) := by
        rw [upd_ne (ne_of_none o1 n2)]; exact o1
      have e1 : ((k : Int) + 1 - ((List.map (fun w : Nat => V.int w) ws).length : Int)).toNat = k + 1 - ws.length := by rw [List.length_map]; omega
      refine ⟨o, l2, _, _, rfl, rfl, o2, upd_same, ?_, fun p np => ?_⟩
      · rw [e1]; exact sz (by simp; omega)
      · refine q _ p _ (((sm.new n1).new n2).new np) (((sm.new n1).new n2).none np) upd_same ?_
        rw [e1, show (List.replicate (k + 1 - ws.length) [V.non]).flatten = List.replicate (k + 1 - ws.length) V.non by simp]
        exact hw.done
/-- _law_pool(script, count): a new list of ints -/
def sp__law_pool (K : PySem.W.Frag) : Sp := fun vs H Q _ => ∃ (a : Addr) (ns : List Int) (c : Nat), vs = [.ref a, .int c] ∧ SqL K H a (ns.map V.int) ∧ ns.length ≤ 1000 ∧ c ≤ 100000 ∧
  ∀ (H' : Hp) (p : Addr) (ds : List Int), Same H H' → H p = none → H' p = some (.lst (ds.map V.int)) → Q (.ref p) H'
/-- the draws so far -/
structure Drawn1 (H H' : Hp) (o : Addr) (c : Nat) : Prop where
  same : Same H H'
  at_ : ∃ ds : List Int, H' o = some (.lst (ds.map V.int)) ∧ ds.length ≤ c
theorem Drawn1.add {H H' : Hp} {o : Addr} {c : Nat} {ds : List Int} {z : Int} (d : Drawn1 H H' o c) (hn : H o = none) (h : ds.length < c) : Drawn1 H (upd H' o (.lst (ds.map V.int ++ [.int z]))) o c :=
  ⟨Same.mut d.same hn, ds ++ [z], by rw [upd_same, List.map_append]; rfl, by rw [List.length_append]; exact h⟩
abbrev s__law_pool : Stmt := topS 19
theorem sc__law_pool : FnScope ["script", "count", "draws", "seed", "cell", "number", "k"] ["script", "count"] (defScope s__law_pool) := ⟨rfl, rfl, rfl, by decide +kernel, rfl, by decide +kernel, by decide +kernel⟩
/-- slots: 0 script 1 count 2 draws 3 seed 4 cell 5 number 6 k -/
theorem dn__law_pool (M : Mg mg) (C : Cg K mg) (g : Fg K mg "_law_pool" s__law_pool) : Dn P w K mg base CX0 "_law_pool" 1 ["script", "count"] (sp__law_pool K) := by
  refine dn_of g sc__law_pool (fun vs H Q E h => by unfold sp__law_pool at h; (repeat (obtain ⟨_, h⟩ := h)); subst_vars; rfl) (fun _ _ _ _ _ _ us hl => match us, hl with | [_, _], _ => rfl) (fun f cdv A outer s H vs Q E hr h => ?_)
  obtain ⟨a, ns, c, rfl, hS, hlen, hc, q⟩ := h
  have nd := sc__law_pool.nd
  refine ⟨_, (pss_cons (ps_set (i := 2) nd rfl (by first | exact Or.inl rfl | exact Or.inr rfl) (pe_lst pa_nil))
    (pss_cons (ps_set (i := 3) nd rfl (by first | exact Or.inl rfl | exact Or.inr rfl) (pe_op op_add pe_int (pe_callB call_len_seq (by rfl) M.len PySem.boot_len (pa_cons (pv 0) pa_nil))))
    (pss_cons (ps_for PassesOwn.never rfl (pi_list (pv 0)) (pg_name (i := 4) nd rfl (by first | exact Or.inl rfl | exact Or.inr rfl)) (pss_cons (ps_set (i := 5) nd rfl (by first | exact Or.inl rfl | exact Or.inr rfl) (pe_callTy call_int1 (by rfl) M.int (by decide +kernel) (pa_cons (pv 4) pa_nil)))
    (Evl.pss_cut (ps_if (pt_cmpR op_ge (pv 5) (pe_op op_pow pe_int pe_int) (nomark _)) (pss_one (ps_for PassesOwn.never rfl (pi_range1 rfl M.range (pa_cons pe_int pa_nil)) (pg_name (i := 6) nd rfl (by first | exact Or.inl rfl | exact Or.inr rfl)) (pss_one (ps_if (PW.pt (pw_and (pt_cmpR op_gt (pv 5) pe_int (nomark _)) (pw_and1 (pt_cmpR op_lt (pe_callB call_len_seq (by rfl) M.len PySem.boot_len (pa_cons (pv 2) pa_nil)) (pv 1) (nomark _))))) (pss_cons (ps_expr (pe_bm PySem.F.plainAttrs_list PySem.F.slot_list_append PySem.F.type_list_append mt_append (pv 2) (pa_cons (pe_op op_mod (pe_callTy call_int1 (by rfl) M.int (by decide +kernel) (pa_cons (pv 5) pa_nil)) pe_int) pa_nil)))
    (pss_one (ps_set (i := 5) nd rfl (by first | exact Or.inl rfl | exact Or.inr rfl) (pe_op op_fdiv (pv 5) pe_int)))) pss_nil)))) (pss_one (ps_if (pt_cmpR op_lt (pe_callB call_len_seq (by rfl) M.len PySem.boot_len (pa_cons (pv 2) pa_nil)) (pv 1) (nomark _)) (pss_one (ps_expr (pe_bm PySem.F.plainAttrs_list PySem.F.slot_list_append PySem.F.type_list_append mt_append (pv 2) (pa_cons (pe_op op_mod (pe_callTy call_int1 (by rfl) M.int (by decide +kernel) (pa_cons (pv 5) pa_nil)) pe_int) pa_nil)))) pss_nil)))
    (pss_one (ps_set (i := 3) nd rfl (by first | exact Or.inl rfl | exact Or.inr rfl) (pe_op op_mod (pe_callTy call_int1 (by rfl) M.int (by decide +kernel) (pa_cons (pe_op op_add (pe_op op_add (pe_op op_mul (pv 3) pe_int) (pe_op op_mod (pe_callTy call_int1 (by rfl) M.int (by decide +kernel) (pa_cons (pv 5) pa_nil)) pe_int)) pe_int) pa_nil)) pe_int))))))
    (pss_cons (ps_for PassesOwn.never rfl (pi_range1 rfl M.range (pa_cons (pv 1) pa_nil)) (pg_name (i := 6) nd rfl (by first | exact Or.inl rfl | exact Or.inr rfl)) (pss_cons (ps_set (i := 3) nd rfl (by first | exact Or.inl rfl | exact Or.inr rfl) (pe_op op_mod (pe_callTy call_int1 (by rfl) M.int (by decide +kernel) (pa_cons (pe_op op_add (pe_op op_add (pe_op op_mul (pv 3) pe_int) pe_int) (pv 6)) pa_nil)) pe_int))
    (pss_one (ps_if (pt_cmpR op_lt (pe_callB call_len_seq (by rfl) M.len PySem.boot_len (pa_cons (pv 2) pa_nil)) (pv 1) (nomark _)) (pss_one (ps_expr (pe_bm PySem.F.plainAttrs_list PySem.F.slot_list_append PySem.F.type_list_append mt_append (pv 2) (pa_cons (pe_op op_mod (pe_op op_fdiv (pe_op op_mod (pe_callTy call_int1 (by rfl) M.int (by decide +kernel) (pa_cons (pe_op op_mul (pe_op op_add (pe_op op_fdiv (pv 3) pe_int) pe_int) (pe_op op_add (pe_op op_fdiv (pv 3) pe_int) pe_int)) pa_nil)) pe_int) pe_int) pe_int) pa_nil)))) pss_nil))))
    (pss_cons (ps_expr (pe_bm0 PySem.F.plainAttrs_list PySem.F.slot_list_reverse PySem.F.type_list_reverse mt_reverse (pv 2)))
    (pss_one (ps_ret (pv 2)))))))), ?_⟩
  refine ⟨Nat.zero_le _, fun o no => ?_⟩
  have s1 : Same H (upd H o (.lst [])) := same_new no
  refine ⟨_, rfl, a, _, rfl, .inl (s1.seq hS), _, _, rfl, rfl, ?_⟩
  refine ⟨_, rfl, a, rfl, ⟨_, s1.seq hS⟩, for_ints (ns := ns) (fun i σ H' => Drawn1 H H' o c ∧ ∃ (seed : Int) (v4 v5 v6 : Option V), σ = [some (.ref a), some (.int c), some (.ref o), some (.int seed), v4, v5, v6] ∧ 0 ≤ seed ∧ seed < 2147483647)
    ⟨⟨s1, [], upd_same, Nat.zero_le _⟩, _, none, none, none, rfl, by omega, by rw [List.length_map]; omega⟩ (fun i σ H' _ p => p.1.same.seq hS) ?_ ?_⟩
  · rintro i n σ H' hi ⟨d, seed, v4, v5, v6, rfl, h0, h1⟩
    refine ⟨_, rfl, .inl ⟨n, rfl, ?_⟩⟩
    refine ⟨fun σ2 H2 => Drawn1 H H2 o c ∧ ∃ (number : Int) (w6 : Option V), σ2 = [some (.ref a), some (.int c), some (.ref o), some (.int seed), some (.int n), some (.int number), w6], ?_, ?_⟩
    rotate_left
    · rintro σ2 H2 ⟨d2, number, w6, rfl⟩
      refine ⟨_, rfl, _, _, rfl, rfl, .inl ⟨by omega, by omega⟩, _, rfl, .inl ⟨_, rfl, _, _, rfl, rfl, by omega, _, _, rfl, rfl, _, _, rfl, rfl, .inl ⟨_, rfl, _, _, rfl, rfl, by omega, ?_⟩⟩⟩
      exact ⟨d2, _, _, _, _, rfl, by omega, by omega⟩
    refine ⟨_, rfl, _, _, rfl, rfl, ⟨by omega, by omega, by decide⟩, _, _, rfl, rfl, _, rfl, ite2d (fun e => ?_) (fun e => ?_)⟩
    · refine ⟨_, rfl, by omega, by omega, for_range (lo := 0) (n := 60) (fun j σ2 H2 => Drawn1 H H2 o c ∧ ∃ (number : Int) (v6 : Option V), σ2 = [some (.ref a), some (.int c), some (.ref o), some (.int seed), some (.int n), some (.int number), v6])
        ⟨d, n, v6, rfl⟩ ?_ ?_⟩
      · rintro j σ2 H2 hj ⟨d2, number, w6, rfl⟩
        refine ⟨_, rfl, _, _, rfl, rfl, _, rfl, ite2d (fun e1 => ?_) (fun e1 => ?_)⟩
        · obtain ⟨ds, ed, ld⟩ := d2.at_
          refine ⟨_, rfl, o, _, rfl, .inl (sq_lst ed), _, rfl, _, _, rfl, rfl, _, rfl, ite2d (fun e2 => ?_) (fun e2 => ?_)⟩
          · rw [List.length_map] at e2
            refine ⟨_, rfl, .inl ⟨rfl, _, sq_lst ed⟩, _, rfl, .inl ⟨_, rfl, _, _, rfl, rfl, by omega, o, _, _, rfl, rfl, ed, szl (by rw [List.length_map]; omega), ?_⟩⟩
            refine ⟨_, rfl, _, _, rfl, rfl, ⟨by omega, by omega⟩, ?_⟩
            exact ⟨d2.add no (by omega), _, _, rfl⟩
          · exact ⟨d2, _, _, rfl⟩
        · exact ⟨d2, _, _, rfl⟩
      · rintro σ2 H2 ⟨d2, number, w6, rfl⟩
        exact ⟨d2, number, w6, rfl⟩
    · obtain ⟨ds, ed, ld⟩ := d.at_
      refine ⟨_, rfl, o, _, rfl, .inl (sq_lst ed), _, rfl, _, _, rfl, rfl, _, rfl, ite2d (fun e2 => ?_) (fun e2 => ?_)⟩
      · rw [List.length_map] at e2
        refine ⟨_, rfl, .inl ⟨rfl, _, sq_lst ed⟩, _, rfl, .inl ⟨_, rfl, _, _, rfl, rfl, by omega, o, _, _, rfl, rfl, ed, szl (by rw [List.length_map]; omega), ?_⟩⟩
        exact ⟨d.add no (by omega), _, _, rfl⟩
      · exact ⟨d, _, _, rfl⟩
  · rintro σ H' ⟨d, seed, v4, v5, v6, rfl, h0, h1⟩
    refine ⟨_, rfl, _, rfl, by omega, by omega, for_range (lo := 0) (n := c) (fun i σ H' => Drawn1 H H' o c ∧ ∃ (seed : Int) (v6 : Option V), σ = [some (.ref a), some (.int c), some (.ref o), some (.int seed), v4, v5, v6] ∧ 0 ≤ seed ∧ seed < 2147483647)
      ⟨d, seed, v6, rfl, h0, h1⟩ ?_ ?_⟩
    · rintro i σ2 H2 hi ⟨d2, sd, w6, rfl, g0, g1⟩
      refine ⟨_, rfl, _, _, rfl, rfl, .inl ⟨by omega, by omega⟩, _, _, rfl, rfl, _, rfl, _, _, rfl, rfl, .inl ⟨_, rfl, _, _, rfl, rfl, by omega, ?_⟩⟩
      obtain ⟨ds, ed, ld⟩ := d2.at_
      refine ⟨_, rfl, o, _, rfl, .inl (sq_lst ed), _, rfl, _, _, rfl, rfl, _, rfl, ite2d (fun e2 => ?_) (fun e2 => ?_)⟩
      · rw [List.length_map] at e2
        refine ⟨_, rfl, .inl ⟨rfl, _, sq_lst ed⟩, _, rfl, _, _, rfl, rfl, ⟨by omega, by omega⟩, _, _, rfl, rfl, _, rfl, _, _, rfl, rfl, ⟨by omega, by omega⟩, _, _, rfl, rfl, _, _, rfl, rfl, .inl ⟨by omega, by omega⟩, .inl ⟨_, rfl, _, _, rfl, rfl, by omega, _, _, rfl, rfl, ⟨by omega, by omega⟩, _, _, rfl, rfl, by omega, o, _, _, rfl, rfl, ed, szl (by rw [List.length_map]; omega), ?_⟩⟩
        exact ⟨d2.add no (by omega), _, _, rfl, by omega, by omega⟩
      · exact ⟨d2, _, _, rfl, by omega, by omega⟩
    · rintro σ2 H2 ⟨d2, sd, w6, rfl, g0, g1⟩
      obtain ⟨ds, ed, ld⟩ := d2.at_
      refine ⟨_, rfl, .inl ⟨rfl, _, sq_lst ed⟩, o, _, rfl, rfl, ed, ?_⟩
      refine ⟨_, rfl, q _ o ds.reverse (Same.mut d2.same no) no ?_⟩
      rw [upd_same, List.map_reverse]
/-- _law_take(pool, limit): some number from 0 to limit - 1; of the pool alone a list of ints is left -/
def sp__law_take (_K : PySem.W.Frag) : Sp := fun vs H Q _ => ∃ (p : Addr) (lim : Int), vs = [.ref p, .int lim] ∧ PoolAt H p ∧ 0 < lim ∧
  ∀ (r : Int) (ns : List Int), 0 ≤ r → r < lim → Q (.int r) (upd H p (.lst (ns.map V.int)))
abbrev s__law_take : Stmt := topS 20
theorem sc__law_take : FnScope ["pool", "limit"] ["pool", "limit"] (defScope s__law_take) := ⟨rfl, rfl, rfl, by decide +kernel, rfl, by decide +kernel, by decide +kernel⟩
/-- slots: 0 pool 1 limit -/
theorem dn__law_take (M : Mg mg) (C : Cg K mg) (g : Fg K mg "_law_take" s__law_take) : Dn P w K mg base CX0 "_law_take" 1 ["pool", "limit"] (sp__law_take K) := by
  refine dn_of g sc__law_take (fun vs H Q E h => by unfold sp__law_take at h; (repeat (obtain ⟨_, h⟩ := h)); subst_vars; rfl) (fun _ _ _ _ _ _ us hl => match us, hl with | [_, _], _ => rfl) (fun f cdv A outer s H vs Q E hr h => ?_)
  obtain ⟨p, lim, rfl, ⟨ns, hp⟩, hl, q⟩ := h
  have nd := sc__law_take.nd
  refine ⟨_, (pss_cons (ps_if (pt_cmpR op_gt (pe_callB call_len_seq (by rfl) M.len PySem.boot_len (pa_cons (pv 0) pa_nil)) pe_int (nomark _)) (pss_one (ps_ret (pe_op op_mod (pe_callTy call_int1 (by rfl) M.int (by decide +kernel) (pa_cons (pe_bm0 PySem.F.plainAttrs_list PySem.F.slot_list_pop PySem.F.type_list_pop mt_pop (pv 0)) pa_nil)) (pv 1)))) pss_nil)
    (pss_one (ps_ret pe_int))), ?_⟩
  refine ⟨_, rfl, p, ns.map V.int, rfl, .inl (sq_lst hp), _, _, rfl, rfl, _, rfl, ite2d (fun e => ?_) (fun e => ?_)⟩
  · have hne : ns ≠ [] := fun z => by subst z; simp at e
    obtain ⟨l, z, rfl⟩ : ∃ l z, ns = l ++ [z] := ⟨ns.dropLast, ns.getLast hne, (List.dropLast_concat_getLast hne).symm⟩
    refine ⟨_, rfl, .inl ⟨rfl, _, sq_lst hp⟩, p, _, .int z, rfl, rfl, hp, ?_, .inl ⟨z, rfl, .int lim, rfl, z, lim, rfl, rfl, hl, ?_⟩⟩
    · simp
    · have hd : ((l ++ [z]).map V.int).dropLast = l.map V.int := by rw [List.map_append]; simp
      rw [hd]
      exact q _ _ (Int.emod_nonneg _ (by omega)) (Int.emod_lt_of_pos _ hl)
  · have hz : ns = [] := by
      cases ns with
      | nil => rfl
      | cons a b => exfalso; apply e; rw [List.length_map, List.length_cons]; omega
    subst hz
    have hu : upd H p (.lst (([] : List Int).map V.int)) = H := by
      funext b; unfold upd; split
      · rename_i eb; subst eb; exact hp.symm
      · rfl
    have := q 0 [] (by omega) hl
    rw [hu] at this
    exact this
def sp__law_whole (_K : PySem.W.Frag) : Sp := fun vs H Q _ => ∃ (n : Int), vs = [.int n] ∧ Q (.bl true) H
abbrev s__law_whole : Stmt := topS 21
theorem sc__law_whole : FnScope ["number"] ["number"] (defScope s__law_whole) := ⟨rfl, rfl, rfl, by decide +kernel, rfl, by decide +kernel, by decide +kernel⟩
/-- slots: 0 number -/
theorem dn__law_whole (M : Mg mg) (C : Cg K mg) (g : Fg K mg "_law_whole" s__law_whole) : Dn P w K mg base CX0 "_law_whole" 1 ["number"] (sp__law_whole K) := by
  refine dn_of g sc__law_whole (fun vs H Q E h => by unfold sp__law_whole at h; (repeat (obtain ⟨_, h⟩ := h)); subst_vars; rfl) (fun _ _ _ _ _ _ us hl => match us, hl with | [_], _ => rfl) (fun f cdv A outer s H vs Q E hr h => ?_)
  obtain ⟨n, rfl, q⟩ := h
  have nd := sc__law_whole.nd
  refine ⟨_, (pss_one (ps_ret (pe_and (pe_callB call_isi (by rfl) M.isinstance (by decide +kernel) (pa_cons (pv 0) (pa_cons (pe_bltn (v := .ty "int") (by rfl) M.int (by decide +kernel) rfl) pa_nil))) (pe_one (pe_not (pe_callB call_isi (by rfl) M.isinstance (by decide +kernel) (pa_cons (pv 0) (pa_cons (pe_bltn (v := .ty "bool") (by rfl) M.bool (by decide +kernel) rfl) pa_nil)))))))), ?_⟩
  refine ⟨_, rfl, .int n, .ty "int", .type "int", .type "int", true, rfl, .ty "int", .base (.int n), kit_ty (by decide +kernel), true, rfl, iteT ?_⟩
  refine ⟨_, rfl, .int n, .ty "bool", .type "int", .type "bool", false, rfl, .ty "bool", .base (.int n), kit_ty (by decide +kernel), false, rfl, q⟩
/-- _law_ball(n, b) is the ball -/
def sp__law_ball (_K : PySem.W.Frag) : Sp := fun vs H Q _ => ∃ (n b : Nat), vs = [.int n, .int b] ∧ n ≤ 1000000 ∧ Q (.int (bal n b : Nat)) H
abbrev s__law_ball : Stmt := topS 22
theorem sc__law_ball : FnScope ["wires", "most", "count", "ways", "size"] ["wires", "most"] (defScope s__law_ball) := ⟨rfl, rfl, rfl, by decide +kernel, rfl, by decide +kernel, by decide +kernel⟩
/-- slots: 0 wires 1 most 2 count 3 ways 4 size -/
theorem dn__law_ball (M : Mg mg) (C : Cg K mg) (g : Fg K mg "_law_ball" s__law_ball) : Dn P w K mg base CX0 "_law_ball" 1 ["wires", "most"] (sp__law_ball K) := by
  refine dn_of g sc__law_ball (fun vs H Q E h => by unfold sp__law_ball at h; (repeat (obtain ⟨_, h⟩ := h)); subst_vars; rfl) (fun _ _ _ _ _ _ us hl => match us, hl with | [_, _], _ => rfl) (fun f cdv A outer s H vs Q E hr h => ?_)
  obtain ⟨n, b, rfl, hn, q⟩ := h
  have nd := sc__law_ball.nd
  refine ⟨_, (pss_cons (ps_set (i := 2) nd rfl (by first | exact Or.inl rfl | exact Or.inr rfl) pe_int)
    (pss_cons (ps_set (i := 3) nd rfl (by first | exact Or.inl rfl | exact Or.inr rfl) pe_int)
    (pss_cons (ps_for PassesOwn.never rfl (pi_range1 rfl M.range (pa_cons (pe_op op_add (pe_callB (call_min2 rfl) (by rfl) M.min (by decide +kernel) (pa_cons (pv 0) (pa_cons (pv 1) pa_nil))) pe_int) pa_nil)) (pg_name (i := 4) nd rfl (by first | exact Or.inl rfl | exact Or.inr rfl)) (pss_cons (ps_set (i := 2) nd rfl (by first | exact Or.inl rfl | exact Or.inr rfl) (pe_op op_add (pv 2) (pv 3)))
    (pss_one (ps_set (i := 3) nd rfl (by first | exact Or.inl rfl | exact Or.inr rfl) (pe_op op_fdiv (pe_callTy call_int1 (by rfl) M.int (by decide +kernel) (pa_cons (pe_op op_mul (pv 3) (pe_op op_sub (pv 0) (pv 4))) pa_nil)) (pe_op op_add (pv 4) pe_int))))))
    (pss_one (ps_ret (pv 2)))))), ?_⟩
  have hm : (if (b : Int) < (n : Int) then (b : Int) else (n : Int)) = ((min n b : Nat) : Int) := by split <;> omega
  refine ⟨_, rfl, _, rfl, _, _, rfl, _, _, rfl, rfl, ?_⟩
  rw [hm]
  refine ⟨_, rfl, by omega, by omega, for_range (lo := 0) (n := (((min n b : Nat) : Int) + 1).toNat)
    (fun i σ H' => H' = H ∧ ∃ v, σ = [some (.int n), some (.int b), some (.int (bals n i : Nat)), some (.int (cho n i : Nat)), v]) ⟨rfl, none, by rw [cho_zero]; rfl⟩ ?_ ?_⟩
  · rintro i σ H' hi ⟨rfl, v, rfl⟩
    refine ⟨_, rfl, _, rfl, _, _, rfl, rfl, ?_⟩
    refine ⟨_, rfl, _, rfl, _, rfl, _, _, rfl, rfl, _, _, rfl, rfl, .inr ⟨by omega, by omega⟩, .inl ⟨_, rfl, _, rfl, _, _, rfl, rfl, _, _, rfl, rfl, ⟨by omega, by omega⟩, ?_⟩⟩
    refine ⟨rfl, some (.int (0 + (i : Int))), ?_⟩
    rw [bals_succ, ← cho_div (show i ≤ n by omega)]
    simp
  · rintro σ H' ⟨rfl, v, rfl⟩
    refine ⟨_, rfl, ?_⟩
    have e : (((min n b : Nat) : Int) + 1).toNat = min n b + 1 := by omega
    rw [e]
    show Q (.int (bal n (min n b) : Nat)) H'
    rw [bal_min]
    exact q
/-- _law_balls(bound): the balls of 0 to 301 wires -/
def sp__law_balls (_K : PySem.W.Frag) : Sp := fun vs H Q _ => ∃ (b : Nat), vs = [.int b] ∧ b ≤ 100000 ∧
  ∀ (H' : Hp) (p : Addr), Same H H' → H p = none → H' p = some (.lst ((List.range 302).map fun n => V.int (bal n b : Nat))) → Q (.ref p) H'
abbrev s__law_balls : Stmt := topS 23
theorem sc__law_balls : FnScope ["bound", "counts", "count", "ways", "wires"] ["bound"] (defScope s__law_balls) := ⟨rfl, rfl, rfl, by decide +kernel, rfl, by decide +kernel, by decide +kernel⟩
/-- slots: 0 bound 1 counts 2 count 3 ways 4 wires -/
theorem dn__law_balls (M : Mg mg) (C : Cg K mg) (g : Fg K mg "_law_balls" s__law_balls) : Dn P w K mg base CX0 "_law_balls" 1 ["bound"] (sp__law_balls K) := by
  refine dn_of g sc__law_balls (fun vs H Q E h => by unfold sp__law_balls at h; (repeat (obtain ⟨_, h⟩ := h)); subst_vars; rfl) (fun _ _ _ _ _ _ us hl => match us, hl with | [_], _ => rfl) (fun f cdv A outer s H vs Q E hr h => ?_)
  obtain ⟨b, rfl, hb, q⟩ := h
  have nd := sc__law_balls.nd
  refine ⟨_, (pss_cons (ps_set (i := 1) nd rfl (by first | exact Or.inl rfl | exact Or.inr rfl) (pe_lst pa_nil))
    (pss_cons (ps_set (i := 2) nd rfl (by first | exact Or.inl rfl | exact Or.inr rfl) pe_int)
    (pss_cons (ps_set (i := 3) nd rfl (by first | exact Or.inl rfl | exact Or.inr rfl) pe_int)
    (Evl.pss_cut (ps_if (pt_cmpR op_gt (pv 0) pe_int (nomark _)) (pss_one (ps_set (i := 3) nd rfl (by first | exact Or.inl rfl | exact Or.inr rfl) pe_int)) pss_nil)
    (pss_cons (ps_for PassesOwn.never rfl (pi_range1 rfl M.range (pa_cons pe_int pa_nil)) (pg_name (i := 4) nd rfl (by first | exact Or.inl rfl | exact Or.inr rfl)) (pss_cons (ps_expr (pe_bm PySem.F.plainAttrs_list PySem.F.slot_list_append PySem.F.type_list_append mt_append (pv 1) (pa_cons (pv 2) pa_nil)))
    (pss_cons (ps_set (i := 2) nd rfl (by first | exact Or.inl rfl | exact Or.inr rfl) (pe_op op_sub (pe_op op_mul pe_int (pv 2)) (pv 3)))
    (pss_one (ps_if (pt_cmpR op_eq (pe_op op_add (pv 4) pe_int) (pv 0) (nomark _)) (pss_one (ps_set (i := 3) nd rfl (by first | exact Or.inl rfl | exact Or.inr rfl) pe_int)) (pss_one (ps_if (pt_cmpR op_gt (pe_op op_add (pv 4) pe_int) (pv 0) (nomark _)) (pss_one (ps_set (i := 3) nd rfl (by first | exact Or.inl rfl | exact Or.inr rfl) (pe_op op_fdiv (pe_callTy call_int1 (by rfl) M.int (by decide +kernel) (pa_cons (pe_op op_mul (pv 3) (pe_op op_add (pv 4) pe_int)) pa_nil)) (pe_op op_sub (pe_op op_add (pv 4) pe_int) (pv 0))))) pss_nil)))))))
    (pss_one (ps_ret (pv 1)))))))), ?_⟩
  refine ⟨Nat.zero_le _, fun o no => ?_⟩
  refine ⟨fun σ H' => σ = [some (.int b), some (.ref o), some (.int 1), some (.int (cho 0 b : Nat)), none] ∧ H' = upd H o (.lst []), ?_, ?_⟩
  · refine ⟨_, rfl, _, _, rfl, rfl, _, rfl, ite2d (fun e => ?_) (fun e => ?_)⟩
    · refine ⟨?_, rfl⟩
      rw [cho_gt (by omega)]; rfl
    · refine ⟨?_, rfl⟩
      have e0 : b = 0 := by omega
      subst e0; rfl
  rintro σ H' ⟨rfl, rfl⟩
  refine ⟨_, rfl, by omega, by omega, for_range (lo := 0) (n := 302) (fun i σ H' => Same H H' ∧ H' o = some (.lst ((List.range i).map fun n => V.int (bal n b : Nat))) ∧
    ∃ v, σ = [some (.int b), some (.ref o), some (.int (bal i b : Nat)), some (.int (cho i b : Nat)), v]) ⟨same_new no, by rw [upd_same]; rfl, none, by rw [bal_zero]; rfl⟩ ?_ ?_⟩
  · rintro i σ H' hi ⟨sm, ho, v, rfl⟩
    refine ⟨_, rfl, .inl ⟨rfl, _, sq_lst ho⟩, _, rfl, o, _, _, rfl, rfl, ho, szl (by rw [List.length_map, List.length_range]; omega), ?_⟩
    refine ⟨_, rfl, _, _, rfl, rfl, .inl ⟨by omega, by omega⟩, _, rfl, _, _, rfl, rfl, ?_⟩
    have hup := bal_up i b
    have e1 : (2 * ((bal i b : Nat) : Int) - ((cho i b : Nat) : Int)) = ((bal (i + 1) b : Nat) : Int) := by omega
    have fin : ∀ (w : Int), w = ((cho (i + 1) b : Nat) : Int) → Same H (upd H' o (.lst ((List.range i).map (fun n => V.int (bal n b : Nat)) ++ [.int (bal i b : Nat)]))) ∧
      (upd H' o (.lst ((List.range i).map (fun n => V.int (bal n b : Nat)) ++ [.int (bal i b : Nat)]))) o = some (.lst ((List.range (i + 1)).map fun n => V.int (bal n b : Nat))) ∧
      ∃ v, ([some (.int b), some (.ref o), some (.int (2 * ((bal i b : Nat) : Int) - ((cho i b : Nat) : Int))), some (.int w), some (.int (0 + (i : Int)))] : L2.St) = [some (.int b), some (.ref o), some (.int (bal (i + 1) b : Nat)), some (.int (cho (i + 1) b : Nat)), v] := by
      intro w hw
      subst hw
      refine ⟨Same.mut sm no, ?_, _, by rw [e1]⟩
      rw [upd_same, List.range_succ, List.map_append]; rfl
    refine ⟨_, rfl, _, _, rfl, rfl, _, rfl, rfl, _, rfl, ite2i (fun e => ?_) (fun e => ?_)⟩
    · refine fin 1 ?_
      have : i + 1 = b := by omega
      subst this; rw [cho_self]; rfl
    · refine ⟨_, rfl, _, _, rfl, rfl, _, rfl, _, _, rfl, rfl, _, rfl, ite2d (fun e2 => ?_) (fun e2 => ?_)⟩
      · refine ⟨_, rfl, _, rfl, _, _, rfl, rfl, _, _, rfl, rfl, .inr ⟨by omega, by omega⟩, .inl ⟨_, rfl, _, rfl, _, _, rfl, rfl, _, rfl, _, _, rfl, rfl, _, _, rfl, rfl, ⟨by omega, by omega⟩, ?_⟩⟩
        refine fin _ ?_
        rw [← cho_divUp (show b ≤ i by omega)]
        simp
      · refine fin _ ?_
        rw [cho_gt (show i < b by omega), cho_gt (by omega)]
  · rintro σ H' ⟨sm, ho, v, rfl⟩
    exact ⟨_, rfl, q H' o sm no ho⟩
/-- _law_bound(pool): some number from 0 on, below 1000 -/
def sp__law_bound (_K : PySem.W.Frag) : Sp := fun vs H Q _ => ∃ (p : Addr), vs = [.ref p] ∧ PoolAt H p ∧
  ∀ (r : Int) (ns : List Int), 0 ≤ r → r < 1000 → Q (.int r) (upd H p (.lst (ns.map V.int)))
abbrev s__law_bound : Stmt := topS 24
theorem sc__law_bound : FnScope ["pool", "kind"] ["pool"] (defScope s__law_bound) := ⟨rfl, rfl, rfl, by decide +kernel, rfl, by decide +kernel, by decide +kernel⟩
/-- slots: 0 pool 1 kind -/
theorem dn__law_bound (M : Mg mg) (C : Cg K mg) (g : Fg K mg "_law_bound" s__law_bound) (D__law_take : Dn P w K mg base CX0 "_law_take" 1 ["pool", "limit"] (sp__law_take K)) : Dn P w K mg base CX0 "_law_bound" 2 ["pool"] (sp__law_bound K) := by
  refine dn_of g sc__law_bound (fun vs H Q E h => by unfold sp__law_bound at h; (repeat (obtain ⟨_, h⟩ := h)); subst_vars; rfl) (fun _ _ _ _ _ _ us hl => match us, hl with | [_], _ => rfl) (fun f cdv A outer s H vs Q E hr h => ?_)
  obtain ⟨p, rfl, hp, q⟩ := h
  have nd := sc__law_bound.nd
  refine ⟨_, (pss_cons (ps_set (i := 1) nd rfl (by first | exact Or.inl rfl | exact Or.inr rfl) (G.pe_callD D__law_take (hr.mono (by decide)) pass0 (pa_cons (pv 0) (pa_cons pe_int pa_nil))))
    (pss_cons (ps_if (pt_cmpR op_lt (pv 1) pe_int (nomark _)) (pss_one (ps_ret (pv 1))) pss_nil)
    (pss_cons (ps_if (pt_cmpR op_eq (pv 1) pe_int (nomark _)) (pss_one (ps_ret (pe_op op_add pe_int (G.pe_callD D__law_take (hr.mono (by decide)) pass0 (pa_cons (pv 0) (pa_cons pe_int pa_nil)))))) pss_nil)
    (pss_cons (ps_if (pt_cmpR op_eq (pv 1) pe_int (nomark _)) (pss_one (ps_ret (pe_op op_add pe_int (G.pe_callD D__law_take (hr.mono (by decide)) pass0 (pa_cons (pv 0) (pa_cons pe_int pa_nil)))))) pss_nil)
    (pss_cons (ps_if (pt_cmpR op_eq (pv 1) pe_int (nomark _)) (pss_one (ps_ret (G.pe_callD D__law_take (hr.mono (by decide)) pass0 (pa_cons (pv 0) (pa_cons pe_int pa_nil))))) pss_nil)
    (pss_one (ps_ret (G.pe_callD D__law_take (hr.mono (by decide)) pass0 (pa_cons (pv 0) (pa_cons pe_int pa_nil)))))))))), ?_⟩
  have pa : ∀ {H : Hp} {ns : List Int}, PoolAt (upd H p (.lst (ns.map V.int))) p := fun {H ns} => ⟨ns, upd_same⟩
  refine ⟨_, rfl, p, 6, rfl, hp, by omega, fun r ns h0 h1 => ?_⟩
  refine ⟨_, rfl, _, _, rfl, rfl, _, rfl, ite2d (fun e => ?_) (fun e => ?_)⟩
  · exact ⟨_, rfl, q _ _ h0 (by omega)⟩
  refine ⟨_, rfl, rfl, _, rfl, ite2i (fun e => ?_) (fun e => ?_)⟩
  · refine ⟨_, rfl, p, 8, rfl, pa, by omega, fun r2 ns2 g0 g1 => ⟨_, _, rfl, rfl, ?_⟩⟩
    rw [upd_upd]; exact q _ _ (by omega) (by omega)
  refine ⟨_, rfl, rfl, _, rfl, ite2i (fun e => ?_) (fun e => ?_)⟩
  · refine ⟨_, rfl, p, 10, rfl, pa, by omega, fun r2 ns2 g0 g1 => ⟨_, _, rfl, rfl, ?_⟩⟩
    rw [upd_upd]; exact q _ _ (by omega) (by omega)
  refine ⟨_, rfl, rfl, _, rfl, ite2i (fun e => ?_) (fun e => ?_)⟩
  · refine ⟨_, rfl, p, 302, rfl, pa, by omega, fun r2 ns2 g0 g1 => ?_⟩
    rw [upd_upd]; exact q _ _ (by omega) (by omega)
  refine ⟨_, rfl, p, 40, rfl, pa, by omega, fun r2 ns2 g0 g1 => ?_⟩
  rw [upd_upd]; exact q _ _ (by omega) (by omega)
/-- _law_messages(pool, near): some int -/
def sp__law_messages (_K : PySem.W.Frag) : Sp := fun vs H Q _ => ∃ (p : Addr) (near : Int), vs = [.ref p, .int near] ∧ PoolAt H p ∧ 0 ≤ near ∧
  ∀ (r : Int) (ns : List Int), Q (.int r) (upd H p (.lst (ns.map V.int)))
abbrev s__law_messages : Stmt := topS 25
theorem sc__law_messages : FnScope ["pool", "near", "kind"] ["pool", "near"] (defScope s__law_messages) := ⟨rfl, rfl, rfl, by decide +kernel, rfl, by decide +kernel, by decide +kernel⟩
/-- slots: 0 pool 1 near 2 kind -/
theorem dn__law_messages (M : Mg mg) (C : Cg K mg) (g : Fg K mg "_law_messages" s__law_messages) (D__law_take : Dn P w K mg base CX0 "_law_take" 1 ["pool", "limit"] (sp__law_take K)) : Dn P w K mg base CX0 "_law_messages" 2 ["pool", "near"] (sp__law_messages K) := by
  refine dn_of g sc__law_messages (fun vs H Q E h => by unfold sp__law_messages at h; (repeat (obtain ⟨_, h⟩ := h)); subst_vars; rfl) (fun _ _ _ _ _ _ us hl => match us, hl with | [_, _], _ => rfl) (fun f cdv A outer s H vs Q E hr h => ?_)
  obtain ⟨p, near, rfl, hp, hn, q⟩ := h
  have nd := sc__law_messages.nd
  refine ⟨_, (pss_cons (ps_set (i := 2) nd rfl (by first | exact Or.inl rfl | exact Or.inr rfl) (G.pe_callD D__law_take (hr.mono (by decide)) pass0 (pa_cons (pv 0) (pa_cons pe_int pa_nil))))
    (pss_cons (ps_if (pt_cmpR op_lt (pv 2) pe_int (nomark _)) (pss_one (ps_ret (pe_callB (call_max2 rfl) (by rfl) M.max (by decide +kernel) (pa_cons pe_int (pa_cons (pe_op op_sub (pe_op op_add (pv 1) (pv 2)) pe_int) pa_nil))))) pss_nil)
    (pss_cons (ps_if (pt_cmpR op_eq (pv 2) pe_int (nomark _)) (pss_one (ps_ret (pe_op op_shl pe_int (G.pe_callD D__law_take (hr.mono (by decide)) pass0 (pa_cons (pv 0) (pa_cons pe_int pa_nil)))))) pss_nil)
    (pss_cons (ps_if (pt_cmpR op_eq (pv 2) pe_int (nomark _)) (pss_one (ps_ret (G.pe_callD D__law_take (hr.mono (by decide)) pass0 (pa_cons (pv 0) (pa_cons pe_int pa_nil))))) pss_nil)
    (pss_cons (ps_if (pt_cmpR op_eq (pv 2) pe_int (nomark _)) (pss_one (ps_ret (pe_callB (call_max2 rfl) (by rfl) M.max (by decide +kernel) (pa_cons pe_int (pa_cons (pe_op op_sub (pe_op op_add (pe_op op_shl pe_int (G.pe_callD D__law_take (hr.mono (by decide)) pass0 (pa_cons (pv 0) (pa_cons pe_int pa_nil)))) (G.pe_callD D__law_take (hr.mono (by decide)) pass0 (pa_cons (pv 0) (pa_cons pe_int pa_nil)))) pe_int) pa_nil))))) pss_nil)
    (pss_one (ps_ret (pe_op op_mod (pe_callTy call_int1 (by rfl) M.int (by decide +kernel) (pa_cons (pe_op op_add (pe_op op_mul (G.pe_callD D__law_take (hr.mono (by decide)) pass0 (pa_cons (pv 0) (pa_cons pe_int pa_nil))) pe_int) (G.pe_callD D__law_take (hr.mono (by decide)) pass0 (pa_cons (pv 0) (pa_cons pe_int pa_nil)))) pa_nil)) (pe_op op_add (pv 1) pe_int))))))))), ?_⟩
  have pa : ∀ {H : Hp} {ns : List Int}, PoolAt (upd H p (.lst (ns.map V.int))) p := fun {H ns} => ⟨ns, upd_same⟩
  refine ⟨_, rfl, p, 7, rfl, hp, by omega, fun r ns h0 h1 => ?_⟩
  refine ⟨_, rfl, _, _, rfl, rfl, _, rfl, ite2d (fun e => ?_) (fun e => ?_)⟩
  · exact ⟨_, rfl, _, rfl, _, _, rfl, rfl, _, _, rfl, rfl, _, _, rfl, q _ _⟩
  refine ⟨_, rfl, rfl, _, rfl, ite2i (fun e => ?_) (fun e => ?_)⟩
  · refine ⟨_, rfl, p, 303, rfl, pa, by omega, fun r2 ns2 g0 g1 => ⟨_, _, rfl, rfl, ⟨by omega, by omega, by decide⟩, ?_⟩⟩
    rw [upd_upd]; exact q _ _
  refine ⟨_, rfl, rfl, _, rfl, ite2i (fun e => ?_) (fun e => ?_)⟩
  · refine ⟨_, rfl, p, 3, rfl, pa, by omega, fun r2 ns2 g0 g1 => ?_⟩
    rw [upd_upd]; exact q _ _
  refine ⟨_, rfl, rfl, _, rfl, ite2i (fun e => ?_) (fun e => ?_)⟩
  · refine ⟨_, rfl, p, 302, rfl, pa, by omega, fun r2 ns2 g0 g1 => ⟨_, _, rfl, rfl, ⟨by omega, by omega, by decide⟩, ?_⟩⟩
    rw [upd_upd]
    refine ⟨_, rfl, p, 3, rfl, pa, by omega, fun r3 ns3 g2 g3 => ⟨_, _, rfl, rfl, _, _, rfl, rfl, _, _, rfl, ?_⟩⟩
    rw [upd_upd]; exact q _ _
  refine ⟨_, rfl, p, 1000, rfl, pa, by omega, fun r2 ns2 g0 g1 => ⟨_, _, rfl, rfl, .inl ⟨by omega, by omega⟩, ?_⟩⟩
  rw [upd_upd]
  refine ⟨_, rfl, p, 1000, rfl, pa, by omega, fun r3 ns3 g2 g3 => ⟨_, _, rfl, rfl, ?_⟩⟩
  rw [upd_upd]
  exact .inl ⟨_, rfl, _, rfl, _, _, rfl, rfl, _, _, rfl, rfl, by omega, q _ _⟩
def sp__law_wires_right (_K : PySem.W.Frag) : Sp := fun vs H Q _ => ∃ (t : V) (m : Int) (b : Nat), vs = [t, .int m, .int b] ∧ FW m b t ∧ Q (.bl true) H
abbrev s__law_wires_right : Stmt := topS 26
theorem sc__law_wires_right : FnScope ["told", "messages", "bound"] ["told", "messages", "bound"] (defScope s__law_wires_right) := ⟨rfl, rfl, rfl, by decide +kernel, rfl, by decide +kernel, by decide +kernel⟩
/-- slots: 0 told 1 messages 2 bound -/
theorem dn__law_wires_right (M : Mg mg) (C : Cg K mg) (g : Fg K mg "_law_wires_right" s__law_wires_right) (D__law_ball : Dn P w K mg base CX0 "_law_ball" 1 ["wires", "most"] (sp__law_ball K)) (D__law_whole : Dn P w K mg base CX0 "_law_whole" 1 ["number"] (sp__law_whole K)) : Dn P w K mg base CX0 "_law_wires_right" 2 ["told", "messages", "bound"] (sp__law_wires_right K) := by
  refine dn_of g sc__law_wires_right (fun vs H Q E h => by unfold sp__law_wires_right at h; (repeat (obtain ⟨_, h⟩ := h)); subst_vars; rfl) (fun _ _ _ _ _ _ us hl => match us, hl with | [_, _, _], _ => rfl) (fun f cdv A outer s H vs Q E hr h => ?_)
  obtain ⟨t, m, b, rfl, hf, q⟩ := h
  have nd := sc__law_wires_right.nd
  refine ⟨_, (pss_cons (ps_if (pt_cmpR op_lt (G.pe_callD D__law_ball (hr.mono (by decide)) pass0 (pa_cons pe_int (pa_cons (pv 2) pa_nil))) (pv 1) (nomark _)) (pss_one (ps_ret (pe_cmpR op_isN (pv 0) pe_non (nomark _)))) pss_nil)
    (pss_cons (ps_if (PW.pt (pw_or (pt_not (pt_val (G.pe_callD D__law_whole (hr.mono (by decide)) pass0 (pa_cons (pv 0) pa_nil)))) (pw_or (pt_cmpR op_lt (pv 0) pe_int (nomark _)) (pw_or1 (pt_cmpR op_gt (pv 0) pe_int (nomark _)))))) (pss_one (ps_ret pe_bl)) pss_nil)
    (pss_cons (ps_if (pt_cmpR op_lt (G.pe_callD D__law_ball (hr.mono (by decide)) pass0 (pa_cons (pv 0) (pa_cons (pv 2) pa_nil))) (pv 1) (nomark _)) (pss_one (ps_ret pe_bl)) pss_nil)
    (pss_one (ps_ret (pe_or (pe_cmpR op_eq (pv 0) pe_int (nomark _)) (pe_one (pe_cmpR op_lt (G.pe_callD D__law_ball (hr.mono (by decide)) pass0 (pa_cons (pe_op op_sub (pv 0) pe_int) (pa_cons (pv 2) pa_nil))) (pv 1) (nomark _))))))))), ?_⟩
  refine ⟨_, rfl, 300, b, rfl, by omega, _, rfl, _, _, rfl, rfl, _, rfl, ite2d (fun e => ?_) (fun e => ?_)⟩
  · rcases hf with ⟨rfl, h⟩ | ⟨w', hw, rfl, h1, h2⟩
    · exact ⟨_, rfl, rfl, q⟩
    · have := bal_mono1 (b := b) hw
      omega
  · rcases hf with ⟨rfl, h⟩ | ⟨w', hw, rfl, h1, h2⟩
    · omega
    refine ⟨_, rfl, w', rfl, true, rfl, iteF ?_⟩
    refine ⟨_, rfl, _, _, rfl, rfl, _, rfl, ite2d (fun e1 => by omega) (fun e1 => ?_)⟩
    refine ⟨_, rfl, _, _, rfl, rfl, _, rfl, ite2d (fun e1 => by omega) (fun e1 => ?_)⟩
    refine ⟨_, rfl, _, rfl, w', b, rfl, by omega, _, rfl, _, _, rfl, rfl, _, rfl, ite2d (fun e1 => by omega) (fun e1 => ?_)⟩
    refine ⟨_, rfl, rfl, _, rfl, ite2i (fun e2 => q) (fun e2 => ?_)⟩
    refine ⟨_, rfl, _, _, rfl, rfl, _, rfl, w' - 1, b, ?_, by omega, _, rfl, _, _, rfl, rfl, ?_⟩
    · have : ((w' : Int) - 1) = ((w' - 1 : Nat) : Int) := by omega
      dsimp only
      rw [this]; rfl
    · rcases h2 with h2 | h2
      · omega
      · dsimp only
        rw [decide_eq_true h2]; exact q
def sp__law_bound_right (_K : PySem.W.Frag) : Sp := fun vs H Q _ => ∃ (t : V) (n : Nat) (m : Int), vs = [t, .int n, .int m] ∧ n ≤ 10000 ∧ LB n m t ∧ Q (.bl true) H
abbrev s__law_bound_right : Stmt := topS 27
theorem sc__law_bound_right : FnScope ["told", "wires", "messages"] ["told", "wires", "messages"] (defScope s__law_bound_right) := ⟨rfl, rfl, rfl, by decide +kernel, rfl, by decide +kernel, by decide +kernel⟩
/-- slots: 0 told 1 wires 2 messages -/
theorem dn__law_bound_right (M : Mg mg) (C : Cg K mg) (g : Fg K mg "_law_bound_right" s__law_bound_right) (D__law_ball : Dn P w K mg base CX0 "_law_ball" 1 ["wires", "most"] (sp__law_ball K)) (D__law_whole : Dn P w K mg base CX0 "_law_whole" 1 ["number"] (sp__law_whole K)) : Dn P w K mg base CX0 "_law_bound_right" 2 ["told", "wires", "messages"] (sp__law_bound_right K) := by
  refine dn_of g sc__law_bound_right (fun vs H Q E h => by unfold sp__law_bound_right at h; (repeat (obtain ⟨_, h⟩ := h)); subst_vars; rfl) (fun _ _ _ _ _ _ us hl => match us, hl with | [_, _, _], _ => rfl) (fun f cdv A outer s H vs Q E hr h => ?_)
  obtain ⟨t, n, m, rfl, hn, hf, q⟩ := h
  have nd := sc__law_bound_right.nd
  refine ⟨_, (pss_cons (ps_if (pt_cmpR op_lt (pe_op op_shl pe_int (pv 1)) (pv 2) (nomark _)) (pss_one (ps_ret (pe_cmpR op_isN (pv 0) pe_non (nomark _)))) pss_nil)
    (pss_cons (ps_if (PW.pt (pw_or (pt_not (pt_val (G.pe_callD D__law_whole (hr.mono (by decide)) pass0 (pa_cons (pv 0) pa_nil)))) (pw_or (pt_cmpR op_lt (pv 0) pe_int (nomark _)) (pw_or1 (pt_cmpR op_gt (pv 0) (pv 1) (nomark _)))))) (pss_one (ps_ret pe_bl)) pss_nil)
    (pss_cons (ps_if (pt_cmpR op_lt (G.pe_callD D__law_ball (hr.mono (by decide)) pass0 (pa_cons (pv 1) (pa_cons (pv 0) pa_nil))) (pv 2) (nomark _)) (pss_one (ps_ret pe_bl)) pss_nil)
    (pss_one (ps_ret (pe_or (pe_cmpR op_eq (pv 0) pe_int (nomark _)) (pe_one (pe_cmpR op_lt (G.pe_callD D__law_ball (hr.mono (by decide)) pass0 (pa_cons (pv 1) (pa_cons (pe_op op_sub (pv 0) pe_int) pa_nil))) (pv 2) (nomark _))))))))), ?_⟩
  refine ⟨_, rfl, _, _, rfl, rfl, ⟨by omega, by omega, by decide⟩, _, rfl, _, _, rfl, rfl, _, rfl, ite2d (fun e => ?_) (fun e => ?_)⟩
  · rw [Int.one_mul, Int.toNat_natCast] at e
    rcases hf with ⟨rfl, h⟩ | ⟨b, hb, rfl, h1, h2⟩
    · exact ⟨_, rfl, rfl, q⟩
    · have h3 := bal_mono2 (n := n) hb
      rw [bal_full (Nat.le_refl n)] at h3
      have h4 : ((bal n b : Nat) : Int) ≤ ((2 ^ n : Nat) : Int) := by omega
      have h5 : ((2 ^ n : Nat) : Int) = (2 : Int) ^ n := by simp
      omega
  · rw [Int.one_mul, Int.toNat_natCast] at e
    rcases hf with ⟨rfl, h⟩ | ⟨b, hb, rfl, h1, h2⟩
    · omega
    refine ⟨_, rfl, b, rfl, true, rfl, iteF ?_⟩
    refine ⟨_, rfl, _, _, rfl, rfl, _, rfl, ite2d (fun e1 => by omega) (fun e1 => ?_)⟩
    refine ⟨_, rfl, _, rfl, _, _, rfl, rfl, _, rfl, ite2d (fun e1 => by omega) (fun e1 => ?_)⟩
    refine ⟨_, rfl, _, rfl, n, b, rfl, by omega, _, rfl, _, _, rfl, rfl, _, rfl, ite2d (fun e1 => by omega) (fun e1 => ?_)⟩
    refine ⟨_, rfl, rfl, _, rfl, ite2i (fun e2 => q) (fun e2 => ?_)⟩
    refine ⟨_, rfl, _, rfl, _, _, rfl, rfl, n, b - 1, ?_, by omega, _, rfl, _, _, rfl, rfl, ?_⟩
    · have : ((b : Int) - 1) = ((b - 1 : Nat) : Int) := by omega
      dsimp only
      rw [this]; rfl
    · rcases h2 with h2 | h2
      · omega
      · dsimp only
        rw [decide_eq_true h2]; exact q
def sp__law_bits_right (_K : PySem.W.Frag) : Sp := fun vs H Q _ => ∃ (p : Addr) (ts : List V) (b k : Nat), vs = [.ref p, .int b, .int k] ∧ H p = some (.lst ts) ∧ FWs b k ts ∧ b ≤ 100000 ∧ k ≤ 10000 ∧
  ∀ (H' : Hp), Same H H' → Q (.bl true) H'
theorem shl1 (i : Nat) : (1 : Int) * 2 ^ (0 + (i : Int)).toNat = ((2 ^ i : Nat) : Int) := by
  rw [Int.zero_add, Int.toNat_natCast, Int.one_mul]; simp
theorem bals_at (b n : Nat) (h : n < 302) : atI ((List.range 302).map fun n => V.int (bal n b : Nat)) (n : Int) = some (.int (bal n b : Nat)) := by
  refine atI_nat ?_
  rw [List.getElem?_map, List.getElem?_range h]; rfl
abbrev s__law_bits_right : Stmt := topS 28
theorem sc__law_bits_right : FnScope ["told", "bound", "bits", "counts", "k"] ["told", "bound", "bits"] (defScope s__law_bits_right) := ⟨rfl, rfl, rfl, by decide +kernel, rfl, by decide +kernel, by decide +kernel⟩
/-- slots: 0 told 1 bound 2 bits 3 counts 4 k -/
theorem dn__law_bits_right (M : Mg mg) (C : Cg K mg) (g : Fg K mg "_law_bits_right" s__law_bits_right) (D__law_balls : Dn P w K mg base CX0 "_law_balls" 1 ["bound"] (sp__law_balls K)) (D__law_whole : Dn P w K mg base CX0 "_law_whole" 1 ["number"] (sp__law_whole K)) : Dn P w K mg base CX0 "_law_bits_right" 2 ["told", "bound", "bits"] (sp__law_bits_right K) := by
  refine dn_of g sc__law_bits_right (fun vs H Q E h => by unfold sp__law_bits_right at h; (repeat (obtain ⟨_, h⟩ := h)); subst_vars; rfl) (fun _ _ _ _ _ _ us hl => match us, hl with | [_, _, _], _ => rfl) (fun f cdv A outer s H vs Q E hr h => ?_)
  obtain ⟨p, ts, b, k, rfl, hp, hf, hb, hk, q⟩ := h
  have nd := sc__law_bits_right.nd
  refine ⟨_, (pss_cons (ps_set (i := 3) nd rfl (by first | exact Or.inl rfl | exact Or.inr rfl) (G.pe_callD D__law_balls (hr.mono (by decide)) pass0 (pa_cons (pv 1) pa_nil)))
    (pss_cons (ps_if (PW.pt (pw_or (pt_not (pt_val (pe_callB call_isi (by rfl) M.isinstance (by decide +kernel) (pa_cons (pv 0) (pa_cons (pe_bltn (v := .ty "list") (by rfl) M.list (by decide +kernel) rfl) pa_nil))))) (pw_or1 (pt_cmpR op_ne (pe_callB call_len_seq (by rfl) M.len PySem.boot_len (pa_cons (pv 0) pa_nil)) (pe_op op_add (pv 2) pe_int) (nomark _))))) (pss_one (ps_ret pe_bl)) pss_nil)
    (pss_cons (ps_for PassesOwn.never rfl (pi_range1 rfl M.range (pa_cons (pe_op op_add (pv 2) pe_int) pa_nil)) (pg_name (i := 4) nd rfl (by first | exact Or.inl rfl | exact Or.inr rfl)) (pss_one (ps_if (pt_cmpR op_lt (pe_ix ix_list (pv 3) pe_int (fun _ _ => rfl)) (pe_op op_shl pe_int (pv 4)) (nomark _)) (pss_one (ps_if (pt_cmpR op_notN (pe_ix ix_list (pv 0) (pv 4) (fun _ _ => rfl)) pe_non (nomark _)) (pss_one (ps_ret pe_bl)) pss_nil)) (pss_cons (ps_if (PW.pt (pw_or (pt_not (pt_val (G.pe_callD D__law_whole (hr.mono (by decide)) pass0 (pa_cons (pe_ix ix_list (pv 0) (pv 4) (fun _ _ => rfl)) pa_nil)))) (pw_or (pt_cmpR op_lt (pe_ix ix_list (pv 0) (pv 4) (fun _ _ => rfl)) pe_int (nomark _)) (pw_or (pt_cmpR op_gt (pe_ix ix_list (pv 0) (pv 4) (fun _ _ => rfl)) pe_int (nomark _)) (pw_or1 (pt_cmpR op_lt (pe_ix ix_list (pv 3) (pe_ix ix_list (pv 0) (pv 4) (fun _ _ => rfl)) (fun _ _ => rfl)) (pe_op op_shl pe_int (pv 4)) (nomark _))))))) (pss_one (ps_ret pe_bl)) pss_nil)
    (pss_one (ps_if (PW.pt (pw_and (pt_cmpR op_gt (pe_ix ix_list (pv 0) (pv 4) (fun _ _ => rfl)) pe_int (nomark _)) (pw_and1 (pt_cmpR op_ge (pe_ix ix_list (pv 3) (pe_op op_sub (pe_ix ix_list (pv 0) (pv 4) (fun _ _ => rfl)) pe_int) (fun _ _ => rfl)) (pe_op op_shl pe_int (pv 4)) (nomark _))))) (pss_one (ps_ret pe_bl)) pss_nil))))))
    (pss_one (ps_ret pe_bl))))), ?_⟩
  refine ⟨_, rfl, b, rfl, hb, fun H2 c sm nc hc => ?_⟩
  have hp2 := sm _ _ hp
  refine ⟨_, rfl, .ref p, .ty "list", .type "list", .type "list", true, rfl, .ty "list", .base (.lst hp2), kit_ty (by decide +kernel), true, rfl, iteF ?_⟩
  refine ⟨_, rfl, p, ts, rfl, .inl (sq_lst hp2), _, rfl, _, _, rfl, rfl, rfl, _, rfl, ?_⟩
  have e1 : V.int ((ts.length : Nat) : Int) = V.int ((k : Int) + 1) := by rw [hf.1]; rfl
  refine iteNS e1 ?_
  refine ⟨_, rfl, _, _, rfl, rfl, _, rfl, by omega, by omega, for_range (lo := 0) (n := ((k : Int) + 1).toNat)
    (fun i σ H' => H' = H2 ∧ ∃ v, σ = [some (.ref p), some (.int b), some (.int k), some (.ref c), v]) ⟨rfl, none, rfl⟩ ?_ ?_⟩
  · rintro i σ H' hi ⟨rfl, v, rfl⟩
    have hi2 : i < ts.length := by rw [hf.1]; omega
    have ht := hf.2 i ts[i] (List.getElem?_eq_getElem hi2)
    have hat : atI ts (0 + (i : Int)) = some ts[i] := atI_of (Int.zero_add _) (List.getElem?_eq_getElem hi2)
    generalize ts[i] = t at ht hat
    refine ⟨_, rfl, c, _, 300, _, rfl, rfl, sq_lst hc, bals_at b 300 (by omega), _, rfl, _, _, rfl, rfl, ⟨by omega, by omega, by decide⟩, _, _, rfl, rfl, _, rfl, ?_⟩
    rw [shl1]
    refine ite2d (fun e => ?_) (fun e => ?_)
    · rcases ht with ⟨rfl, h⟩ | ⟨w', hw, rfl, h1, h2⟩
      · exact ⟨_, rfl, _, rfl, p, ts, _, _, rfl, rfl, sq_lst hp2, hat, rfl, false, rfl, rfl, _, rfl⟩
      · have := bal_mono1 (b := b) hw
        omega
    · rcases ht with ⟨rfl, h⟩ | ⟨w', hw, rfl, h1, h2⟩
      · omega
      have ld : ∀ {Q : VK} {v : Option V}, Q (.int w') H' → (tOp (rIxL K) (tVar 0) (tVar 4)) [some (.ref p), some (.int b), some (.int k), some (.ref c), some (.int (0 + (i : Int)))] H' Q :=
        fun {Q v} h => ⟨_, rfl, _, rfl, p, ts, _, _, rfl, rfl, sq_lst hp2, hat, h⟩
      refine ⟨_, rfl, _, rfl, p, ts, _, _, rfl, rfl, sq_lst hp2, hat, w', rfl, true, rfl, iteF ?_⟩
      refine ⟨_, rfl, _, rfl, p, ts, _, _, rfl, rfl, sq_lst hp2, hat, _, _, rfl, rfl, _, rfl, ite2d (fun e1 => by omega) (fun e1 => ?_)⟩
      refine ⟨_, rfl, _, rfl, p, ts, _, _, rfl, rfl, sq_lst hp2, hat, _, _, rfl, rfl, _, rfl, ite2d (fun e1 => by omega) (fun e1 => ?_)⟩
      refine ⟨_, rfl, _, rfl, _, rfl, p, ts, _, _, rfl, rfl, sq_lst hp2, hat, c, _, w', _, rfl, rfl, sq_lst hc, bals_at b w' (by omega), _, rfl, _, _, rfl, rfl, ⟨by omega, by omega, by decide⟩, _, _, rfl, rfl, _, rfl, ?_⟩
      rw [shl1]
      refine ite2d (fun e2 => by omega) (fun e2 => ?_)
      refine ⟨_, rfl, _, rfl, p, ts, _, _, rfl, rfl, sq_lst hp2, hat, _, _, rfl, rfl, _, rfl, ite2d (fun e3 => ?_) (fun e3 => iteF ⟨rfl, _, rfl⟩)⟩
      have e4 : ((w' : Int) - 1) = ((w' - 1 : Nat) : Int) := by omega
      refine ⟨_, rfl, _, rfl, _, rfl, p, ts, _, _, rfl, rfl, sq_lst hp2, hat, _, _, rfl, rfl, c, _, (w' : Int) - 1, .int (bal (w' - 1) b : Nat), rfl, rfl, sq_lst hc, (by rw [e4]; exact bals_at b (w' - 1) (by omega)), _, rfl, _, _, rfl, rfl, ⟨by omega, by omega, by decide⟩, _, _, rfl, rfl, _, rfl, ?_⟩
      rw [shl1]
      refine ite2d (fun e2 => by rcases h2 with h2 | h2 <;> omega) (fun e2 => ⟨rfl, _, rfl⟩)
  · rintro σ H' ⟨rfl, v, rfl⟩
    exact q _ sm
def sp_law (K : PySem.W.Frag) : Sp := fun vs H Q _ => ∃ (a : Addr) (ns : List Int), vs = [.ref a] ∧ SqL K H a (ns.map V.int) ∧ ns.length ≤ 63 ∧ ∀ H', Q (.bl true) H'
theorem nat_of {r : Int} (h : 0 ≤ r) : ∃ n : Nat, r = n := ⟨r.toNat, by omega⟩
theorem lb_over {n : Nat} {t : V} (h : LB n ((2 : Int) ^ n + 1) t) : t = .non := by
  rcases h with ⟨h, _⟩ | ⟨b, hb, rfl, h1, _⟩
  · exact h
  · have h3 := bal_mono2 (n := n) hb
    rw [bal_full (Nat.le_refl n)] at h3
    have h5 : ((2 ^ n : Nat) : Int) = (2 : Int) ^ n := by simp
    omega
theorem fw_over {b : Nat} {t : V} (h : FW (((bal 300 b : Nat) : Int) + 1) b t) : t = .non := by
  rcases h with ⟨h, _⟩ | ⟨w, hw, rfl, h1, _⟩
  · exact h
  · have := bal_mono1 (b := b) hw
    omega
abbrev s_law : Stmt := topS 29
theorem sc_law : FnScope ["script", "pool", "k", "bound", "messages", "first", "wires", "asked", "bits", "told", "full"] ["script"] (defScope s_law) := ⟨rfl, rfl, rfl, by decide +kernel, rfl, by decide +kernel, by decide +kernel⟩
/-- slots: 0 script 1 pool 2 k 3 bound 4 messages 5 first 6 wires 7 asked 8 bits 9 told 10 full -/
theorem ok_law (M : Mg mg) (C : Cg K mg) {f : Addr} {fd : FuncData} (F : Fun K "law" "law" s_law f fd) (D__law_pool : Dn P w K mg base CX0 "_law_pool" 1 ["script", "count"] (sp__law_pool K)) (D__law_bound : Dn P w K mg base CX0 "_law_bound" 2 ["pool"] (sp__law_bound K)) (D__law_take : Dn P w K mg base CX0 "_law_take" 1 ["pool", "limit"] (sp__law_take K)) (D_wires_for_bits : Dn P w K mg base CX0 "wires_for_bits" 1 ["bound", "bits"] (sp_wires_for_bits K)) (D__law_ball : Dn P w K mg base CX0 "_law_ball" 1 ["wires", "most"] (sp__law_ball K)) (D__law_bits_right : Dn P w K mg base CX0 "_law_bits_right" 2 ["told", "bound", "bits"] (sp__law_bits_right K)) (D__law_messages : Dn P w K mg base CX0 "_law_messages" 2 ["pool", "near"] (sp__law_messages K)) (D_fewest_wires : Dn P w K mg base CX0 "fewest_wires" 1 ["messages", "bound"] (sp_fewest_wires K)) (D__law_wires_right : Dn P w K mg base CX0 "_law_wires_right" 2 ["told", "messages", "bound"] (sp__law_wires_right K)) (D__law_bound_right : Dn P w K mg base CX0 "_law_bound_right" 2 ["told", "wires", "messages"] (sp__law_bound_right K)) (D_least_bound : Dn P w K mg base CX0 "least_bound" 1 ["wires", "messages"] (sp_least_bound K)) : FnOk P w K mg base CX0 3 f fd ["script"] (sp_law K) := by
  refine F.ok sc_law (fun vs H Q E h => by unfold sp_law at h; (repeat (obtain ⟨_, h⟩ := h)); subst_vars; rfl) (fun cdv A outer s H vs Q E hr h => ?_)
  obtain ⟨a, ns, rfl, hS, hlen, q⟩ := h
  have nd := sc_law.nd
  refine ⟨_, (pss_cons (ps_set (i := 1) nd rfl (by first | exact Or.inl rfl | exact Or.inr rfl) (G.pe_callD D__law_pool (hr.mono (by decide)) pass0 (pa_cons (pv 0) (pa_cons pe_int pa_nil))))
    (pss_cons (ps_for PassesOwn.never rfl (pi_range1 rfl M.range (pa_cons pe_int pa_nil)) (pg_name (i := 2) nd rfl (by first | exact Or.inl rfl | exact Or.inr rfl)) (pss_cons (ps_set (i := 3) nd rfl (by first | exact Or.inl rfl | exact Or.inr rfl) (G.pe_callD D__law_bound (hr.mono (by decide)) pass0 (pa_cons (pv 1) pa_nil)))
    (pss_cons (ps_set (i := 4) nd rfl (by first | exact Or.inl rfl | exact Or.inr rfl) (G.pe_callD D__law_messages (hr.mono (by decide)) pass0 (pa_cons (pv 1) (pa_cons (G.pe_callD D__law_ball (hr.mono (by decide)) pass0 (pa_cons (G.pe_callD D__law_take (hr.mono (by decide)) pass0 (pa_cons (pv 1) (pa_cons pe_int pa_nil))) (pa_cons (pv 3) pa_nil))) pa_nil))))
    (pss_cons (ps_set (i := 5) nd rfl (by first | exact Or.inl rfl | exact Or.inr rfl) (G.pe_callD D_fewest_wires (hr.mono (by decide)) pass0 (pa_cons (pv 4) (pa_cons (pv 3) pa_nil))))
    (pss_cons (ps_if (pt_not (pt_val (G.pe_callD D__law_wires_right (hr.mono (by decide)) pass0 (pa_cons (pv 5) (pa_cons (pv 4) (pa_cons (pv 3) pa_nil)))))) (pss_one (ps_ret pe_bl)) pss_nil)
    (pss_cons (ps_set (i := 6) nd rfl (by first | exact Or.inl rfl | exact Or.inr rfl) (G.pe_callD D__law_take (hr.mono (by decide)) pass0 (pa_cons (pv 1) (pa_cons pe_int pa_nil))))
    (Evl.pss_cut (ps_if (pt_cmpR op_eq (G.pe_callD D__law_take (hr.mono (by decide)) pass0 (pa_cons (pv 1) (pa_cons pe_int pa_nil))) pe_int (nomark _)) (pss_one (ps_set (i := 6) nd rfl (by first | exact Or.inl rfl | exact Or.inr rfl) (G.pe_callD D__law_take (hr.mono (by decide)) pass0 (pa_cons (pv 1) (pa_cons pe_int pa_nil))))) pss_nil)
    (pss_cons (ps_set (i := 7) nd rfl (by first | exact Or.inl rfl | exact Or.inr rfl) (G.pe_callD D__law_messages (hr.mono (by decide)) pass0 (pa_cons (pv 1) (pa_cons (G.pe_callD D__law_ball (hr.mono (by decide)) pass0 (pa_cons (pv 6) (pa_cons (G.pe_callD D__law_take (hr.mono (by decide)) pass0 (pa_cons (pv 1) (pa_cons (pe_op op_add (pv 6) pe_int) pa_nil))) pa_nil))) pa_nil))))
    (pss_cons (ps_if (pt_not (pt_val (G.pe_callD D__law_bound_right (hr.mono (by decide)) pass0 (pa_cons (G.pe_callD D_least_bound (hr.mono (by decide)) pass0 (pa_cons (pv 6) (pa_cons (pv 7) pa_nil))) (pa_cons (pv 6) (pa_cons (pv 7) pa_nil)))))) (pss_one (ps_ret pe_bl)) pss_nil)
    (pss_cons (ps_if (pt_not (pt_val (G.pe_callD D__law_wires_right (hr.mono (by decide)) pass0 (pa_cons (G.pe_callD D_fewest_wires (hr.mono (by decide)) pass0 (pa_cons (pv 7) (pa_cons (pv 3) pa_nil))) (pa_cons (pv 7) (pa_cons (pv 3) pa_nil)))))) (pss_one (ps_ret pe_bl)) pss_nil)
    (pss_cons (ps_if (pt_not (pt_val (G.pe_callD D__law_wires_right (hr.mono (by decide)) pass0 (pa_cons (G.pe_callD D_fewest_wires (hr.mono (by decide)) pass0 (pa_cons (pv 4) (pa_cons (pv 3) pa_nil))) (pa_cons (pv 4) (pa_cons (pv 3) pa_nil)))))) (pss_one (ps_ret pe_bl)) pss_nil)
    (pss_cons (ps_if (pt_not (pt_val (G.pe_callD D__law_bound_right (hr.mono (by decide)) pass0 (pa_cons (G.pe_callD D_least_bound (hr.mono (by decide)) pass0 (pa_cons (pv 6) (pa_cons (pe_op op_shl pe_int (pv 6)) pa_nil))) (pa_cons (pv 6) (pa_cons (pe_op op_shl pe_int (pv 6)) pa_nil)))))) (pss_one (ps_ret pe_bl)) pss_nil)
    (pss_one (ps_if (pt_cmpR op_notN (G.pe_callD D_least_bound (hr.mono (by decide)) pass0 (pa_cons (pv 6) (pa_cons (pe_op op_add (pe_op op_shl pe_int (pv 6)) pe_int) pa_nil))) pe_non (nomark _)) (pss_one (ps_ret pe_bl)) pss_nil))))))))))))))
    (pss_cons (ps_set (i := 3) nd rfl (by first | exact Or.inl rfl | exact Or.inr rfl) (G.pe_callD D__law_bound (hr.mono (by decide)) pass0 (pa_cons (pv 1) pa_nil)))
    (pss_cons (ps_set (i := 8) nd rfl (by first | exact Or.inl rfl | exact Or.inr rfl) (G.pe_callD D__law_take (hr.mono (by decide)) pass0 (pa_cons (pv 1) (pa_cons pe_int pa_nil))))
    (Evl.pss_cut (ps_if (pt_cmpR op_eq (G.pe_callD D__law_take (hr.mono (by decide)) pass0 (pa_cons (pv 1) (pa_cons pe_int pa_nil))) pe_int (nomark _)) (pss_one (ps_set (i := 8) nd rfl (by first | exact Or.inl rfl | exact Or.inr rfl) (G.pe_callD D__law_take (hr.mono (by decide)) pass0 (pa_cons (pv 1) (pa_cons pe_int pa_nil))))) pss_nil)
    (pss_cons (ps_set (i := 9) nd rfl (by first | exact Or.inl rfl | exact Or.inr rfl) (G.pe_callD D_wires_for_bits (hr.mono (by decide)) pass0 (pa_cons (pv 3) (pa_cons (pv 8) pa_nil))))
    (pss_cons (ps_if (pt_not (pt_val (G.pe_callD D__law_bits_right (hr.mono (by decide)) pass0 (pa_cons (pv 9) (pa_cons (pv 3) (pa_cons (pv 8) pa_nil)))))) (pss_one (ps_ret pe_bl)) pss_nil)
    (pss_cons (ps_expr (pe_bm PySem.F.plainAttrs_list PySem.F.slot_list_append PySem.F.type_list_append mt_append (pv 9) (pa_cons (pe_un un_neg pe_int) pa_nil)))
    (pss_cons (ps_if (pt_not (pt_val (G.pe_callD D__law_bits_right (hr.mono (by decide)) pass0 (pa_cons (G.pe_callD D_wires_for_bits (hr.mono (by decide)) pass0 (pa_cons (pv 3) (pa_cons (pv 8) pa_nil))) (pa_cons (pv 3) (pa_cons (pv 8) pa_nil)))))) (pss_one (ps_ret pe_bl)) pss_nil)
    (pss_cons (ps_set (i := 10) nd rfl (by first | exact Or.inl rfl | exact Or.inr rfl) (G.pe_callD D__law_ball (hr.mono (by decide)) pass0 (pa_cons pe_int (pa_cons (pv 3) pa_nil))))
    (pss_cons (ps_if (PW.pt (pw_or (pt_cmpR op_notN (G.pe_callD D_fewest_wires (hr.mono (by decide)) pass0 (pa_cons (pe_op op_add (pv 10) pe_int) (pa_cons (pv 3) pa_nil))) pe_non (nomark _)) (pw_or1 (pt_not (pt_val (G.pe_callD D__law_wires_right (hr.mono (by decide)) pass0 (pa_cons (G.pe_callD D_fewest_wires (hr.mono (by decide)) pass0 (pa_cons (pv 10) (pa_cons (pv 3) pa_nil))) (pa_cons (pv 10) (pa_cons (pv 3) pa_nil))))))))) (pss_one (ps_ret pe_bl)) pss_nil)
    (pss_one (ps_ret (G.pe_callD D__law_bits_right (hr.mono (by decide)) pass0 (pa_cons (G.pe_callD D_wires_for_bits (hr.mono (by decide)) pass0 (pa_cons (pv 3) (pa_cons pe_int pa_nil))) (pa_cons (pv 3) (pa_cons pe_int pa_nil))))))))))))))))), ?_⟩
  have pa : ∀ {H : Hp} {p : Addr} {ns : List Int}, PoolAt (upd H p (.lst (ns.map V.int))) p := fun {H p ns} => ⟨ns, upd_same⟩
  refine ⟨_, rfl, a, ns, 120, rfl, hS, by omega, by omega, fun H1 p ds _ _ hp => ?_⟩
  refine ⟨_, rfl, by omega, by omega, for_range (lo := 0) (n := 3) (fun i σ H' => PoolAt H' p ∧ ∃ v2 v3 v4 v5 v6 v7, σ = [some (.ref a), some (.ref p), v2, v3, v4, v5, v6, v7, none, none, none]) ⟨⟨ds, hp⟩, _, _, _, _, _, _, rfl⟩ ?_ ?_⟩
  · rintro i σ H2 hi ⟨hp2, v2, v3, v4, v5, v6, v7, rfl⟩
    refine ⟨_, rfl, p, rfl, hp2, fun r ms h0 h1 => ?_⟩
    obtain ⟨b, rfl⟩ := nat_of h0
    refine ⟨_, rfl, _, rfl, p, 301, rfl, pa, by omega, fun r ms2 g0 g1 => ?_⟩
    obtain ⟨n, rfl⟩ := nat_of g0
    refine ⟨_, rfl, n, b, rfl, by omega, p, _, rfl, pa, by omega, fun m ms3 => ?_⟩
    refine ⟨_, rfl, _, rfl, m, b, rfl, fun t ht => ?_⟩
    refine ⟨_, rfl, _, rfl, _, rfl, t, m, b, rfl, ht, true, rfl, iteF ?_⟩
    refine ⟨_, rfl, p, 301, rfl, pa, by omega, fun r ms4 k0 k1 => ?_⟩
    obtain ⟨w0, rfl⟩ := nat_of k0
    refine ⟨fun σ H' => PoolAt H' p ∧ ∃ w : Nat, w < 301 ∧ σ = [some (.ref a), some (.ref p), some (.int (0 + (i : Int))), some (.int b), some (.int m), some t, some (.int w), v7, none, none, none], ?_, ?_⟩
    · refine ⟨_, rfl, p, 2, rfl, pa, by omega, fun r ms5 l0 l1 => ⟨rfl, _, rfl, ite2i (fun e => ?_) (fun e => ?_)⟩⟩
      · refine ⟨_, rfl, p, 12, rfl, pa, by omega, fun r ms6 m0 m1 => ?_⟩
        obtain ⟨w1, rfl⟩ := nat_of m0
        exact ⟨pa, w1, by omega, rfl⟩
      · exact ⟨pa, w0, by omega, rfl⟩
    rintro σ H3 ⟨hp3, w', hw, rfl⟩
    refine ⟨_, rfl, _, rfl, _, rfl, _, rfl, _, _, rfl, rfl, p, _, rfl, hp3, by omega, fun r ms5 l0 l1 => ?_⟩
    obtain ⟨b2, rfl⟩ := nat_of l0
    refine ⟨w', b2, rfl, by omega, p, _, rfl, pa, by omega, fun m2 ms6 => ?_⟩
    refine ⟨_, rfl, _, rfl, w', m2, rfl, by omega, fun t2 ht2 => ⟨_, rfl, _, rfl, t2, w', m2, rfl, by omega, ht2, true, rfl, iteF ?_⟩⟩
    refine ⟨_, rfl, _, rfl, m2, b, rfl, fun t3 ht3 => ⟨_, rfl, _, rfl, t3, m2, b, rfl, ht3, true, rfl, iteF ?_⟩⟩
    refine ⟨_, rfl, _, rfl, m, b, rfl, fun t4 ht4 => ⟨_, rfl, _, rfl, t4, m, b, rfl, ht4, true, rfl, iteF ?_⟩⟩
    refine ⟨_, rfl, _, rfl, _, _, rfl, rfl, ⟨by omega, by omega, by decide⟩, w', _, rfl, by omega, fun t5 ht5 => ⟨_, rfl, _, rfl, _, _, rfl, rfl, ⟨by omega, by omega, by decide⟩, t5, w', _, rfl, by omega, ht5, true, rfl, iteF ?_⟩⟩
    refine ⟨_, rfl, _, rfl, _, _, rfl, rfl, ⟨by omega, by omega, by decide⟩, _, _, rfl, rfl, w', _, rfl, by omega, fun t6 ht6 => ?_⟩
    rw [Int.one_mul, Int.toNat_natCast] at ht6
    have e6 := lb_over ht6
    subst e6
    exact ⟨rfl, _, rfl, iteF ⟨pa, _, _, _, _, _, _, rfl⟩⟩
  · rintro σ H2 ⟨hp2, v2, v3, v4, v5, v6, v7, rfl⟩
    refine ⟨_, rfl, p, rfl, hp2, fun r ms h0 h1 => ?_⟩
    obtain ⟨b, rfl⟩ := nat_of h0
    refine ⟨_, rfl, p, 301, rfl, pa, by omega, fun r ms2 g0 g1 => ?_⟩
    obtain ⟨k0, rfl⟩ := nat_of g0
    refine ⟨fun σ H' => ∃ k : Nat, k < 301 ∧ σ = [some (.ref a), some (.ref p), v2, some (.int b), v4, v5, v6, v7, some (.int k), none, none], ?_, ?_⟩
    · refine ⟨_, rfl, p, 3, rfl, pa, by omega, fun r ms5 l0 l1 => ⟨rfl, _, rfl, ite2i (fun e => ?_) (fun e => ?_)⟩⟩
      · refine ⟨_, rfl, p, 12, rfl, pa, by omega, fun r ms6 m0 m1 => ?_⟩
        obtain ⟨w1, rfl⟩ := nat_of m0
        exact ⟨w1, by omega, rfl⟩
      · exact ⟨k0, by omega, rfl⟩
    rintro σ H3 ⟨k, hk, rfl⟩
    refine ⟨_, rfl, _, rfl, b, k, rfl, by omega, fun H4 l ts sm nl hl hf => ?_⟩
    refine ⟨_, rfl, _, rfl, _, rfl, l, ts, b, k, rfl, hl, hf, by omega, by omega, fun H5 sm5 => ⟨true, rfl, iteF ?_⟩⟩
    have hl5 := sm5 _ _ hl
    refine ⟨_, rfl, .inl ⟨rfl, _, sq_lst hl5⟩, _, rfl, l, ts, _, rfl, rfl, hl5, szl (by rw [hf.1]; omega), ?_⟩
    refine ⟨_, rfl, _, rfl, b, k, rfl, by omega, fun H6 l2 ts2 sm6 nl6 hl6 hf6 => ?_⟩
    refine ⟨_, rfl, _, rfl, l2, ts2, b, k, rfl, hl6, hf6, by omega, by omega, fun H7 sm7 => ⟨true, rfl, iteF ?_⟩⟩
    refine ⟨_, rfl, 300, b, rfl, by omega, ?_⟩
    refine ⟨_, rfl, _, _, rfl, rfl, _, rfl, _, b, rfl, fun t ht => ?_⟩
    have et := fw_over ht
    subst et
    refine ⟨rfl, _, rfl, iteF ?_⟩
    refine ⟨_, rfl, _, rfl, _, b, rfl, fun t2 ht2 => ⟨_, rfl, _, rfl, t2, _, b, rfl, ht2, true, rfl, iteF ?_⟩⟩
    refine ⟨_, rfl, b, 0, rfl, by omega, fun H8 l3 ts3 sm8 nl8 hl8 hf8 => ?_⟩
    exact ⟨_, rfl, l3, ts3, b, 0, rfl, hl8, hf8, by omega, by omega, fun H9 sm9 => q H9⟩
end
end Lw
namespace Lw
open PySem PySem.Spec PyProof.Rows L2 G
theorem all_mk {l : PySem.W.OpenLaw} {w : World} {K : PySem.W.Frag} {h : Heap} {mg : Str → Option Value} {fa : Addr} (X : K.In h) (G : h.Ns mainGlobals mg) (hfa : mg "law" = some (.ref fa))
    {f0 : Addr} {od0 an0 : Option Addr} {sl0 : Array (Option Value)} {oc0 kV0 dc0 pm0 cd0 ct0 : Value}
    (a0 : PySem.W.nsIn K mainGlobals "fewest_wires" = some (some (.ref f0))) (l0 : K.lookup f0 = some ⟨oc0, od0, .func (PySem.W.fnOf "fewest_wires" "fewest_wires" (defArgs s_fewest_wires) (defBody s_fewest_wires) (defScope s_fewest_wires) .none kV0 dc0 pm0 an0 cd0 ct0), sl0⟩) (c0 : PySem.W.codeIn K cd0 "fewest_wires" = true) (k0 : PySem.W.keepIn K (.ref f0) = true)
    {f1 : Addr} {od1 an1 : Option Addr} {sl1 : Array (Option Value)} {oc1 kV1 dc1 pm1 cd1 ct1 : Value}
    (a1 : PySem.W.nsIn K mainGlobals "least_bound" = some (some (.ref f1))) (l1 : K.lookup f1 = some ⟨oc1, od1, .func (PySem.W.fnOf "least_bound" "least_bound" (defArgs s_least_bound) (defBody s_least_bound) (defScope s_least_bound) .none kV1 dc1 pm1 an1 cd1 ct1), sl1⟩) (c1 : PySem.W.codeIn K cd1 "least_bound" = true) (k1 : PySem.W.keepIn K (.ref f1) = true)
    {f2 : Addr} {od2 an2 : Option Addr} {sl2 : Array (Option Value)} {oc2 kV2 dc2 pm2 cd2 ct2 : Value}
    (a2 : PySem.W.nsIn K mainGlobals "wires_for_bits" = some (some (.ref f2))) (l2 : K.lookup f2 = some ⟨oc2, od2, .func (PySem.W.fnOf "wires_for_bits" "wires_for_bits" (defArgs s_wires_for_bits) (defBody s_wires_for_bits) (defScope s_wires_for_bits) .none kV2 dc2 pm2 an2 cd2 ct2), sl2⟩) (c2 : PySem.W.codeIn K cd2 "wires_for_bits" = true) (k2 : PySem.W.keepIn K (.ref f2) = true)
    {f3 : Addr} {od3 an3 : Option Addr} {sl3 : Array (Option Value)} {oc3 kV3 dc3 pm3 cd3 ct3 : Value}
    (a3 : PySem.W.nsIn K mainGlobals "_law_pool" = some (some (.ref f3))) (l3 : K.lookup f3 = some ⟨oc3, od3, .func (PySem.W.fnOf "_law_pool" "_law_pool" (defArgs s__law_pool) (defBody s__law_pool) (defScope s__law_pool) .none kV3 dc3 pm3 an3 cd3 ct3), sl3⟩) (c3 : PySem.W.codeIn K cd3 "_law_pool" = true) (k3 : PySem.W.keepIn K (.ref f3) = true)
    {f4 : Addr} {od4 an4 : Option Addr} {sl4 : Array (Option Value)} {oc4 kV4 dc4 pm4 cd4 ct4 : Value}
    (a4 : PySem.W.nsIn K mainGlobals "_law_take" = some (some (.ref f4))) (l4 : K.lookup f4 = some ⟨oc4, od4, .func (PySem.W.fnOf "_law_take" "_law_take" (defArgs s__law_take) (defBody s__law_take) (defScope s__law_take) .none kV4 dc4 pm4 an4 cd4 ct4), sl4⟩) (c4 : PySem.W.codeIn K cd4 "_law_take" = true) (k4 : PySem.W.keepIn K (.ref f4) = true)
    {f5 : Addr} {od5 an5 : Option Addr} {sl5 : Array (Option Value)} {oc5 kV5 dc5 pm5 cd5 ct5 : Value}
    (a5 : PySem.W.nsIn K mainGlobals "_law_whole" = some (some (.ref f5))) (l5 : K.lookup f5 = some ⟨oc5, od5, .func (PySem.W.fnOf "_law_whole" "_law_whole" (defArgs s__law_whole) (defBody s__law_whole) (defScope s__law_whole) .none kV5 dc5 pm5 an5 cd5 ct5), sl5⟩) (c5 : PySem.W.codeIn K cd5 "_law_whole" = true) (k5 : PySem.W.keepIn K (.ref f5) = true)
    {f6 : Addr} {od6 an6 : Option Addr} {sl6 : Array (Option Value)} {oc6 kV6 dc6 pm6 cd6 ct6 : Value}
    (a6 : PySem.W.nsIn K mainGlobals "_law_ball" = some (some (.ref f6))) (l6 : K.lookup f6 = some ⟨oc6, od6, .func (PySem.W.fnOf "_law_ball" "_law_ball" (defArgs s__law_ball) (defBody s__law_ball) (defScope s__law_ball) .none kV6 dc6 pm6 an6 cd6 ct6), sl6⟩) (c6 : PySem.W.codeIn K cd6 "_law_ball" = true) (k6 : PySem.W.keepIn K (.ref f6) = true)
    {f7 : Addr} {od7 an7 : Option Addr} {sl7 : Array (Option Value)} {oc7 kV7 dc7 pm7 cd7 ct7 : Value}
    (a7 : PySem.W.nsIn K mainGlobals "_law_balls" = some (some (.ref f7))) (l7 : K.lookup f7 = some ⟨oc7, od7, .func (PySem.W.fnOf "_law_balls" "_law_balls" (defArgs s__law_balls) (defBody s__law_balls) (defScope s__law_balls) .none kV7 dc7 pm7 an7 cd7 ct7), sl7⟩) (c7 : PySem.W.codeIn K cd7 "_law_balls" = true) (k7 : PySem.W.keepIn K (.ref f7) = true)
    {f8 : Addr} {od8 an8 : Option Addr} {sl8 : Array (Option Value)} {oc8 kV8 dc8 pm8 cd8 ct8 : Value}
    (a8 : PySem.W.nsIn K mainGlobals "_law_bound" = some (some (.ref f8))) (l8 : K.lookup f8 = some ⟨oc8, od8, .func (PySem.W.fnOf "_law_bound" "_law_bound" (defArgs s__law_bound) (defBody s__law_bound) (defScope s__law_bound) .none kV8 dc8 pm8 an8 cd8 ct8), sl8⟩) (c8 : PySem.W.codeIn K cd8 "_law_bound" = true) (k8 : PySem.W.keepIn K (.ref f8) = true)
    {f9 : Addr} {od9 an9 : Option Addr} {sl9 : Array (Option Value)} {oc9 kV9 dc9 pm9 cd9 ct9 : Value}
    (a9 : PySem.W.nsIn K mainGlobals "_law_messages" = some (some (.ref f9))) (l9 : K.lookup f9 = some ⟨oc9, od9, .func (PySem.W.fnOf "_law_messages" "_law_messages" (defArgs s__law_messages) (defBody s__law_messages) (defScope s__law_messages) .none kV9 dc9 pm9 an9 cd9 ct9), sl9⟩) (c9 : PySem.W.codeIn K cd9 "_law_messages" = true) (k9 : PySem.W.keepIn K (.ref f9) = true)
    {f10 : Addr} {od10 an10 : Option Addr} {sl10 : Array (Option Value)} {oc10 kV10 dc10 pm10 cd10 ct10 : Value}
    (a10 : PySem.W.nsIn K mainGlobals "_law_wires_right" = some (some (.ref f10))) (l10 : K.lookup f10 = some ⟨oc10, od10, .func (PySem.W.fnOf "_law_wires_right" "_law_wires_right" (defArgs s__law_wires_right) (defBody s__law_wires_right) (defScope s__law_wires_right) .none kV10 dc10 pm10 an10 cd10 ct10), sl10⟩) (c10 : PySem.W.codeIn K cd10 "_law_wires_right" = true) (k10 : PySem.W.keepIn K (.ref f10) = true)
    {f11 : Addr} {od11 an11 : Option Addr} {sl11 : Array (Option Value)} {oc11 kV11 dc11 pm11 cd11 ct11 : Value}
    (a11 : PySem.W.nsIn K mainGlobals "_law_bound_right" = some (some (.ref f11))) (l11 : K.lookup f11 = some ⟨oc11, od11, .func (PySem.W.fnOf "_law_bound_right" "_law_bound_right" (defArgs s__law_bound_right) (defBody s__law_bound_right) (defScope s__law_bound_right) .none kV11 dc11 pm11 an11 cd11 ct11), sl11⟩) (c11 : PySem.W.codeIn K cd11 "_law_bound_right" = true) (k11 : PySem.W.keepIn K (.ref f11) = true)
    {f12 : Addr} {od12 an12 : Option Addr} {sl12 : Array (Option Value)} {oc12 kV12 dc12 pm12 cd12 ct12 : Value}
    (a12 : PySem.W.nsIn K mainGlobals "_law_bits_right" = some (some (.ref f12))) (l12 : K.lookup f12 = some ⟨oc12, od12, .func (PySem.W.fnOf "_law_bits_right" "_law_bits_right" (defArgs s__law_bits_right) (defBody s__law_bits_right) (defScope s__law_bits_right) .none kV12 dc12 pm12 an12 cd12 ct12), sl12⟩) (c12 : PySem.W.codeIn K cd12 "_law_bits_right" = true) (k12 : PySem.W.keepIn K (.ref f12) = true)
    {f13 : Addr} {od13 an13 : Option Addr} {sl13 : Array (Option Value)} {oc13 kV13 dc13 pm13 cd13 ct13 : Value}
    (a13 : PySem.W.nsIn K mainGlobals "law" = some (some (.ref f13))) (l13 : K.lookup f13 = some ⟨oc13, od13, .func (PySem.W.fnOf "law" "law" (defArgs s_law) (defBody s_law) (defScope s_law) .none kV13 dc13 pm13 an13 cd13 ct13), sl13⟩) (c13 : PySem.W.codeIn K cd13 "law" = true) (k13 : PySem.W.keepIn K (.ref f13) = true)
    (z_all : PySem.W.nsIn K mainGlobals "all" = some none)
    (z_bool : PySem.W.nsIn K mainGlobals "bool" = some none)
    (z_enumerate : PySem.W.nsIn K mainGlobals "enumerate" = some none)
    (z_int : PySem.W.nsIn K mainGlobals "int" = some none)
    (z_isinstance : PySem.W.nsIn K mainGlobals "isinstance" = some none)
    (z_len : PySem.W.nsIn K mainGlobals "len" = some none)
    (z_list : PySem.W.nsIn K mainGlobals "list" = some none)
    (z_max : PySem.W.nsIn K mainGlobals "max" = some none)
    (z_min : PySem.W.nsIn K mainGlobals "min" = some none)
    (z_range : PySem.W.nsIn K mainGlobals "range" = some none)
    (z_str : PySem.W.nsIn K mainGlobals "str" = some none)
    (z_sum : PySem.W.nsIn K mainGlobals "sum" = some none)
    (z_tuple : PySem.W.nsIn K mainGlobals "tuple" = some none)
    (y_comb : PySem.W.nsIn K mainGlobals "comb" = some (some (.builtin "math.comb")))
    {R : Addr} {tk : Tok} (r1 : PySem.W.nsIn K mainGlobals "Rule" = some (some (.ref R))) (r2 : PySem.W.readsIn K R (.type "type") = true) (r3 : PySem.W.specialIn K (.ref R) "__getattribute__" = some (some (.builtin "type.__getattribute__")))
    (r4 : PySem.W.findCls K (.ref R) (.type "type") "MOST_WIRES" = some (.val (.int 300 tk)))
    : ∃ fd : FuncData, (∀ (s : Shared) (v : Value), BindsTo s fd ⟨[v], []⟩ [("script", v)]) ∧ ∀ base : Heap, K.In base → base.Ns mainGlobals mg → FnOk l.prog w K mg base CX0 3 fa fd ["script"] (sp_law K) := by
  have e := hfa.symm.trans (PySem.W.mg_of X G a13)
  cases e
  have M : Mg mg := { all := PySem.W.mg_none_of X G z_all, bool := PySem.W.mg_none_of X G z_bool, enumerate := PySem.W.mg_none_of X G z_enumerate, int := PySem.W.mg_none_of X G z_int, isinstance := PySem.W.mg_none_of X G z_isinstance, len := PySem.W.mg_none_of X G z_len, list := PySem.W.mg_none_of X G z_list, max := PySem.W.mg_none_of X G z_max, min := PySem.W.mg_none_of X G z_min, range := PySem.W.mg_none_of X G z_range, str := PySem.W.mg_none_of X G z_str, sum := PySem.W.mg_none_of X G z_sum, tuple := PySem.W.mg_none_of X G z_tuple, comb := PySem.W.mg_of X G y_comb }
  have C : Cg K mg := ⟨R, .type "type", PySem.W.mg_of X G r1, ⟨r2, r3⟩, _, ⟨r4, ⟨_, rfl⟩⟩⟩
  have G0 : Fg K mg "fewest_wires" s_fewest_wires := fg_of X G a0 l0 c0 k0
  have G1 : Fg K mg "least_bound" s_least_bound := fg_of X G a1 l1 c1 k1
  have G2 : Fg K mg "wires_for_bits" s_wires_for_bits := fg_of X G a2 l2 c2 k2
  have G3 : Fg K mg "_law_pool" s__law_pool := fg_of X G a3 l3 c3 k3
  have G4 : Fg K mg "_law_take" s__law_take := fg_of X G a4 l4 c4 k4
  have G5 : Fg K mg "_law_whole" s__law_whole := fg_of X G a5 l5 c5 k5
  have G6 : Fg K mg "_law_ball" s__law_ball := fg_of X G a6 l6 c6 k6
  have G7 : Fg K mg "_law_balls" s__law_balls := fg_of X G a7 l7 c7 k7
  have G8 : Fg K mg "_law_bound" s__law_bound := fg_of X G a8 l8 c8 k8
  have G9 : Fg K mg "_law_messages" s__law_messages := fg_of X G a9 l9 c9 k9
  have G10 : Fg K mg "_law_wires_right" s__law_wires_right := fg_of X G a10 l10 c10 k10
  have G11 : Fg K mg "_law_bound_right" s__law_bound_right := fg_of X G a11 l11 c11 k11
  have G12 : Fg K mg "_law_bits_right" s__law_bits_right := fg_of X G a12 l12 c12 k12
  have G13 : Fg K mg "law" s_law := fg_of X G a13 l13 c13 k13
  refine ⟨PySem.W.fnOf "law" "law" (defArgs s_law) (defBody s_law) (defScope s_law) .none kV13 dc13 pm13 an13 cd13 ct13, fun s v => .of_eq rfl, fun base hK hN => ?_⟩
  have D_fewest_wires := dn_fewest_wires (P := l.prog) (w := w) (base := base) M C G0
  have D_least_bound := dn_least_bound (P := l.prog) (w := w) (base := base) M C G1
  have D_wires_for_bits := dn_wires_for_bits (P := l.prog) (w := w) (base := base) M C G2
  have D__law_pool := dn__law_pool (P := l.prog) (w := w) (base := base) M C G3
  have D__law_take := dn__law_take (P := l.prog) (w := w) (base := base) M C G4
  have D__law_whole := dn__law_whole (P := l.prog) (w := w) (base := base) M C G5
  have D__law_ball := dn__law_ball (P := l.prog) (w := w) (base := base) M C G6
  have D__law_balls := dn__law_balls (P := l.prog) (w := w) (base := base) M C G7
  have D__law_bound := dn__law_bound (P := l.prog) (w := w) (base := base) M C G8 D__law_take
  have D__law_messages := dn__law_messages (P := l.prog) (w := w) (base := base) M C G9 D__law_take
  have D__law_wires_right := dn__law_wires_right (P := l.prog) (w := w) (base := base) M C G10 D__law_ball D__law_whole
  have D__law_bound_right := dn__law_bound_right (P := l.prog) (w := w) (base := base) M C G11 D__law_ball D__law_whole
  have D__law_bits_right := dn__law_bits_right (P := l.prog) (w := w) (base := base) M C G12 D__law_balls D__law_whole
  exact ok_law (P := l.prog) (w := w) (base := base) M C (fun_mk l13 c13 k13) D__law_pool D__law_bound D__law_take D_wires_for_bits D__law_ball D__law_bits_right D__law_messages D_fewest_wires D__law_wires_right D__law_bound_right D_least_bound
end Lw
open PySem PySem.W PyProof.Rows
set_option maxHeartbeats 0 in
theorem PySem.Challenge.cw_fewturnatonce_k36_fewest_wires_holds : PySem.Challenge.rw_fewturnatonce_k36_fewest_wires.Holds := by
  w_on; o_law; k_head; (case hw => w_witness2)
  k_fill
  refine L2.walk_of (l := PySem.Challenge.rw_fewturnatonce_k36_fewest_wires) (n := 63) (k := 3) (x := "script") (CX := fun _ => L2.CX0) (sp := fun w => Lw.sp_law _) rfl (by decide) rfl ⟨rfl, by decide, by decide⟩ (fun w h Y => PySem.W.kIn_of Y) ?F (fun _ _ a ns hl _ hS => ⟨a, ns, rfl, hS, hl, fun _ => rfl⟩) (fun _ _ _ _ _ h => h)
  case F =>
    intro w mg fa h KX G hmg
    refine' Lw.all_mk KX G hmg ?a0 ?l0 ?c0 ?k0 ?a1 ?l1 ?c1 ?k1 ?a2 ?l2 ?c2 ?k2 ?a3 ?l3 ?c3 ?k3 ?a4 ?l4 ?c4 ?k4 ?a5 ?l5 ?c5 ?k5 ?a6 ?l6 ?c6 ?k6 ?a7 ?l7 ?c7 ?k7 ?a8 ?l8 ?c8 ?k8 ?a9 ?l9 ?c9 ?k9 ?a10 ?l10 ?c10 ?k10 ?a11 ?l11 ?c11 ?k11 ?a12 ?l12 ?c12 ?k12 ?a13 ?l13 ?c13 ?k13 ?z_all ?z_bool ?z_enumerate ?z_int ?z_isinstance ?z_len ?z_list ?z_max ?z_min ?z_range ?z_str ?z_sum ?z_tuple ?y_comb ?r1 ?r2 ?r3 ?r4
    (case a0 => k_is)
    (case l0 => k_is)
    (case c0 => k_is)
    (case k0 => k_is)
    (case a1 => k_is)
    (case l1 => k_is)
    (case c1 => k_is)
    (case k1 => k_is)
    (case a2 => k_is)
    (case l2 => k_is)
    (case c2 => k_is)
    (case k2 => k_is)
    (case a3 => k_is)
    (case l3 => k_is)
    (case c3 => k_is)
    (case k3 => k_is)
    (case a4 => k_is)
    (case l4 => k_is)
    (case c4 => k_is)
    (case k4 => k_is)
    (case a5 => k_is)
    (case l5 => k_is)
    (case c5 => k_is)
    (case k5 => k_is)
    (case a6 => k_is)
    (case l6 => k_is)
    (case c6 => k_is)
    (case k6 => k_is)
    (case a7 => k_is)
    (case l7 => k_is)
    (case c7 => k_is)
    (case k7 => k_is)
    (case a8 => k_is)
    (case l8 => k_is)
    (case c8 => k_is)
    (case k8 => k_is)
    (case a9 => k_is)
    (case l9 => k_is)
    (case c9 => k_is)
    (case k9 => k_is)
    (case a10 => k_is)
    (case l10 => k_is)
    (case c10 => k_is)
    (case k10 => k_is)
    (case a11 => k_is)
    (case l11 => k_is)
    (case c11 => k_is)
    (case k11 => k_is)
    (case a12 => k_is)
    (case l12 => k_is)
    (case c12 => k_is)
    (case k12 => k_is)
    (case a13 => k_is)
    (case l13 => k_is)
    (case c13 => k_is)
    (case k13 => k_is)
    (case z_all => k_is)
    (case z_bool => k_is)
    (case z_enumerate => k_is)
    (case z_int => k_is)
    (case z_isinstance => k_is)
    (case z_len => k_is)
    (case z_list => k_is)
    (case z_max => k_is)
    (case z_min => k_is)
    (case z_range => k_is)
    (case z_str => k_is)
    (case z_sum => k_is)
    (case z_tuple => k_is)
    (case y_comb => k_is)
    (case r1 => k_is)
    (case r2 => k_is)
    (case r3 => k_is)
    (case r4 => k_is)
