import PyProof.Rows.All
import Wide.All
import OpenK.AllK
import Wide.FinOn
import HandS.ForMost
import HandS.ClsMeth
import HandS.Gcd
import HandS.IsInst
import HandS.Zip
import HandS.Rev
import HandS.Evl
import HandS.Walk
import HandS.TupAny
import HandS.SortInts
import HandS.Flow
import HandS.Conv
import HandS.RevRange
import KE.KMathGC
import HandS.WideBits
import HandS.More
import HandS.Base
import HandS.Call
import HandS.Exc
import HandS.ExcInit
import KE.KExcSuper
import HandS.ExcField
import HandS.ExcIs
import HandS.WordsExc
import KE.KExcIs
import PySem.Challenge.RW_fewturnatonce_k13_sets_and_numbers
set_option Elab.async false
set_option linter.all false
set_option maxRecDepth 100000
set_option maxHeartbeats 4000000
local macro_rules | `(tactic| walk_at "g") => `(tactic| first
  | refine ⟨_, rfl, ?_⟩ | refine ⟨_, _, rfl, rfl, ?_⟩ | refine ⟨rfl, ?_⟩)

local macro_rules | `(tactic| walk_at "gg") => `(tactic| repeat walk_at "g")
namespace G
open PySem PySem.Spec PyProof.Rows L2
/-! ### a def of the module by its name: what a caller needs -/
structure Dn (P : Program) (w : World) (K : PySem.W.Frag) (mg : Str → Option Value) (base : Heap) (CX : CXT) (x : Str) (k : Nat) (ps : List Str) (sp : Sp) : Prop where
  ex : ∃ (f : Addr) (fd : FuncData), FnOk P w K mg base CX k f fd ps sp ∧ mg x = some (.ref f) ∧ PySem.W.keepIn K (.ref f) = true ∧ Binds K fd ps []
structure Fg (K : PySem.W.Frag) (mg : Str → Option Value) (x : Str) (st : Stmt) : Prop where
  ex : ∃ (f : Addr) (fd : FuncData), Fun K x x st f fd ∧ mg x = some (.ref f)
section
variable {X : Cx} {CX : CXT} {k : Nat} {x : Str} {ps : List Str} {sp : Sp} {E : XK} {e : Expr} {es : List Expr} {t : TA} {p pos : Pos}
theorem pe_callD (D : Dn X.prog X.w X.K X.mg X.base CX x k ps sp) (hr : Room k X.A) (hx : Passes CX X E) (ha : PA X (e :: es) t) (hg : Gl X x := by rfl)
    (hdb : (x == ("__debug__" : Str)) = false := by decide) (he : starEach (e :: es) X.env = (false, eval e X.env) :: starEach es X.env := by rfl) (hpl : (backTo pos (starEach es X.env)).any (·.1) = false := by rfl) :
    PE X (.Call (.Name x p) (e :: es) [] pos) (tCall sp [] E t) := by
  obtain ⟨f, fd, F, hm, hk, hb⟩ := D.ex
  exact pe_call F hr hg hm hk hb .nil hx ha hdb he hpl
theorem pe_callD0 (D : Dn X.prog X.w X.K X.mg X.base CX x k ps sp) (hr : Room k X.A) (hx : Passes CX X E) (hg : Gl X x := by rfl) (hdb : (x == ("__debug__" : Str)) = false := by decide) :
    PE X (.Call (.Name x p) [] [] pos) (tCall sp [] E tNil) := by
  obtain ⟨f, fd, F, hm, hk, hb⟩ := D.ex
  exact pe_call0 F hr hg hm hk hb .nil hx hdb
end
section
variable {P : Program} {w : World} {K : PySem.W.Frag} {mg : Str → Option Value} {base : Heap}
theorem dn_of {x : Str} {st : Stmt} {N ps : List Str} {k : Nat} {sp : Sp} (g : Fg K mg x st) (S : FnScope N ps (defScope st)) (len : ∀ vs H Q E, sp vs H Q E → vs.length = ps.length)
    (hb : ∀ (kV doc pm : Value) (an : Option Addr) (cdv ct : Value) (us : List Value), us.length = ps.length → bindArgs (PySem.W.fnOf x x (defArgs st) (defBody st) (defScope st) .none kV doc pm an cdv ct) ⟨us, []⟩ = pure (ps.zip us))
    (hbody : ∀ (f : Addr) (cdv : Value) (A : Around) (outer : List Env) (s : Shared) (H : Hp) (vs : List V) (Q : VK) (E : XK), Room k (A.deeper (envOfC x (defScope st) s.heap.objs.size f cdv)) → sp vs H Q E →
      ∃ t, PSs (cxOf CX0 P w K mg base N x (defScope st) f cdv A outer s H E).nox (defBody st) t ∧ t { nx := fun _ H' => Q .non H', rt := Q } (start N vs) H) :
    Dn P w K mg base CX0 x (k + 1) ps sp := by
  obtain ⟨f, fd, F, hm⟩ := g.ex
  exact ⟨f, fd, F.ok S len (hbody f), hm, F.kp, F.binds hb⟩
theorem Dn.imp {x : Str} {k : Nat} {ps : List Str} {sp sp' : Sp} {CX : CXT} (D : Dn P w K mg base CX x k ps sp) (h : ∀ vs H Q E, sp' vs H Q E → sp vs H Q E) : Dn P w K mg base CX x k ps sp' := by
  obtain ⟨f, fd, F, r⟩ := D.ex
  exact ⟨f, fd, F.imp h, r⟩
theorem fg_of {st : Stmt} {x : Str} {f : Addr} {h : Heap} {oc : Value} {od an : Option Addr} {osl : Array (Option Value)} {kV doc pm cdv ct : Value} (X : K.In h) (G : h.Ns mainGlobals mg)
    (a : PySem.W.nsIn K mainGlobals x = some (some (.ref f))) (l : K.lookup f = some ⟨oc, od, .func (PySem.W.fnOf x x (defArgs st) (defBody st) (defScope st) .none kV doc pm an cdv ct), osl⟩)
    (c : PySem.W.codeIn K cdv x = true) (kp : PySem.W.keepIn K (.ref f) = true) : Fg K mg x st := ⟨f, _, fun_mk l c kp, PySem.W.mg_of X G a⟩
end
/-! ### heaps -/
/-- all that was tracked stands, but at p -/
def Sb (p : Addr) (H H' : Hp) : Prop := ∀ b o, b ≠ p → H b = some o → H' b = some o
theorem Sb.refl (p : Addr) (H : Hp) : Sb p H H := fun _ _ _ h => h
theorem Sb.trans {p : Addr} {H H1 H2 : Hp} (a : Sb p H H1) (b : Sb p H1 H2) : Sb p H H2 := fun c o n h => b c o n (a c o n h)
theorem Sb.of {p : Addr} {H H' : Hp} (a : Same H H') : Sb p H H' := fun c o _ h => a c o h
theorem Sb.upd {p : Addr} {H H' : Hp} {o : HO} (a : Sb p H H') : Sb p H (upd H' p o) := fun c u n h => by rw [upd_ne n]; exact a c u n h
theorem same_new {H : Hp} {p : Addr} {o : HO} (h : H p = none) : Same H (upd H p o) := fun b x e => by rw [upd_ne (ne_of_none e h)]; exact e
theorem _root_.L2.Same.new {H H' : Hp} {p : Addr} {o : HO} (s : Same H H') (h : H' p = none) : Same H (upd H' p o) := s.trans (same_new h)
/-- a list that H does not know changes -/
theorem _root_.L2.Same.mut {H H' : Hp} {p : Addr} {o : HO} (s : Same H H') (h : H p = none) : Same H (upd H' p o) := fun b x e => by rw [upd_ne (ne_of_none e h)]; exact s b x e
theorem _root_.L2.Same.none {H H' : Hp} {p : Addr} (s : Same H H') (h : H' p = Option.none) : H p = Option.none := s.free h
def PoolAt (H : Hp) (p : Addr) : Prop := ∃ ns : List Int, H p = some (.lst (ns.map V.int))
theorem sq_lst {K : PySem.W.Frag} {H : Hp} {a : Addr} {xs : List V} (h : H a = some (.lst xs)) : SqL K H a xs := .inl (.inl h)
theorem sq_tup {K : PySem.W.Frag} {H : Hp} {a : Addr} {xs : List V} (h : H a = some (.tup xs)) : SqT K H a xs := .inl (.inl h)
theorem sz {n : Nat} (h : n ≤ 16777216) : n ≤ sizeLine := by rw [sizeLine_eq]; exact h
theorem szl {n : Nat} (h : n < 16777216) : n < sizeLine := by rw [sizeLine_eq]; exact h
theorem map_int_at {ns : List Int} {i : Nat} {x : V} (h : (ns.map V.int)[i]? = some x) : ∃ n, ns[i]? = some n ∧ x = .int n := by
  rw [List.getElem?_map] at h
  cases e : ns[i]? with
  | none => rw [e] at h; cases h
  | some z => rw [e] at h; exact ⟨z, rfl, (Option.some.inj h).symm⟩
theorem map_at {ns : List Int} {i : Nat} {n : Int} (h : ns[i]? = some n) : (ns.map V.int)[i]? = some (.int n) := by rw [List.getElem?_map, h]; rfl
theorem atI_of {α : Type} {xs : List α} {i : Int} {j : Nat} {v : α} (hi : i = (j : Int)) (h : xs[j]? = some v) : atI xs i = some v := by subst hi; exact atI_nat h
theorem take_more {α : Type} {l : List α} {i : Nat} {x : α} (h : l[i]? = some x) : l.take (i + 1) = l.take i ++ [x] := by
  rw [List.take_add_one, h]; rfl
theorem int_ne {i j : Int} (h : i ≠ j) : V.int i ≠ V.int j := fun e => h (V.int.inj e)
theorem ite2d {c : Prop} [Decidable c] {A B : Prop} (h1 : c → A) (h2 : ¬ c → B) : if decide c = true then A else B := by
  by_cases h : c
  · rw [if_pos (decide_eq_true h)]; exact h1 h
  · rw [if_neg (by simpa using h)]; exact h2 h
theorem ite2i {i j : Int} {A B : Prop} (h1 : i = j → A) (h2 : i ≠ j → B) : if decide (V.int i = V.int j) = true then A else B :=
  ite2d (fun e => h1 (V.int.inj e)) (fun e => h2 fun z => e (by rw [z]))
/-! ### for over a list of ints -/
theorem for_ints {K : PySem.W.Frag} {a : Addr} {ns : List Int} {g : TG} {tb : TS} {D : Ends} {σ : L2.St} {H : Hp} (Pv : Nat → L2.St → Hp → Prop) (h0 : Pv 0 σ H) (hl : ∀ i σ H, i ≤ ns.length → Pv i σ H → SqL K H a (ns.map V.int))
    (hs : ∀ i n σ H, ns[i]? = some n → Pv i σ H → g (.int n) σ H fun σ2 H2 => tb { D with nx := Pv (i + 1), ct := Pv (i + 1), bk := D.nx } σ2 H2) (hd : ∀ σ H, Pv ns.length σ H → D.nx σ H) :
    ∃ W : Nat → Nat → L2.St → Hp → Prop, (∃ m, W 0 m σ H) ∧ ∀ i m σ H, W i m σ H →
      ((Itl K a).stop i H ∧ D.nx σ H) ∨ ((Itl K a).go i H ∧ ∃ N : L2.St → Hp → Prop, (∀ σ' H', N σ' H' → ∃ m', m' < m ∧ W (i + 1) m' σ' H') ∧ ∀ x H', (Itl K a).yld i H x H' → g x σ H' fun σ2 H2 => tb { D with nx := N, ct := N, bk := D.nx } σ2 H2) := by
  refine for_list (xs := ns.map V.int) Pv h0 (fun i σ H hi p => hl i σ H (by rw [List.length_map] at hi; exact hi) p) (fun i x σ H hx p => ?_) (fun σ H p => hd σ H (by rw [List.length_map] at p; exact p))
  obtain ⟨n, hn, rfl⟩ := map_int_at hx
  exact hs i n σ H hn p
/-! ### math.comb -/
section
variable {X : Cx}
def rComb : List V → Hp → VK → Prop := fun vs H Q => ∃ a b : Int, vs = [.int a, .int b] ∧ 0 ≤ a ∧ 0 ≤ b ∧ a ≤ 18000 ∧ Q (.int (PySem.W.mcComb a b)) H
theorem cr_comb : CallR X (.builtin "math.comb") rComb := by
  intro pins s σ H vs us Q I r h
  obtain ⟨a, b, rfl, ha, hb, h1, q⟩ := h
  obtain ⟨t, u, rfl⟩ := Vals.int2 r
  exact PySem.W.mc_comb ha hb (by omega) (.inr h1) fun _ => ⟨.int _, H, I.tok _, ⟨_, rfl⟩, q⟩
end
/-! ### rules whose readings name the written part: told with K, so that a comprehension's block reads as its def -/
section
variable {X : Cx} {tg : Expr} (K : PySem.W.Frag)
theorem ix_listK (h : X.K = K := by rfl) : IxR X (rIxL K) := h ▸ ix_list
theorem ix_tupK (h : X.K = K := by rfl) : IxR X (rIxT K) := h ▸ ix_tup
theorem ix_seqK (h : X.K = K := by rfl) : IxR X (rIx K) := h ▸ ix_seq
theorem sl_listK (h : X.K = K := by rfl) : SlR X (rSlL K) := h ▸ sl_list
theorem sl_tupK (h : X.K = K := by rfl) : SlR X (rSlT K) := h ▸ sl_tup
theorem op_inK (h : X.K = K := by rfl) : OpR X (compareOp .In) (rIn K false) := h ▸ op_in_seq
theorem op_notInK (h : X.K = K := by rfl) : OpR X (compareOp .NotIn) (rIn K true) := h ▸ op_notIn_seq
theorem op_catAK (h : X.K = K := by rfl) : OpR X (binaryOp .Add) (rCatA K) := h ▸ op_catA
def rLenK : List V → Hp → VK → Prop := fun xs H Q => ∃ p ys, xs = [.ref p] ∧ (SqL K H p ys ∨ SqT K H p ys) ∧ Q (.int ys.length) H
def rListK : List V → Hp → VK → Prop := fun xs H Q => ∃ p ys, xs = [.ref p] ∧ (SqL K H p ys ∨ SqT K H p ys) ∧ ∀ l, H l = none → Q (.ref l) (upd H l (.lst ys))
def rTupK : List V → Hp → VK → Prop := fun xs H Q => ∃ p ys, xs = [.ref p] ∧ ((SqL K H p ys ∧ ∀ l, H l = none → Q (.ref l) (upd H l (.tup ys))) ∨ (SqT K H p ys ∧ Q (.ref p) H))
theorem call_lenK (h : X.K = K := by rfl) : CallR X (.builtin "len") (rLenK K) := h ▸ call_len_seq
theorem call_listK (h : X.K = K := by rfl) : CallR X (.type "list") (rListK K) := h ▸ call_list_of
theorem call_tupK (h : X.K = K := by rfl) : CallR X (.type "tuple") (rTupK K) := h ▸ call_tuple_of
theorem cr_sumK (hc : X.calm = true) (h : X.K = K := by rfl) : CallR X (.builtin "sum") (rSum K) := h ▸ cr_sum hc
theorem cr_maxK (hc : X.calm = true) (h : X.K = K := by rfl) : CallR X (.builtin "max") (rMax K) := h ▸ cr_max hc
theorem cr_minK' (hc : X.calm = true) (h : X.K = K := by rfl) : CallR X (.builtin "min") (rMin K) := h ▸ cr_min hc
theorem cr_anyK (hc : X.calm = true) (h : X.K = K := by rfl) : CallR X (.builtin "any") (rAny K) := h ▸ cr_any hc
theorem cr_allK (hc : X.calm = true) (h : X.K = K := by rfl) : CallR X (.builtin "all") (rAll K) := h ▸ cr_all hc
theorem cr_sortedK (h : X.K = K := by rfl) : CallR X (.builtin "sorted") (rSortedI K) := h ▸ cr_sortedI
theorem call_isiK' (h : X.K = K := by rfl) : CallR X (.builtin "isinstance") (rIsi K) := h ▸ call_isi
theorem call_isiTK (h : X.K = K := by rfl) : CallR X (.builtin "isinstance") (rIsiT K) := h ▸ call_isiT
theorem pi_listK {l : Expr} {tl : TE} (hl : PE X l tl) (h : X.K = K := by rfl) : PI X tg l (iList K tl) := h ▸ pi_list hl
theorem pi_tupK {l : Expr} {tl : TE} (hl : PE X l tl) (h : X.K = K := by rfl) : PI X tg l (iTup K tl) := h ▸ pi_tup hl
def tTruK (ta : TE) : TT := fun σ H Q => ta σ H fun x H' => ∃ k, TruV K x H' k ∧ Q k H'
theorem pt_truthK {a : Expr} {ta : TE} (ha : PE X a ta) (he : ∀ whole, isTrue a X.env whole = (do let v ← whole; standAt a.pos; holding [v] (truthy v))) (h : X.K = K := by rfl) : PT X a (tTruK K ta) := h ▸ pt_truth ha he
theorem pe_fldK {e : Expr} {ta : TE} {f : Str} {pos : Pos} (he : PE X e ta) (hb : attributeBase e f X.env (eval e X.env) = eval e X.env := by rfl) (h : X.K = K := by rfl) : PE X (.Attribute e f pos) (tFld K ta f) := h ▸ pe_fld he hb
theorem pi_enumK {e : Expr} {ta : TA} {p pos tpos : Pos} {elts : List Expr} {kk : Nat} (hg : Gl X "enumerate") (hm : X.mg "enumerate" = none) (ha : PA X [e] ta) (hs : starEach [e] X.env = [(false, eval e X.env)] := by rfl) (h : X.K = K := by rfl) :
    PI X (.Tuple elts kk tpos) (.Call (.Name "enumerate" p) [e] [] pos) (iEnum K ta) := h ▸ pi_enum hg hm ha hs
theorem pi_zipK {e e2 : Expr} {ta : TA} {p pos tpos : Pos} {elts : List Expr} {kk : Nat} (hg : Gl X "zip") (hm : X.mg "zip" = none) (ha : PA X [e, e2] ta) (hs : starEach [e, e2] X.env = (false, eval e X.env) :: starEach [e2] X.env := by rfl) (hpl : (backTo pos (starEach [e2] X.env)).any (·.1) = false := by rfl) (h : X.K = K := by rfl) :
    PI X (.Tuple elts kk tpos) (.Call (.Name "zip" p) [e, e2] [] pos) (RZ.iZipA K ta) := h ▸ RZ.pi_zipA hg hm ha hs hpl
theorem pi_revK {e : Expr} {te : TE} {p pos : Pos} (hg : Gl X "reversed") (hm : X.mg "reversed" = none) (he : PE X e te) (hs : starEach [e] X.env = (false, eval e X.env) :: starEach [] X.env := by rfl) (h : X.K = K := by rfl) : PI X tg (.Call (.Name "reversed" p) [e] [] pos) (RT.iRevA K te) := h ▸ RT.pi_revA hg hm he hs
theorem op_eqDK (hu : X.A.units + 64 < cLine) (h : X.K = K := by rfl) : OpR X (compareOp .Eq) (rEqD K) := h ▸ op_eqD hu
theorem op_neDK (hu : X.A.units + 64 < cLine) (h : X.K = K := by rfl) : OpR X (compareOp .NotEq) (rNeD K) := h ▸ op_neD hu
end
end G

/-! binomials: cho n k, the ball bal n b = sum of cho n i for i ≤ b; math.comb is cho -/
namespace G
def cho : Nat → Nat → Nat
  | _, 0 => 1
  | 0, _ + 1 => 0
  | n + 1, k + 1 => cho n k + cho n (k + 1)
theorem cho_zero (n : Nat) : cho n 0 = 1 := by cases n <;> rfl
theorem cho_gt : ∀ {n k : Nat}, n < k → cho n k = 0
  | 0, k + 1, _ => rfl
  | n + 1, k + 1, h => by
    show cho n k + cho n (k + 1) = 0
    rw [cho_gt (show n < k by omega), cho_gt (show n < k + 1 by omega)]
theorem cho_self : ∀ n : Nat, cho n n = 1
  | 0 => rfl
  | n + 1 => by
    show cho n n + cho n (n + 1) = 1
    rw [cho_self n, cho_gt (Nat.lt_succ_self n)]
/-- (k + 1) * C(n, k + 1) = (n - k) * C(n, k) -/
theorem cho_step : ∀ n k : Nat, k ≤ n → (k + 1) * cho n (k + 1) = (n - k) * cho n k
  | 0, 0, _ => rfl
  | n + 1, 0, _ => by
    have ih := cho_step n 0 (Nat.zero_le n)
    rw [cho_zero] at ih
    show (0 + 1) * (cho n 0 + cho n (0 + 1)) = (n + 1 - 0) * cho (n + 1) 0
    rw [cho_zero, cho_zero]
    omega
  | n + 1, k + 1, h => by
    show (k + 1 + 1) * (cho n (k + 1) + cho n (k + 1 + 1)) = (n + 1 - (k + 1)) * (cho n k + cho n (k + 1))
    have e : n + 1 - (k + 1) = n - k := by omega
    rw [e]
    have h1 := cho_step n k (by omega)
    by_cases hk : k + 1 ≤ n
    · have h2 := cho_step n (k + 1) hk
      have e2 : n - k = (n - (k + 1)) + 1 := by omega
      rw [Nat.mul_add, Nat.mul_add, h2, ← h1, ← Nat.add_mul, ← Nat.add_mul]
      congr 1
      omega
    · have e3 : n = k := by omega
      subst e3
      rw [cho_gt (show n < n + 1 by omega), cho_gt (show n < n + 1 + 1 by omega)]
      simp
/-- (n + 1) * C(n, k) = (n + 1 - k) * C(n + 1, k) -/
theorem cho_up (n k : Nat) (h : k ≤ n) : (n + 1) * cho n k = (n + 1 - k) * cho (n + 1) k := by
  cases k with
  | zero => rw [cho_zero, cho_zero]; rfl
  | succ k =>
    show (n + 1) * cho n (k + 1) = (n + 1 - (k + 1)) * (cho n k + cho n (k + 1))
    have h1 := cho_step n k (by omega)
    have e : n + 1 - (k + 1) = n - k := by omega
    rw [e, Nat.mul_add, ← h1, ← Nat.add_mul]
    congr 1
    omega
theorem cho_sym : ∀ a b : Nat, cho (a + b) a = cho (a + b) b
  | 0, b => by rw [cho_zero, Nat.zero_add, cho_self]
  | a + 1, 0 => by rw [Nat.add_zero, cho_self, cho_zero]
  | a + 1, b + 1 => by
    show cho (a + 1 + b) a + cho (a + 1 + b) (a + 1) = cho (a + 1 + b) b + cho (a + 1 + b) (b + 1)
    have h1 : cho (a + 1 + b) a = cho (a + 1 + b) (b + 1) := by
      have := cho_sym a (b + 1)
      rw [show a + (b + 1) = a + 1 + b by omega] at this
      exact this
    have h2 := cho_sym (a + 1) b
    rw [h1, h2]; omega
/-! balls -/
def bal (n : Nat) : Nat → Nat
  | 0 => 1
  | b + 1 => bal n b + cho n (b + 1)
theorem bal_up (n : Nat) : ∀ b : Nat, bal (n + 1) b + cho n b = 2 * bal n b
  | 0 => by rw [cho_zero]; rfl
  | b + 1 => by
    have ih := bal_up n b
    show (bal (n + 1) b + (cho n b + cho n (b + 1))) + cho n (b + 1) = 2 * (bal n b + cho n (b + 1))
    omega
theorem cho_le_bal (n : Nat) : ∀ b, cho n b ≤ bal n b
  | 0 => by rw [cho_zero]; exact Nat.le_refl 1
  | b + 1 => Nat.le_add_left _ _
theorem bal_mono1 {n m b : Nat} (h : n ≤ m) : bal n b ≤ bal m b := by
  induction m with
  | zero => rw [Nat.le_zero.mp h]; exact Nat.le_refl _
  | succ m ih =>
    by_cases e : n = m + 1
    · rw [e]; exact Nat.le_refl _
    · have := ih (by omega)
      have h1 := bal_up m b
      have h2 := cho_le_bal m b
      omega
theorem bal_mono2 {n b c : Nat} (h : b ≤ c) : bal n b ≤ bal n c := by
  induction c with
  | zero => rw [Nat.le_zero.mp h]; exact Nat.le_refl _
  | succ c ih =>
    by_cases e : b = c + 1
    · rw [e]; exact Nat.le_refl _
    · exact Nat.le_trans (ih (by omega)) (Nat.le_add_right _ _)
theorem bal_pos (n b : Nat) : 1 ≤ bal n b := Nat.le_trans (bal_mono2 (n := n) (Nat.zero_le b)) (Nat.le_refl _)
theorem bal_zero : ∀ b, bal 0 b = 1
  | 0 => rfl
  | b + 1 => by show bal 0 b + 0 = 1; rw [bal_zero b]
theorem bal_full : ∀ {n b : Nat}, n ≤ b → bal n b = 2 ^ n
  | 0, b, _ => bal_zero b
  | n + 1, b, h => by
    have h1 := bal_up n b
    rw [bal_full (show n ≤ b by omega), cho_gt (show n < b by omega)] at h1
    rw [Nat.pow_succ]; omega
theorem bal_over {n b : Nat} (h : n ≤ b) : bal n b = bal n n := by rw [bal_full h, bal_full (Nat.le_refl n)]
end G
namespace G
/-- the sum of the cho n j for j < i -/
def bals (n : Nat) : Nat → Nat
  | 0 => 0
  | i + 1 => bal n i
theorem bals_succ (n : Nat) : ∀ i, bals n (i + 1) = bals n i + cho n i
  | 0 => by show 1 = 0 + cho n 0; rw [cho_zero]
  | _ + 1 => rfl
theorem cho_div {n i : Nat} (h : i ≤ n) : ((cho n i : Nat) : Int) * ((n : Int) - (i : Int)) / ((i : Int) + 1) = ((cho n (i + 1) : Nat) : Int) := by
  have h1 := cho_step n i h
  have e : ((n : Int) - (i : Int)) = ((n - i : Nat) : Int) := by omega
  have e2 : ((i : Int) + 1) = ((i + 1 : Nat) : Int) := by omega
  rw [e, e2, ← Int.natCast_mul, Nat.mul_comm, ← h1, ← Int.natCast_ediv, Nat.mul_div_cancel_left _ (Nat.succ_pos i)]
theorem cho_divUp {n k : Nat} (h : k ≤ n) : ((cho n k : Nat) : Int) * ((n : Int) + 1) / ((n : Int) + 1 - (k : Int)) = ((cho (n + 1) k : Nat) : Int) := by
  have h1 := cho_up n k h
  have e : ((n : Int) + 1) = ((n + 1 : Nat) : Int) := by omega
  have e2 : (((n + 1 : Nat) : Int) - (k : Int)) = ((n + 1 - k : Nat) : Int) := by omega
  rw [e, e2, ← Int.natCast_mul, Nat.mul_comm, h1, ← Int.natCast_ediv, Nat.mul_div_cancel_left _ (by omega)]
theorem bal_min (n b : Nat) : bal n (min n b) = bal n b := by
  by_cases h : n ≤ b
  · rw [Nat.min_eq_left h, bal_over h]
  · rw [Nat.min_eq_right (by omega)]
end G

/-! math.comb is cho -/
namespace G
open PySem
def fac : Nat → Nat
  | 0 => 1
  | n + 1 => (n + 1) * fac n
theorem fac_pos : ∀ n, 0 < fac n
  | 0 => Nat.one_pos
  | n + 1 => Nat.mul_pos (Nat.succ_pos n) (fac_pos n)
theorem fp_succ (n : Int) (k : Nat) : Builtin.Math.fallingProduct n (k + 1) = Builtin.Math.fallingProduct n k * (n - k) := by
  unfold Builtin.Math.fallingProduct
  rw [List.range_succ, List.foldl_append]; rfl
theorem fp_cho (n : Nat) : ∀ k : Nat, k ≤ n → Builtin.Math.fallingProduct (n : Int) k = ((fac k * cho n k : Nat) : Int)
  | 0, _ => by rw [cho_zero]; rfl
  | k + 1, h => by
    rw [fp_succ, fp_cho n k (by omega)]
    have h1 := cho_step n k (by omega)
    have e : ((n : Int) - (k : Int)) = ((n - k : Nat) : Int) := by omega
    rw [e, ← Int.natCast_mul]
    congr 1
    show fac k * cho n k * (n - k) = (k + 1) * fac k * cho n (k + 1)
    rw [Nat.mul_assoc, Nat.mul_comm (cho n k), ← h1, ← Nat.mul_assoc, Nat.mul_comm (fac k)]
theorem mcComb_cho (n k : Nat) : PySem.W.mcComb (n : Int) (k : Int) = ((cho n k : Nat) : Int) := by
  by_cases h : n < k
  · rw [PySem.W.mcComb_above (by omega), cho_gt h]; rfl
  · have hk : k ≤ n := by omega
    have key : ∀ m : Nat, m ≤ n → cho n m = cho n k → (Builtin.Math.fallingProduct (n : Int) m / Builtin.Math.fallingProduct (m : Int) m) = ((cho n k : Nat) : Int) := by
      intro m hm e
      rw [fp_cho n m hm, fp_cho m m (Nat.le_refl m), cho_self, Nat.mul_one, ← Int.natCast_ediv, Nat.mul_div_cancel_left _ (fac_pos m), e]
    by_cases c : k ≤ n - k
    · have hm : min (k : Int) ((n : Int) - (k : Int)) = (k : Int) := by omega
      rw [PySem.W.mcComb_at (a := (n : Int)) (b := (k : Int)) (m := (k : Int)) (by omega) (by omega) hm]
      rw [Int.toNat_natCast]
      exact key k hk rfl
    · have hm : min (k : Int) ((n : Int) - (k : Int)) = ((n - k : Nat) : Int) := by omega
      rw [PySem.W.mcComb_at (a := (n : Int)) (b := (k : Int)) (m := ((n - k : Nat) : Int)) (by omega) (by omega) hm]
      rw [Int.toNat_natCast]
      refine key (n - k) (by omega) ?_
      have := cho_sym (n - k) k
      rw [show n - k + k = n by omega] at this
      exact this
end G

/-! plain data: what a value stands for, at any depth -/
namespace G
open PySem PySem.Spec PyProof.Rows L2
inductive Dt where
  | non | bl (b : Bool) | int (i : Int) | str (s : Str) | lst (l : List Dt) | tup (l : List Dt)
def LsAt (H : Hp) (a : Addr) (xs : List V) : Prop := H a = some (.lst xs) ∨ ∃ o, H a = some (.frz o (.lst xs))
mutual
def Is (H : Hp) : V → Dt → Prop
  | v, .non => v = .non
  | v, .bl b => v = .bl b
  | v, .int i => v = .int i
  | v, .str s => v = .str s
  | v, .lst l => ∃ a xs, v = .ref a ∧ LsAt H a xs ∧ IsL H xs l
  | v, .tup l => ∃ a xs, v = .ref a ∧ H a = some (.tup xs) ∧ IsL H xs l
def IsL (H : Hp) : List V → List Dt → Prop
  | [], [] => True
  | x :: xs, d :: ds => Is H x d ∧ IsL H xs ds
  | [], _ :: _ => False
  | _ :: _, [] => False
end
mutual
def Dt.size : Dt → Nat
  | .non => 1
  | .bl _ => 1
  | .int _ => 1
  | .str _ => 1
  | .lst l => 1 + sizeL l
  | .tup l => 1 + sizeL l
def sizeL : List Dt → Nat
  | [] => 0
  | d :: ds => d.size + sizeL ds
end
theorem LsAt.mono {H H' : Hp} {a : Addr} {xs : List V} (s : Same H H') (h : LsAt H a xs) : LsAt H' a xs := h.imp (s _ _) fun ⟨o, e⟩ => ⟨o, s _ _ e⟩
theorem LsAt.sq {K : PySem.W.Frag} {H : Hp} {a : Addr} {xs : List V} (h : LsAt H a xs) : SqL K H a xs := .inl h
mutual
theorem Is.mono {H H' : Hp} (s : Same H H') : ∀ {v : V} {d : Dt}, Is H v d → Is H' v d
  | v, .non, h => by unfold Is at h ⊢; exact h
  | v, .bl b, h => by unfold Is at h ⊢; exact h
  | v, .int i, h => by unfold Is at h ⊢; exact h
  | v, .str x, h => by unfold Is at h ⊢; exact h
  | v, .lst l, h => by
    unfold Is at h ⊢
    obtain ⟨a, xs, e, h1, h2⟩ := h
    exact ⟨a, xs, e, h1.mono s, IsL.mono s h2⟩
  | v, .tup l, h => by
    unfold Is at h ⊢
    obtain ⟨a, xs, e, h1, h2⟩ := h
    exact ⟨a, xs, e, s _ _ h1, IsL.mono s h2⟩
theorem IsL.mono {H H' : Hp} (s : Same H H') : ∀ {xs : List V} {ds : List Dt}, IsL H xs ds → IsL H' xs ds
  | [], [], h => by unfold IsL; trivial
  | x :: xs, d :: ds, h => by
    unfold IsL at h ⊢
    exact ⟨Is.mono s h.1, IsL.mono s h.2⟩
  | [], _ :: _, h => by unfold IsL at h; exact h.elim
  | _ :: _, [], h => by unfold IsL at h; exact h.elim
end
theorem IsL.length {H : Hp} : ∀ {xs : List V} {ds : List Dt}, IsL H xs ds → xs.length = ds.length
  | [], [], _ => rfl
  | x :: xs, d :: ds, h => by
    unfold IsL at h
    rw [List.length_cons, List.length_cons, IsL.length h.2]
  | [], _ :: _, h => by unfold IsL at h; exact h.elim
  | _ :: _, [], h => by unfold IsL at h; exact h.elim
theorem IsL.get {H : Hp} : ∀ {xs : List V} {ds : List Dt} {i : Nat} {d : Dt}, IsL H xs ds → ds[i]? = some d → ∃ x, xs[i]? = some x ∧ Is H x d
  | x :: xs, d :: ds, 0, _, h, e => by
    unfold IsL at h
    cases e
    exact ⟨x, rfl, h.1⟩
  | x :: xs, d :: ds, i + 1, _, h, e => by
    unfold IsL at h
    exact IsL.get (i := i) h.2 (by simpa using e)
  | [], [], i, _, _, e => by simp at e
  | [], _ :: _, _, _, h, _ => by unfold IsL at h; exact h.elim
  | _ :: _, [], _, _, h, _ => by unfold IsL at h; exact h.elim
theorem isL_ints {H : Hp} : ∀ ns : List Int, IsL H (ns.map V.int) (ns.map Dt.int)
  | [] => by unfold IsL; trivial
  | n :: ns => by
    show IsL H (V.int n :: ns.map V.int) (Dt.int n :: ns.map Dt.int)
    unfold IsL
    exact ⟨by unfold Is; rfl, isL_ints ns⟩
theorem isL_map {α : Type} {H : Hp} {f : α → V} {g : α → Dt} (h : ∀ x, Is H (f x) (g x)) : ∀ l : List α, IsL H (l.map f) (l.map g)
  | [] => by unfold IsL; trivial
  | n :: ns => by
    show IsL H (f n :: ns.map f) (g n :: ns.map g)
    unfold IsL
    exact ⟨h n, isL_map h ns⟩
theorem is_ints {H : Hp} {a : Addr} {ns : List Int} (h : H a = some (.lst (ns.map V.int))) : Is H (.ref a) (.lst (ns.map Dt.int)) := by
  unfold Is; exact ⟨a, _, rfl, .inl h, isL_ints ns⟩
theorem is_int {H : Hp} (i : Int) : Is H (.int i) (.int i) := by unfold Is; rfl
theorem is_str {H : Hp} (s : Str) : Is H (.str s) (.str s) := by unfold Is; rfl
theorem is_bl {H : Hp} (b : Bool) : Is H (.bl b) (.bl b) := by unfold Is; rfl
theorem is_non {H : Hp} : Is H .non .non := by unfold Is; rfl
theorem sizeL_ints : ∀ ns : List Int, sizeL (ns.map Dt.int) = ns.length
  | [] => by simp [sizeL]
  | n :: ns => by
    show sizeL (Dt.int n :: ns.map Dt.int) = ns.length + 1
    unfold sizeL Dt.size
    rw [sizeL_ints ns]; omega
/-! ### the type of such a value -/
def Dt.ty : Dt → String
  | .non => "NoneType"
  | .bl _ => "bool"
  | .int _ => "int"
  | .str _ => "str"
  | .lst _ => "list"
  | .tup _ => "tuple"
theorem Is.ty {K : PySem.W.Frag} {H : Hp} {v : V} {d : Dt} (h : Is H v d) : TyX K H v (.type d.ty) := by
  cases d with
  | non => unfold Is at h; subst h; exact .base .non
  | bl b => unfold Is at h; subst h; exact .base (.bl b)
  | int i => unfold Is at h; subst h; exact .base (.int i)
  | str s => unfold Is at h; subst h; exact .base (.str s)
  | lst l =>
    unfold Is at h
    obtain ⟨a, xs, rfl, h1, _⟩ := h
    rcases h1 with h1 | ⟨o, h1⟩
    · exact .base (.lst h1)
    · exact .base (.frz h1)
  | tup l =>
    unfold Is at h
    obtain ⟨a, xs, rfl, h1, _⟩ := h
    exact .base (.tup h1)
def kb (a b : String) : Bool := (kitB a b).getD false
theorem kit_dt {K : PySem.W.Frag} (d : Dt) (b : String) (hb : b = "list" ∨ b = "tuple" ∨ b = "int" ∨ b = "bool" ∨ b = "str") : PySem.W.kitOne K (.type d.ty) (.type b) = some (kb d.ty b) := by
  refine kit_ty ?_
  rcases hb with rfl | rfl | rfl | rfl | rfl <;> cases d <;> simp only [Dt.ty] <;> decide +kernel
theorem any2 {K : PySem.W.Frag} {t c1 c2 : Value} {b1 b2 : Bool} (h1 : PySem.W.kitOne K t c1 = some b1) (h2 : PySem.W.kitOne K t c2 = some b2) : PySem.W.kitAny K t [c1, c2] = some (b1 || b2) := by
  unfold PySem.W.kitAny
  rw [h1]
  cases b1 with
  | true => rfl
  | false =>
    dsimp only
    unfold PySem.W.kitAny
    rw [h2]
    cases b2 <;> first | rfl | (dsimp only; unfold PySem.W.kitAny; rfl)
def isSeq (s : String) : Bool := s == "list" || s == "tuple"
section
variable {K : PySem.W.Frag} {σ : L2.St} {H : Hp} {i : Nat} {v : V} {d : Dt} {Q : VK}
/-- isinstance(x, (list, tuple)) -/
theorem isi_seq (hv : σ[i]? = some (some v)) (h : Is H v d) (q : ∀ H', Same H H' → Q (.bl (isSeq d.ty)) H') :
    tCB (rIsiT K) (tCons (tVar i) (tCons (tTup (tCons (tC (.ty "list")) (tCons (tC (.ty "tuple")) tNil))) tNil)) σ H Q := by
  refine ⟨_, hv, by decide, fun p np => ?_⟩
  have s := same_new (o := .tup [V.ty "list", V.ty "tuple"]) np
  refine ⟨v, p, [.ty "list", .ty "tuple"], .type d.ty, [.type "list", .type "tuple"], isSeq d.ty, rfl, upd_same, .cons (.ty "list") (.cons (.ty "tuple") .nil), (h.mono s).ty, ?_, q _ s⟩
  have e : isSeq d.ty = (kb d.ty "list" || kb d.ty "tuple") := by cases d <;> simp only [Dt.ty] <;> decide +kernel
  rw [e]
  exact any2 (kit_dt d "list" (by simp)) (kit_dt d "tuple" (by simp))
/-- isinstance(x, T) -/
theorem isi_one {T : String} (hT : T = "list" ∨ T = "tuple" ∨ T = "int" ∨ T = "bool" ∨ T = "str") (hv : σ[i]? = some (some v)) (h : Is H v d) (q : Q (.bl (kb d.ty T)) H) :
    tCB (rIsi K) (tCons (tVar i) (tCons (tC (.ty T)) tNil)) σ H Q :=
  ⟨_, hv, v, .ty T, .type d.ty, .type T, kb d.ty T, rfl, .ty T, h.ty, kit_dt d T hT, q⟩
end
end G

/-! sets of wires as natural numbers: rules of the bit operators, the number of bits, lists of bits -/
namespace G
open PySem PySem.Spec PyProof.Rows L2
section
variable {X : Cx}
theorem OpR.weak {f : Value → Value → Sem Value} {r r' : R2} (h : OpR X f r) (w : ∀ x y H Q, r' x y H Q → r x y H Q) : OpR X f r' := fun pins s σ H x y u v Q I rx ry q => h pins s σ H x y u v Q I rx ry (w x y H Q q)
def rN (g : Nat → Nat → Nat) : R2 := fun x y H Q => ∃ n m : Nat, x = .int (n : Int) ∧ y = .int (m : Int) ∧ Q (.int ((g n m : Nat) : Int)) H
def rNC (C : Nat → Nat → Prop) (g : Nat → Nat → Nat) : R2 := fun x y H Q => ∃ n m : Nat, x = .int (n : Int) ∧ y = .int (m : Int) ∧ C n m ∧ Q (.int ((g n m : Nat) : Int)) H
theorem op_andN : OpR X (binaryOp .BitAnd) (rN fun n m => n &&& m) := OpR.weak op_and fun x y H Q ⟨n, m, hx, hy, q⟩ => ⟨n, m, hx, hy, by dsimp only; rw [PyProof.Rows.bitAnd_pp (by omega) (by omega), Int.toNat_natCast, Int.toNat_natCast]; exact q⟩
theorem op_orN : OpR X (binaryOp .BitOr) (rN fun n m => n ||| m) := OpR.weak op_or fun x y H Q ⟨n, m, hx, hy, q⟩ => ⟨n, m, hx, hy, by dsimp only; rw [_root_.Bits.bitOr_pp (by omega) (by omega), Int.toNat_natCast, Int.toNat_natCast]; exact q⟩
theorem op_xorN : OpR X (binaryOp .BitXor) (rN fun n m => n ^^^ m) := OpR.weak op_xor fun x y H Q ⟨n, m, hx, hy, q⟩ => ⟨n, m, hx, hy, by dsimp only; rw [_root_.Bits.bitXor_pp (by omega) (by omega), Int.toNat_natCast, Int.toNat_natCast]; exact q⟩
theorem shr_int (n k : Nat) : ((n : Int) / 2 ^ k) = ((n >>> k : Nat) : Int) := by rw [Nat.shiftRight_eq_div_pow, Int.natCast_ediv]; simp
theorem shl_int (n k : Nat) : ((n : Int) * 2 ^ k) = ((n <<< k : Nat) : Int) := by rw [Nat.shiftLeft_eq, Int.natCast_mul]; simp
theorem op_shrM : OpR X (binaryOp .RShift) (rN fun n k => n >>> k) := OpR.weak op_shr fun x y H Q ⟨n, m, hx, hy, q⟩ => ⟨n, m, hx, hy, by omega, by dsimp only; rw [Int.toNat_natCast, shr_int]; exact q⟩
theorem op_shlM : OpR X (binaryOp .LShift) (rNC (fun n k => k ≤ 1000000 ∧ n < 2 ^ 64) fun n k => n <<< k) := OpR.weak op_shl fun x y H Q ⟨n, m, hx, hy, ⟨h1, h2⟩, q⟩ => ⟨n, m, hx, hy, ⟨by omega, by omega, by simpa using h2⟩, by dsimp only; rw [Int.toNat_natCast, shl_int]; exact q⟩
end
/-- the truth of mask >> wire & 1 -/
theorem bit_true (m w : Nat) : ((((m >>> w &&& 1 : Nat)) : Int) != 0) = m.testBit w := by
  unfold Nat.testBit
  rw [Nat.and_comm]
  rcases (by have := Nat.and_le_left (n := 1) (m := m >>> w); omega : (1 &&& m >>> w) = 0 ∨ (1 &&& m >>> w) = 1) with h | h <;> rw [h] <;> decide
theorem bit_val (m w : Nat) : (m >>> w &&& 1) = if m.testBit w then 1 else 0 := by
  unfold Nat.testBit
  rw [Nat.and_comm]
  rcases (by have := Nat.and_le_left (n := 1) (m := m >>> w); omega : (1 &&& m >>> w) = 0 ∨ (1 &&& m >>> w) = 1) with h | h <;> rw [h] <;> decide
theorem bit_one (m i : Nat) : decide (V.int ((m >>> i &&& 1 : Nat) : Int) = V.int 1) = m.testBit i := by
  rw [bit_val]
  cases m.testBit i <;> decide
/-- the number of bits -/
def popc (m : Nat) : Nat := if h : m = 0 then 0 else m % 2 + popc (m / 2)
termination_by m
decreasing_by omega
theorem popc_zero : popc 0 = 0 := by rw [popc]; rfl
theorem popc_double (q : Nat) : popc (2 * q) = popc q := by
  rw [popc]
  split
  · rw [show q = 0 by omega, popc_zero]
  · rw [show 2 * q % 2 = 0 by omega, show 2 * q / 2 = q by omega, Nat.zero_add]
theorem popc_bit (q : Nat) : popc (2 * q + 1) = popc q + 1 := by
  rw [popc, dif_neg (by omega), show (2 * q + 1) % 2 = 1 by omega, show (2 * q + 1) / 2 = q by omega, Nat.add_comm]
theorem popc_low : ∀ m : Nat, m ≠ 0 → popc (m &&& (m - 1)) + 1 = popc m := by
  intro m
  induction m using Nat.strongRecOn with
  | _ m ih =>
    intro h
    obtain ⟨q, e | e⟩ : ∃ q, m = 2 * q ∨ m = 2 * q + 1 := ⟨m / 2, by omega⟩
    · have hq : q ≠ 0 := by omega
      have e2 : m &&& (m - 1) = 2 * (q &&& (q - 1)) := by
        apply Nat.eq_of_testBit_eq
        intro i
        cases i with
        | zero => rw [Nat.testBit_and, Nat.testBit_zero, Nat.testBit_zero, Nat.testBit_zero]; simp; omega
        | succ i => rw [Nat.testBit_and, Nat.testBit_succ, Nat.testBit_succ, Nat.testBit_succ, show m / 2 = q by omega, show (m - 1) / 2 = q - 1 by omega, show 2 * (q &&& (q - 1)) / 2 = q &&& (q - 1) by omega, Nat.testBit_and]
      rw [e2, popc_double, ih q (by omega) hq, e, popc_double]
    · have e2 : m &&& (m - 1) = 2 * q := by
        apply Nat.eq_of_testBit_eq
        intro i
        cases i with
        | zero => rw [Nat.testBit_and, Nat.testBit_zero, Nat.testBit_zero, Nat.testBit_zero]; simp; omega
        | succ i => rw [Nat.testBit_and, Nat.testBit_succ, Nat.testBit_succ, Nat.testBit_succ, show m / 2 = q by omega, show (m - 1) / 2 = q by omega, show 2 * q / 2 = q by omega]; simp
      rw [e2, popc_double, e, popc_bit]
/-- the bits below n, ascending -/
def bitsL (n m : Nat) : List Nat := (List.range n).filter fun i => m.testBit i
theorem bitsL_len : ∀ (n m : Nat), m < 2 ^ n → (bitsL n m).length = popc m
  | 0, m, h => by
    have : m = 0 := by simpa using h
    subst this; rw [popc_zero]; rfl
  | n + 1, m, h => by
    unfold bitsL
    have ih := bitsL_len n (m / 2) (by rw [Nat.pow_succ] at h; omega)
    unfold bitsL at ih
    rw [List.range_succ_eq_map, List.filter_cons, List.filter_map]
    have e : ((fun i => m.testBit i) ∘ Nat.succ) = fun i => (m / 2).testBit i := by funext i; show m.testBit (i + 1) = _; rw [Nat.testBit_succ]
    rw [e]
    split
    · rename_i h0
      rw [List.length_cons, List.length_map, ih]
      have h1 : m % 2 = 1 := by simpa [Nat.testBit_zero] using h0
      have h2 := popc_bit (m / 2)
      rw [show 2 * (m / 2) + 1 = m by omega] at h2
      omega
    · rename_i h0
      rw [List.length_map, ih]
      have h1 : m % 2 = 0 := by
        have : ¬ m % 2 = 1 := by simpa [Nat.testBit_zero] using h0
        omega
      have h2 := popc_double (m / 2)
      rw [show 2 * (m / 2) = m by omega] at h2
      omega
end G
namespace G
open PySem PySem.Spec PyProof.Rows L2
theorem bitsL_yes {i m : Nat} (h : m.testBit i = true) : bitsL (i + 1) m = bitsL i m ++ [i] := by
  unfold bitsL
  rw [List.range_succ, List.filter_append]
  simp [h]
theorem bitsL_no {i m : Nat} (h : m.testBit i = false) : bitsL (i + 1) m = bitsL i m := by
  unfold bitsL
  rw [List.range_succ, List.filter_append]
  simp [h]
theorem bitsL_len_le (n m : Nat) : (bitsL n m).length ≤ n := by
  unfold bitsL
  exact Nat.le_trans (List.length_filter_le _ _) (by rw [List.length_range]; exact Nat.le_refl n)
theorem bitsL_grow {n m : Nat} (h : m < 2 ^ n) : ∀ j, bitsL (n + j) m = bitsL n m
  | 0 => rfl
  | j + 1 => by
    rw [← Nat.add_assoc, bitsL_no, bitsL_grow h j]
    exact Nat.testBit_lt_two_pow (Nat.lt_of_lt_of_le h (Nat.pow_le_pow_right (by decide) (by omega)))
theorem mem_bitsL {n m i : Nat} : i ∈ bitsL n m ↔ i < n ∧ m.testBit i = true := by unfold bitsL; rw [List.mem_filter, List.mem_range]
/-- bit_length -/
def bl (m : Nat) : Nat := Builtin.Int.intBits (m : Int)
theorem lt_bl (m : Nat) : m < 2 ^ bl m := by
  unfold bl Builtin.Int.intBits
  simp only [Int.natAbs_natCast]
  split
  · rename_i h; simp at h; subst h; decide
  · exact Nat.lt_log2_self
theorem bl_le {m n : Nat} (h : m < 2 ^ n) : bl m ≤ n := by unfold bl; exact intBits_le (by rw [Int.natAbs_natCast]; exact h)
/-- the wires of a set, ascending -/
def wl (m : Nat) : List Nat := bitsL (bl m) m
theorem wl_of {m n : Nat} (h : m < 2 ^ n) : bitsL n m = wl m := by
  have h1 := bl_le h
  obtain ⟨j, rfl⟩ : ∃ j, n = bl m + j := ⟨n - bl m, by omega⟩
  exact bitsL_grow (lt_bl m) j
theorem wl_len (m : Nat) : (wl m).length = popc m := bitsL_len _ _ (lt_bl m)
theorem mem_wl {m i : Nat} : i ∈ wl m ↔ m.testBit i = true := by
  unfold wl
  rw [mem_bitsL]
  refine ⟨fun h => h.2, fun h => ⟨?_, h⟩⟩
  by_cases c : i < bl m
  · exact c
  · rw [Nat.testBit_lt_two_pow (Nat.lt_of_lt_of_le (lt_bl m) (Nat.pow_le_pow_right (by decide) (by omega)))] at h
    cases h
/-- ints of naturals -/
def nv (l : List Nat) : List V := l.map fun n : Nat => V.int n
def nz (l : List Nat) : List Int := l.map fun n : Nat => (n : Int)
theorem nv_nz (l : List Nat) : nv l = (nz l).map V.int := by unfold nv nz; rw [List.map_map]; rfl
theorem nv_len (l : List Nat) : (nv l).length = l.length := List.length_map _
theorem nv_get {l : List Nat} {i n : Nat} (h : l[i]? = some n) : (nv l)[i]? = some (.int n) := by unfold nv; rw [List.getElem?_map, h]; rfl
theorem nv_at {l : List Nat} {i : Nat} {x : V} (h : (nv l)[i]? = some x) : ∃ n, l[i]? = some n ∧ x = .int n := by
  unfold nv at h
  rw [List.getElem?_map] at h
  cases e : l[i]? with
  | none => rw [e] at h; cases h
  | some z => rw [e] at h; exact ⟨z, rfl, (Option.some.inj h).symm⟩
theorem nv_app (a b : List Nat) : nv (a ++ b) = nv a ++ nv b := List.map_append
def nd (l : List Nat) : List Dt := l.map fun n : Nat => Dt.int n
theorem nd_nz (l : List Nat) : nd l = (nz l).map Dt.int := by unfold nd nz; rw [List.map_map]; rfl
theorem is_nv {H : Hp} {a : Addr} {l : List Nat} (h : H a = some (.lst (nv l))) : Is H (.ref a) (.lst (nd l)) := by
  rw [nv_nz] at h
  rw [nd_nz]
  exact is_ints h
theorem size_nd (l : List Nat) : (Dt.lst (nd l)).size = 1 + l.length := by
  rw [nd_nz]
  unfold Dt.size
  rw [sizeL_ints]
  simp [nz]
/-- the set of the listed wires -/
def maskL (l : List Nat) : Nat := l.foldl (fun m w => m ||| 1 <<< w) 0
theorem maskL_snoc (l : List Nat) (w : Nat) : maskL (l ++ [w]) = maskL l ||| 1 <<< w := by unfold maskL; rw [List.foldl_append]; rfl
end G

/-! sets of wires: lists of bits and back, numbers of bits, gathered and scattered bits -/
namespace G
theorem tb_shl (w j : Nat) : (1 <<< w).testBit j = decide (w = j) := by
  rw [Nat.one_shiftLeft, Nat.testBit_two_pow]
theorem lt_shl {w b : Nat} (h : w < b) : 1 <<< w < 2 ^ b := by
  rw [Nat.one_shiftLeft]; exact Nat.pow_lt_pow_right (by decide) h
theorem add_or {b i : Nat} (h : b < 2 ^ i) : b + 1 <<< i = b ||| 1 <<< i := by
  rw [Nat.one_shiftLeft, Nat.add_comm, Nat.or_comm]
  have := Nat.two_pow_add_eq_or_of_lt h 1
  rw [Nat.mul_one] at this
  exact this
theorem foldl_tb (l : List Nat) : ∀ (m j : Nat), (l.foldl (fun m w => m ||| 1 <<< w) m).testBit j = (m.testBit j || decide (j ∈ l)) := by
  induction l with
  | nil => intro m j; simp
  | cons w l ih =>
    intro m j
    rw [List.foldl_cons, ih, Nat.testBit_or, tb_shl]
    by_cases h : w = j
    · subst h; simp
    · have h2 : ¬ j = w := fun z => h z.symm
      simp [h, h2, List.mem_cons]
theorem tb_maskL (l : List Nat) (j : Nat) : (maskL l).testBit j = decide (j ∈ l) := by
  unfold maskL; rw [foldl_tb]; simp
theorem tb_maskL_iff {l : List Nat} {j : Nat} : (maskL l).testBit j = true ↔ j ∈ l := by rw [tb_maskL]; simp
theorem maskL_lt {l : List Nat} {b : Nat} (h : ∀ w ∈ l, w < b) : maskL l < 2 ^ b := by
  refine Nat.lt_pow_two_of_testBit _ fun i hi => ?_
  rw [tb_maskL]
  refine decide_eq_false fun hm => ?_
  have := h i hm
  omega
/-! ### ascending lists -/
def Asc (l : List Nat) : Prop := l.Pairwise (· < ·)
theorem asc_bitsL (n m : Nat) : Asc (bitsL n m) := by
  unfold Asc bitsL
  exact List.Pairwise.filter _ (List.pairwise_lt_range)
theorem asc_wl (m : Nat) : Asc (wl m) := asc_bitsL _ _
theorem asc_ext : ∀ {a b : List Nat}, Asc a → Asc b → (∀ x, x ∈ a ↔ x ∈ b) → a = b
  | [], [], _, _, _ => rfl
  | [], y :: b, _, _, h => by have := (h y).mpr (by simp); simp at this
  | x :: a, [], _, _, h => by have := (h x).mp (by simp); simp at this
  | x :: a, y :: b, ha, hb, h => by
    unfold Asc at ha hb
    rw [List.pairwise_cons] at ha hb
    have e : x = y := by
      have h1 := (h x).mp (by simp)
      have h2 := (h y).mpr (by simp)
      rw [List.mem_cons] at h1 h2
      rcases h1 with h1 | h1
      · exact h1
      · rcases h2 with h2 | h2
        · exact h2.symm
        · have := ha.1 y h2
          have := hb.1 x h1
          omega
    subst e
    rw [asc_ext ha.2 hb.2]
    intro z
    have hz := h z
    rw [List.mem_cons, List.mem_cons] at hz
    constructor
    · intro m
      rcases hz.mp (.inr m) with e | e
      · subst e; have := ha.1 z m; omega
      · exact e
    · intro m
      rcases hz.mpr (.inr m) with e | e
      · subst e; have := hb.1 z m; omega
      · exact e
theorem wl_maskL {l : List Nat} (h : Asc l) : wl (maskL l) = l := asc_ext (asc_wl _) h fun x => by rw [mem_wl, tb_maskL_iff]
theorem maskL_wl (m : Nat) : maskL (wl m) = m := by
  apply Nat.eq_of_testBit_eq
  intro i
  rw [tb_maskL]
  have := @mem_wl m i
  cases h : m.testBit i
  · exact decide_eq_false fun z => by rw [mem_wl, h] at z; cases z
  · exact decide_eq_true (mem_wl.mpr h)
theorem asc_at {l : List Nat} (h : Asc l) {i j x y : Nat} (hi : l[i]? = some x) (hj : l[j]? = some y) (hij : i < j) : x < y := by
  obtain ⟨h1, rfl⟩ := List.getElem?_eq_some_iff.mp hi
  obtain ⟨h2, rfl⟩ := List.getElem?_eq_some_iff.mp hj
  exact List.pairwise_iff_getElem.mp h i j h1 h2 hij
theorem asc_take {l : List Nat} (h : Asc l) {i x : Nat} (hi : l[i]? = some x) : ∀ w ∈ l.take i, w < x := by
  intro w hw
  obtain ⟨j, hj⟩ := List.getElem?_of_mem hw
  rw [List.getElem?_take] at hj
  split at hj
  · rename_i c; exact asc_at h hj hi c
  · cases hj
theorem asc_inj {l : List Nat} (h : Asc l) {i j x : Nat} (hi : l[i]? = some x) (hj : l[j]? = some x) : i = j := by
  by_cases c : i = j
  · exact c
  · rcases Nat.lt_or_gt_of_ne c with c | c
    · have := asc_at h hi hj c; omega
    · have := asc_at h hj hi c; omega
theorem asc_snoc {l : List Nat} {p : Nat} (h : Asc l) (hp : ∀ w ∈ l, w < p) : Asc (l ++ [p]) := by
  unfold Asc
  rw [List.pairwise_append]
  refine ⟨h, by simp, fun a ha b hb => ?_⟩
  rw [List.mem_singleton] at hb; subst hb
  exact hp a ha
/-! ### gathered and scattered bits -/
def gatF (m : Nat) (l : List Nat) : Nat := (l.zipIdx).foldl (fun f q => if m.testBit q.1 then f ||| 1 <<< q.2 else f) 0
theorem gatF_snoc (m : Nat) (l : List Nat) (p : Nat) : gatF m (l ++ [p]) = if m.testBit p then gatF m l ||| 1 <<< l.length else gatF m l := by
  unfold gatF
  rw [List.zipIdx_append, List.foldl_append]
  simp
def scaF (m : Nat) (l : List Nat) : Nat := (l.zipIdx).foldl (fun f q => if m.testBit q.2 then f ||| 1 <<< q.1 else f) 0
theorem scaF_snoc (m : Nat) (l : List Nat) (p : Nat) : scaF m (l ++ [p]) = if m.testBit l.length then scaF m l ||| 1 <<< p else scaF m l := by
  unfold scaF
  rw [List.zipIdx_append, List.foldl_append]
  simp
theorem snocInd {P : List Nat → Prop} (h0 : P []) (h1 : ∀ l p, P l → P (l ++ [p])) : ∀ l, P l := by
  have : ∀ n, ∀ l : List Nat, l.length = n → P l := by
    intro n
    induction n with
    | zero => intro l hl; rw [List.length_eq_zero_iff.mp hl]; exact h0
    | succ n ih =>
      intro l hl
      have hne : l ≠ [] := fun z => by subst z; simp at hl
      rw [← List.dropLast_concat_getLast hne]
      exact h1 _ _ (ih _ (by rw [List.length_dropLast]; omega))
  exact fun l => this _ l rfl
theorem tb_gatF (m : Nat) : ∀ (l : List Nat) (j : Nat), (gatF m l).testBit j = match l[j]? with | some p => m.testBit p | none => false := by
  refine snocInd (fun j => by simp [gatF]) fun l p ih j => ?_
  rw [gatF_snoc]
  by_cases h : j < l.length
  · rw [List.getElem?_append_left h, ← ih]
    split
    · rw [Nat.testBit_or, tb_shl, decide_eq_false (by omega), Bool.or_false]
    · rfl
  · have hn : l[j]? = none := List.getElem?_eq_none (by omega)
    have ihj := ih j
    rw [hn] at ihj
    dsimp only at ihj
    by_cases h2 : j = l.length
    · subst h2
      rw [List.getElem?_concat_length]
      dsimp only
      split
      · rename_i e; rw [Nat.testBit_or, tb_shl]; simp [e]
      · rename_i e; rw [ihj]; simpa using e
    · rw [List.getElem?_eq_none (by simp; omega)]
      dsimp only
      split
      · rw [Nat.testBit_or, tb_shl, ihj, decide_eq_false (by omega)]; rfl
      · exact ihj
theorem gatF_lt (m : Nat) (l : List Nat) : gatF m l < 2 ^ l.length := by
  refine Nat.lt_pow_two_of_testBit _ fun i hi => ?_
  rw [tb_gatF, List.getElem?_eq_none (by omega)]
theorem scaF_lt (m : Nat) {b : Nat} : ∀ (l : List Nat), (∀ w ∈ l, w < b) → scaF m l < 2 ^ b := by
  refine snocInd (fun _ => by simp [scaF]; exact Nat.two_pow_pos b) fun l p ih h => ?_
  rw [scaF_snoc]
  have h1 := ih fun w hw => h w (by simp [hw])
  split
  · exact Nat.or_lt_two_pow h1 (lt_shl (h p (by simp)))
  · exact h1
theorem tb_scaF (m : Nat) : ∀ (l : List Nat) (j : Nat), (scaF m l).testBit j = true ↔ ∃ i, l[i]? = some j ∧ m.testBit i = true := by
  refine snocInd (fun j => by simp [scaF]) fun l p ih j => ?_
  rw [scaF_snoc]
  constructor
  · intro h
    have h2 : (scaF m l).testBit j = true ∨ (m.testBit l.length = true ∧ p = j) := by
      split at h
      · rename_i e
        rw [Nat.testBit_or, tb_shl, Bool.or_eq_true, decide_eq_true_eq] at h
        rcases h with h | h
        · exact .inl h
        · exact .inr ⟨e, h⟩
      · exact .inl h
    rcases h2 with h2 | ⟨e, rfl⟩
    · obtain ⟨i, h3, h4⟩ := (ih j).mp h2
      have := (List.getElem?_eq_some_iff.mp h3).1
      exact ⟨i, by rw [List.getElem?_append_left this]; exact h3, h4⟩
    · exact ⟨l.length, List.getElem?_concat_length, e⟩
  · rintro ⟨i, h1, h2⟩
    by_cases c : i < l.length
    · rw [List.getElem?_append_left c] at h1
      have := (ih j).mpr ⟨i, h1, h2⟩
      split
      · rw [Nat.testBit_or, this]; rfl
      · exact this
    · have hi := (List.getElem?_eq_some_iff.mp h1).1
      rw [List.length_append] at hi
      have : i = l.length := by simp at hi; omega
      subst this
      rw [List.getElem?_concat_length] at h1
      cases h1
      rw [if_pos h2, Nat.testBit_or, tb_shl]; simp
theorem gat_sca {l : List Nat} (h : Asc l) (n : Nat) : gatF (scaF n l) l = n &&& (1 <<< l.length - 1) := by
  apply Nat.eq_of_testBit_eq
  intro j
  rw [tb_gatF, Nat.testBit_and, Nat.one_shiftLeft, Nat.testBit_two_pow_sub_one]
  by_cases c : j < l.length
  · rw [List.getElem?_eq_getElem c]
    dsimp only
    rw [decide_eq_true c, Bool.and_true]
    cases e : n.testBit j
    · cases e2 : (scaF n l).testBit l[j] with
      | false => rfl
      | true =>
        obtain ⟨i, h1, h2⟩ := (tb_scaF n l _).mp e2
        have := asc_inj h h1 (List.getElem?_eq_getElem c)
        subst this
        rw [e] at h2; cases h2
    · exact (tb_scaF n l _).mpr ⟨j, List.getElem?_eq_getElem c, e⟩
  · rw [List.getElem?_eq_none (by omega), decide_eq_false c, Bool.and_false]
theorem sca_gat (l : List Nat) (m : Nat) : scaF (gatF m l) l = m &&& maskL l := by
  apply Nat.eq_of_testBit_eq
  intro j
  rw [Nat.testBit_and, tb_maskL]
  cases e : (scaF (gatF m l) l).testBit j with
  | true =>
    obtain ⟨i, h1, h2⟩ := (tb_scaF _ l _).mp e
    rw [tb_gatF, h1] at h2
    dsimp only at h2
    rw [h2, decide_eq_true (List.mem_of_getElem? h1)]; rfl
  | false =>
    cases e2 : m.testBit j with
    | false => rfl
    | true =>
      by_cases c : j ∈ l
      · obtain ⟨i, hi⟩ := List.getElem?_of_mem c
        have : (scaF (gatF m l) l).testBit j = true := (tb_scaF _ l _).mpr ⟨i, hi, by rw [tb_gatF, hi]; exact e2⟩
        rw [e] at this; cases this
      · rw [decide_eq_false c]; rfl
/-! ### numbers of bits -/
theorem popc_maskL {l : List Nat} (h : Asc l) : popc (maskL l) = l.length := by rw [← wl_len, wl_maskL h]
theorem asc_sub : ∀ {a b : List Nat}, Asc a → Asc b → (∀ x ∈ a, x ∈ b) → a.length ≤ b.length
  | [], _, _, _, _ => Nat.zero_le _
  | x :: a, [], _, _, h => by have := h x (by simp); simp at this
  | x :: a, y :: b, ha, hb, h => by
    unfold Asc at ha hb
    rw [List.pairwise_cons] at ha hb
    rw [List.length_cons, List.length_cons]
    refine Nat.succ_le_succ (asc_sub ha.2 hb.2 fun z hz => ?_)
    have h1 := h z (by simp [hz])
    rw [List.mem_cons] at h1
    rcases h1 with rfl | h1
    · have h2 := h x (by simp)
      have h3 := ha.1 z hz
      rw [List.mem_cons] at h2
      rcases h2 with rfl | h2
      · omega
      · have := hb.1 x h2; omega
    · exact h1
theorem popc_sub {m n : Nat} (h : ∀ i, m.testBit i = true → n.testBit i = true) : popc m ≤ popc n := by
  rw [← wl_len, ← wl_len]
  exact asc_sub (asc_wl m) (asc_wl n) fun x hx => mem_wl.mpr (h x (mem_wl.mp hx))
theorem popc_or (m n : Nat) : popc m ≤ popc (m ||| n) := popc_sub fun i h => by rw [Nat.testBit_or, h]; rfl
end G

/-! ranges with a step, comparisons of lists of ints, the pool among other objects -/
namespace G
open PySem PySem.Spec PyProof.Rows L2
theorem rs_up {w c : Nat} (hc : 0 < c) : Builtin.Range.rangeSize 0 (w : Int) (c : Int) = (((w + c - 1) / c : Nat) : Int) := by
  unfold Builtin.Range.rangeSize
  rw [if_pos (by omega)]
  split
  · rename_i h
    have h1 : ((w : Int) - 0 - 1) = ((w - 1 : Nat) : Int) := by omega
    rw [h1, ← Int.natCast_ediv]
    have h2 : (w + c - 1) / c = (w - 1) / c + 1 := by
      rw [show w + c - 1 = (w - 1) + c by omega, Nat.add_div_right _ hc]
    rw [h2]; simp
  · rename_i h
    have : w = 0 := by omega
    subst this
    rw [Nat.div_eq_of_lt (by omega)]; rfl
theorem rg_up {w c : Nat} (hc : 0 < c) (hc2 : c < 1000) (hw : w ≤ 1000000) : RgC 0 (w : Int) (c : Int) ((w + c - 1) / c) := by
  have hd : (w + c - 1) / c ≤ w + c - 1 := Nat.div_le_self _ _
  refine ⟨by omega, by omega, ?_, rs_up hc⟩
  unfold Builtin.Range.small
  rw [rs_up hc]
  simp only [Builtin.Range.rangeFitsLong, Bool.and_eq_true, Bool.or_eq_true, decide_eq_true_eq, beq_iff_eq]
  rw [if_pos (by omega)]
  generalize (w + c - 1) / c = n at *
  simp only [decide_eq_true_eq, Bool.and_eq_true]
  omega
/-! ### == of lists of ints -/
def pyInts (ns : List Int) : List PyData := ns.map PyData.int
theorem dp_ints {K : PySem.W.Frag} {H : Hp} : ∀ ns : List Int, DpAll K H (ns.map V.int) (pyInts ns)
  | [] => .nil
  | n :: ns => .cons (.int n) (dp_ints ns)
theorem can_ints : ∀ ns : List Int, PyData.canLayAll0 (pyInts ns) = true
  | [] => by unfold pyInts PyData.canLayAll0; rfl
  | n :: ns => by
    show PyData.canLayAll0 (PyData.int n :: pyInts ns) = true
    unfold PyData.canLayAll0 PyData.canLay0
    rw [can_ints ns]; rfl
theorem depth_ints : ∀ ns : List Int, PyData.depthAll (pyInts ns) = 0
  | [] => by show PyData.depthAll [] = 0; unfold PyData.depthAll; rfl
  | n :: ns => by
    show PyData.depthAll (PyData.int n :: pyInts ns) = 0
    unfold PyData.depthAll PyData.depth
    rw [depth_ints ns]; rfl
theorem shaped_ints (ns : List Int) : SeqAt.shaped (.list (pyInts ns)) = true := by
  unfold SeqAt.shaped
  rw [Bool.and_eq_true]
  refine ⟨by unfold PyData.canLay0; exact can_ints ns, decide_eq_true ?_⟩
  unfold PyData.depth
  rw [depth_ints]; omega
/-- xs == ys, xs != ys of two lists of the same ints -/
theorem eq_ints {K : PySem.W.Frag} {H : Hp} {a b : Addr} {ns : List Int} {Q : VK} (ha : SqL K H a (ns.map V.int)) (hb : SqL K H b (ns.map V.int)) (q : Q (.bl true) H) : rEqD K (.ref a) (.ref b) H Q :=
  ⟨_, _, .lst ha (dp_ints ns), .lst hb (dp_ints ns), shaped_ints ns, shaped_ints ns, by rw [SeqAt.eqv_refl _ (SeqAt.canLay_of_shaped (shaped_ints ns))]; exact q⟩
theorem ne_ints {K : PySem.W.Frag} {H : Hp} {a b : Addr} {ns : List Int} {Q : VK} (ha : SqL K H a (ns.map V.int)) (hb : SqL K H b (ns.map V.int)) (q : Q (.bl false) H) : rNeD K (.ref a) (.ref b) H Q :=
  ⟨_, _, .lst ha (dp_ints ns), .lst hb (dp_ints ns), shaped_ints ns, shaped_ints ns, by rw [SeqAt.eqv_refl _ (SeqAt.canLay_of_shaped (shaped_ints ns))]; exact q⟩
end G
namespace G
open PySem PySem.Spec PyProof.Rows L2
/-! ### from H to H': all that was tracked stands, but the pool at p, which is a list of ints still -/
structure Pl (p : Addr) (H H' : Hp) : Prop where
  sb : Sb p H H'
  at_ : PoolAt H' p
theorem Pl.refl {p : Addr} {H : Hp} (h : PoolAt H p) : Pl p H H := ⟨Sb.refl _ _, h⟩
theorem Pl.trans {p : Addr} {H H1 H2 : Hp} (a : Pl p H H1) (b : Pl p H1 H2) : Pl p H H2 := ⟨a.sb.trans b.sb, b.at_⟩
theorem Pl.draw {p : Addr} {H H1 : Hp} (a : Pl p H H1) (ns : List Int) : Pl p H (upd H1 p (.lst (ns.map V.int))) := ⟨a.sb.upd, ns, upd_same⟩
theorem Pl.same {p : Addr} {H H1 H2 : Hp} (a : Pl p H H1) (s : Same H1 H2) : Pl p H H2 := ⟨a.sb.trans (Sb.of s), let ⟨ns, e⟩ := a.at_; ⟨ns, s _ _ e⟩⟩
theorem Pl.new {p a : Addr} {H H1 : Hp} {o : HO} (x : Pl p H H1) (h : H1 a = none) : Pl p H (upd H1 a o) := x.same (same_new h)
theorem PoolAt.ne {H : Hp} {p a : Addr} (h : PoolAt H p) (ha : H a = none) : a ≠ p := fun z => by obtain ⟨ns, e⟩ := h; subst z; rw [ha] at e; cases e
theorem Pl.mut {p a : Addr} {H H1 : Hp} {o : HO} (x : Pl p H H1) (h : H a = none) (hp : a ≠ p) : Pl p H (upd H1 a o) := by
  refine ⟨fun b u hb e => ?_, ?_⟩
  · rw [upd_ne (ne_of_none e h)]; exact x.sb b u hb e
  · obtain ⟨ns, e⟩ := x.at_
    exact ⟨ns, by rw [upd_ne (Ne.symm hp)]; exact e⟩
theorem Pl.get {p a : Addr} {H H1 : Hp} {o : HO} (x : Pl p H H1) (hp : a ≠ p) (h : H a = some o) : H1 a = some o := x.sb a o hp h
theorem Pl.none {p a : Addr} {H H1 : Hp} (x : Pl p H H1) (h0 : PoolAt H p) (h : H1 a = Option.none) : H a = Option.none := by
  cases e : H a with
  | none => rfl
  | some o =>
    by_cases hp : a = p
    · subst hp
      obtain ⟨ns, e'⟩ := x.at_
      rw [h] at e'; cases e'
    · rw [x.sb a o hp e] at h; cases h
theorem nat_ex {r : Int} (h : 0 ≤ r) : ∃ n : Nat, r = n := ⟨r.toNat, by omega⟩
theorem eq_nats {K : PySem.W.Frag} {H : Hp} {a b : Addr} {l : List Nat} {Q : VK} (ha : SqL K H a (nv l)) (hb : SqL K H b (nv l)) (q : Q (.bl true) H) : rEqD K (.ref a) (.ref b) H Q := by
  rw [nv_nz] at ha hb
  exact eq_ints ha hb q
theorem ne_nats {K : PySem.W.Frag} {H : Hp} {a b : Addr} {l : List Nat} {Q : VK} (ha : SqL K H a (nv l)) (hb : SqL K H b (nv l)) (q : Q (.bl false) H) : rNeD K (.ref a) (.ref b) H Q := by
  rw [nv_nz] at ha hb
  exact ne_ints ha hb q
/-- xs[:n] -/
theorem cut_to {xs : List V} {n : Nat} (h : n ≤ xs.length) : cutV xs none (some (n : Int)) = xs.take n := by
  unfold cutV
  rw [HT.sIx_nat]
  show (xs.drop 0).take (min n xs.length - 0) = xs.take n
  rw [Nat.min_eq_left h]; rfl
theorem nv_take (l : List Nat) (n : Nat) : (nv l).take n = nv (l.take n) := by unfold nv; rw [List.map_take]
theorem is_two {H : Hp} {p : Addr} {x y : V} {d e : Dt} (h : H p = some (.tup [x, y])) (hx : Is H x d) (hy : Is H y e) : Is H (.ref p) (.tup [d, e]) := by
  unfold Is
  refine ⟨p, _, rfl, h, ?_⟩
  unfold IsL; refine ⟨hx, ?_⟩
  unfold IsL; refine ⟨hy, ?_⟩
  unfold IsL; trivial
theorem is_three {H : Hp} {p : Addr} {x y z : V} {d e f : Dt} (h : H p = some (.tup [x, y, z])) (hx : Is H x d) (hy : Is H y e) (hz : Is H z f) : Is H (.ref p) (.tup [d, e, f]) := by
  unfold Is
  refine ⟨p, _, rfl, h, ?_⟩
  unfold IsL; refine ⟨hx, ?_⟩
  unfold IsL; refine ⟨hy, ?_⟩
  unfold IsL; refine ⟨hz, ?_⟩
  unfold IsL; trivial
end G

/-! own exceptions whose __init__ begins with super().__init__(text): a promise of such an __init__ by its further rows -/
namespace G
open PySem PySem.Spec PyProof.Rows L2
open PySem.W (kxs_mw KxsAt clsIn mroIn subIn nsIn findIn typeIn keepIn codeIn fnX ksEnv ks_superIn)
/-- what the written part says of an exception's class C, with its __init__ (st) at fI -/
structure ExI (P : Program) (K : PySem.W.Frag) (mg : Str → Option Value) (C : Addr) (st : Stmt) (qual : Str) (fI : Addr) (fd : FuncData) : Prop where
  oex : OexC K C
  iC : findIn K (.ref C) "__init__" = some (some (.ref fI))
  tI : typeIn K (.ref fI) = some (.type "function")
  fn : ∃ (oc : Value) (od : Option Addr) (kV doc pm : Value) (an : Option Addr) (cda cc : Addr) (ct : Value) (osl : Array (Option Value)),
    fd = fnX "__init__" qual (defArgs st) (defBody st) (defScope st) [("__class__", cc)] .none kV doc pm an (.ref cda) ct ∧ K.lookup fI = some ⟨oc, od, .func fd, osl⟩ ∧ codeIn K (.ref cda) qual = true ∧
    (∃ (ccl : Value) (cdd : Option Addr) (vs : Array Value) (ccs : Array (Option Value)) (file : Str) (tf : Tok), K.lookup cda = some ⟨ccl, cdd, .fields vs, ccs⟩ ∧ vs[2]? = some (.str file tf) ∧ ((P.main.file : Str) == file) = true) ∧
    ∃ (cl : Value) (cld : Option Addr) (csl : Array (Option Value)), K.lookup cc = some ⟨cl, cld, .cell (some (.ref C)), csl⟩
  cd : (clsIn K C).isSome = true
  sub : mroIn K C (.ref C) = some true
  sup : ks_superIn K C C "__init__" = some (some (.builtin "ValueError.__init__"))
  subV : subIn K (.ref C) (.type "ValueError") = some true
  opq : nsIn K PySem.cStatics "thirdparty.any" = some none
  nsup : mg "super" = none
  ntop : (P.main.scope.names.lookup ("super" : Str)).isSome = false
/-- the scope of such an __init__ -/
structure SupScope (N P : List Str) (sc : Scope) : Prop where
  kind : sc.kind = .function
  co : sc.isCoroutine = false
  gen : sc.isGenerator = false
  nd : N.Nodup
  pre : N.take P.length = P
  par : ∀ x ∈ P, sc.names.lookup x = some .local
  nocell : ∀ y ∈ sc.names, y.2 ≠ .cell
  fre : ∀ y ∈ sc.names, y.2 = .free → y.1 = ("__class__" : Str)
  sup : sc.names.lookup ("super" : Str) = some .globalImplicit
  cls : sc.names.lookup ("__class__" : Str) = some .free
theorem lookup_mem {α β : Type} [BEq α] [LawfulBEq α] {x : α} {v : β} : ∀ {l : List (α × β)}, (l.map (·.1)).Nodup → (x, v) ∈ l → l.lookup x = some v
  | (y, u) :: r, hn, hm => by
    rw [List.map_cons, List.nodup_cons] at hn
    rw [List.lookup_cons]
    by_cases e : x = y
    · subst e
      rcases List.mem_cons.mp hm with q | q
      · cases q; simp
      · exact absurd (List.mem_map_of_mem (f := (·.1)) q) hn.1
    · have : (x == y) = false := by simpa using e
      rw [this]
      rcases List.mem_cons.mp hm with q | q
      · cases q; exact absurd rfl e
      · exact lookup_mem hn.2 q
theorem zip_rev_lookup {ps : List Str} {us : List Value} {i : Nat} {x : Str} {v : Value} (hn : ps.Nodup) (hl : us.length = ps.length) (hp : ps[i]? = some x) (hu : us[i]? = some v) : (ps.zip us).reverse.lookup x = some v := by
  refine lookup_mem ?_ ?_
  · rw [List.map_reverse, List.map_fst_zip (by omega)]
    exact List.pairwise_reverse.mpr (hn.imp fun h => Ne.symm h)
  · rw [List.mem_reverse]
    refine List.mem_of_getElem? (i := i) ?_
    rw [List.getElem?_zip_eq_some]
    exact ⟨hp, hu⟩
/-- the context of the body of such an __init__ -/
def cxS (CX : CXT) (P : Program) (w : World) (K : PySem.W.Frag) (mg : Str → Option Value) (base : Heap) (N : List Str) (qual : Str) (scope : Scope) (f cda cc : Addr) (A : Around) (outer : List Env) (s : Shared) (H : Hp) (E : XK) : Cx :=
  let env := ksEnv qual scope s.heap.objs.size f (.ref cda) cc
  { prog := P, w := w, K := K, mg := mg, base := base, A := A.deeper env, N := N, s_0 := s, H_0 := H, env := env, outer := outer, stack := env :: outer, ex := [], calm := true, fn := fun _ => false, pn := [],
    xe := fun e s' => wpAny (model P w) (A.deeper env) (leaving env e) (fun _ s'' => CX outer H s E e s'') (fun e' s'' => CX outer H s E e' s'') s' }
section
variable {CX : CXT} {P : Program} {w : World} {K : PySem.W.Frag} {mg : Str → Option Value} {base : Heap} {N ps : List Str} {qual : Str} {scope : Scope} {f cda cc : Addr} {A : Around} {outer : List Env} {s : Shared} {H : Hp} {E : XK} {us : List Value} {vs : List V}
theorem inv_sup (S : SupScope N ps scope) (hd : A.handled = none) (e0 : Env0 P w K mg base A outer s H) (hl : vs.length = ps.length) (r : Vals vs us) {h1 : Heap} {tk : Nat} {C : Addr} {cl : Value} {cld : Option Addr} {csl : Array (Option Value)}
    (hcc : K.lookup cc = some ⟨cl, cld, .cell (some (.ref C)), csl⟩)
    (hns : h1.Ns s.heap.objs.size fun x => (ps.zip us).reverse.lookup x) (hk : ∀ b o, s.heap.get? b = some o → h1.get? b = some o) :
    Inv (cxS CX P w K mg base N qual scope f cda cc A outer s H E) [] (start N vs) H { s with heap := h1, toks := tk } := by
  have hbase : base.get? cc = some ⟨cl, cld, .cell (some (.ref C)), csl⟩ := e0.mod.kin _ _ hcc
  have hbs := e0.bs _ _ hbase
  have one : ∀ {x : Str} {c : Addr}, List.lookup x [(("__class__" : Str), cc)] = some c → x = "__class__" ∧ c = cc := fun {x c} h => by
    rw [List.lookup_cons] at h
    by_cases e : x = ("__class__" : Str)
    · subst e; simp at h; exact ⟨rfl, h.symm⟩
    · have : (x == ("__class__" : Str)) = false := by simpa using e
      rw [this] at h; cases h
  have noA : ∀ b : Addr, b ∉ (cxS CX P w K mg base N qual scope f cda cc A outer s H E).ex := fun b z => absurd (show b ∈ ([] : List Addr) from z) (by simp)
  refine ⟨⟨e0.mod, S.kind, rfl, rfl, Nat.le_refl _, fun y z c h1 h2 => ?_, fun y hy => ?_, fun y c hf h => ?_, fun _ => hd, Around.frames_deeper e0.frames, .inr ⟨rfl, rfl⟩, fun b z => absurd z (noA b), e0.bs, e0.bsz, fun b _ _ => noA b, fun b z => absurd z (noA b), e0.funs, e0.frf⟩,
    rfl, e0.bare, Un.kept hk, ⟨_, hns, fun i y v h1 h2 h3 => ?_⟩, fun y c h => ?_, e0.hok.fresh (Nat.le_refl _), fun y c h => ?_, fun p hp => absurd (show p ∈ ([] : List (Addr × Obj)) from hp) (by simp), e0.hok.kept hk, ?_⟩
  · exact (one h1).1.trans (one h2).1.symm
  · have hy : scope.names.lookup y = some .cell ∨ scope.names.lookup y = some .free := hy
    rcases hy with hy | hy
    · exact absurd rfl (S.nocell _ (PySem.mem_of_lookup hy))
    · have e : y = "__class__" := S.fre _ (PySem.mem_of_lookup hy) rfl
      subst e
      refine ⟨cc, ?_⟩
      show List.lookup ("__class__" : Str) [(("__class__" : Str), cc)] = some cc
      simp [List.lookup]
  · exact Bool.noConfusion (show false = true from hf)
  · have hi : i < vs.length := by
      unfold L2.start at h2
      by_cases hi : i < vs.length
      · exact hi
      · rw [List.getElem?_append_right (by simpa using hi), List.getElem?_replicate] at h2
        split at h2 <;> cases h2
    have ha : vs[i]? = some v := by
      unfold L2.start at h2
      rw [List.getElem?_append_left (by simpa using hi), List.getElem?_map] at h2
      cases e : vs[i]? with
      | none => rw [e] at h2; cases h2
      | some a => rw [e] at h2; cases h2; rfl
    obtain ⟨u, hu, rv⟩ := r.get ha
    have hp : ps[i]? = some y := by
      rw [← S.pre, List.getElem?_take_of_lt (by omega)]; exact h1
    have ndP : ps.Nodup := by rw [← S.pre]; exact S.nd.sublist (List.take_sublist _ _)
    exact ⟨u, rv, .inl ⟨S.par y (List.mem_of_getElem? hp), zip_rev_lookup ndP (by rw [← r.length, hl]) hp hu⟩⟩
  · obtain ⟨rfl, rfl⟩ := one h
    exact ⟨_, _, hk _ _ hbs.1, rfl⟩
  · obtain ⟨rfl, rfl⟩ := one h
    exact hbs.2
  · have hpl : ps.length ≤ N.length := by have := congrArg List.length S.pre; rw [List.length_take] at this; omega
    unfold L2.start
    show _ = N.length
    rw [List.length_append, List.length_map, List.length_replicate]
    omega
end
/-- the wrapper of ValueError.__init__ bound to an exception that is being made, called -/
theorem mw_call {P : Program} {w : World} {K : PySem.W.Frag} {C u a t1 : Addr} {h : Heap} {g : Array GenState} {d : Drawn} {t : Nat} {os : OsState} {A : Around} {rest : List Value} {Q : Value → Shared → Prop} {E : Value → Shared → Prop}
    (T : OexC K C) (X : K.In h) (hu : h.get? u = some (kxs_mw "ValueError.__init__" a)) (he : h.get? a = some (PySem.HandSPX.excO C t1)) (hz : rest.length ≤ sizeLine)
    (hq : ∀ h' t2, (∀ b o, b ≠ a → h.get? b = some o → h'.get? b = some o) → h'.get? a = some (PySem.HandSPX.excO C t2) → Q .none ⟨h', g, d, t, os⟩) :
    wpAny (model P w) A (call (.ref u) rest) Q E ⟨h, g, d, t, os⟩ := by
  obtain ⟨nm, q, N, bs, bm, sn, sub, ab, col, dd, k0, k1, k2, k3, k5, hC, hbm⟩ := T.cls
  have hCh := X _ _ hC
  refine wpAny_call (codeAny_of_tree (?_ : wpAny _ A.in1 (callAny (.ref u) ⟨rest, []⟩) _ _ _))
  have c1 : (Value.type "method-wrapper" == Value.type "method" || Value.type "method-wrapper" == Value.type "builtin_function_or_method" || Value.type "method-wrapper" == Value.type "method-wrapper") = true := by decide
  simp only [callAny]
  refine wpAny_bind (wpAny_load hu (?_ : _))
  simp only [c1, if_true]
  refine PySem.W.KFB.if_so (by decide) (wpAny_bind (PySem.W.check_bound_init F.excBase_ValueError.toExcCallFacts hCh he rfl (wpAny_bind (wpAny_pure (wpAny_pure ⟨?_, ?_⟩)))))
  · exact plainId_quiet F.excBase_ValueError.init.plain _
  · refine codeAny_builtin F.excBase_ValueError.initEntry (PySem.W.exc_init_tree (cls := .ref C) (t0 := t1) (dv := none) (c2 := .none) (c3 := .none) (b4 := .bool false) he hz fun h' k e _ => ?_)
    exact hq h' _ k e
/-- THE RULE for an __init__ that begins with super().__init__(e, ..) -/
theorem fn_super {CX : CXT} {P : Program} {w : World} {K : PySem.W.Frag} {mg : Str → Option Value} {base : Heap} {k : Nat} {C fI : Addr} {fd : FuncData} {st : Stmt} {qual : Str} {N ps : List Str} {sp : Sp} {a0 : Expr} {as : List Expr} {rest : List Stmt} {ar : Arg} {q0 q1 q2 q3 q4 : Pos}
    (T : ExI P K mg C st qual fI fd) (S : SupScope N ps (defScope st)) (hb : defBody st = .Expr (.Call (.Attribute (.Call (.Name "super" q0) [] [] q1) "__init__" q2) (a0 :: as) [] q3) q4 :: rest)
    (har : ((defArgs st).posonlyargs ++ (defArgs st).args).head? = some ar) (hself : N[0]? = some ar.arg) (hps : ps[0]? = some ar.arg)
    (len : ∀ vs H Q E, sp vs H Q E → vs.length = ps.length)
    (hbody : ∀ (cda cc : Addr) (A : Around) (outer : List Env) (s : Shared) (H : Hp) (vs : List V) (Q : VK) (E : XK), Room k (A.deeper (ksEnv qual (defScope st) s.heap.objs.size fI (.ref cda) cc)) → sp vs H Q E →
      ∃ ta t a, PA (cxS CX P w K mg base N qual (defScope st) fI cda cc A outer s H E) (a0 :: as) ta ∧ PSs (cxS CX P w K mg base N qual (defScope st) fI cda cc A outer s H E) rest t ∧ vs[0]? = some (.ref a) ∧ H a = some (exo a C none) ∧
        ta (L2.start N vs) H fun ws H1 => ws.length ≤ 1000 ∧ H1 a = some (exo a C none) ∧ t { nx := fun _ H' => Q .non H', rt := Q } (L2.start N vs) H1)
    (hsa : ∀ (cda cc : Addr) (L : Addr), starEach (a0 :: as) (ksEnv qual (defScope st) L fI (.ref cda) cc) = (false, eval a0 (ksEnv qual (defScope st) L fI (.ref cda) cc)) :: starEach as (ksEnv qual (defScope st) L fI (.ref cda) cc) := by intro _ _ _; rfl)
    (hpl : ∀ (cda cc : Addr) (L : Addr), (backTo q3 (starEach as (ksEnv qual (defScope st) L fI (.ref cda) cc))).any (·.1) = false := by intro _ _ _; rfl)
    (hcs : ∀ (cda cc : Addr) (L : Addr), eval (.Call (.Attribute (.Call (.Name "super" q0) [] [] q1) "__init__" q2) (a0 :: as) [] q3) (ksEnv qual (defScope st) L fI (.ref cda) cc) = (do
      let ov ← attributeBase (.Call (.Name "super" q0) [] [] q1) "__init__" (ksEnv qual (defScope st) L fI (.ref cda) cc) (eval (.Call (.Name "super" q0) [] [] q1) (ksEnv qual (defScope st) L fI (.ref cda) cc))
      standAt q2.atName
      let (f, first) ← holding [ov] (getMethod ov "__init__" (pure false))
      callWith q3 f first (backTo q3 (starEach (a0 :: as) (ksEnv qual (defScope st) L fI (.ref cda) cc))) []) := by intro _ _ _; rfl)
    (hin : ∀ (cda cc : Addr) (L : Addr), interactive (ksEnv qual (defScope st) L fI (.ref cda) cc) = false := by intro _ _ _; rfl)
    (hsw : ∀ (cda cc : Addr) (L : Addr), swapsWith (.Call (.Attribute (.Call (.Name "super" q0) [] [] q1) "__init__" q2) (a0 :: as) [] q3) none q4.line (ksEnv qual (defScope st) L fI (.ref cda) cc) = pure false := by intro _ _ _; rfl) :
    FnOk P w K mg base CX (k + 1) fI fd ps sp := by
  obtain ⟨oc, od, kV, doc, pm, an, cda, cc, ct, osl, rfl, lk, hcd, ⟨ccl, cdd, cvs, ccs, file, tf, hcode, hvs, hfile⟩, cl, cld, csl, hcell⟩ := T.fn
  refine ⟨len, fun A outer s H args us vs Q E hr e0 hbd r hsp => ?_⟩
  have hl := len _ _ _ _ hsp
  have KX : K.In s.heap := e0.mod.kin.keeps fun b o e => (e0.bs b o e).1
  have lim : s.heap.NoLimit := e0.mod.nolimit.keeps fun b o e => (e0.bs b o e).1
  have hul : us.length = ps.length := by rw [← r.length, hl]
  refine ks_codeAny_call_defAt (body := defBody st) hr.depth (KX _ _ lk) rfl lim (PySem.W.codeRec_of KX hcd) rfl hbd S.nocell (fun y hy => S.par y.1 (List.of_mem_zip hy).1) (fun h0 hns hk => ?_) S.co S.gen S.kind
  obtain ⟨ta, t, a, hPA, hPS, hv0, hHa, hq⟩ := hbody cda cc A outer s H vs Q E (hr.deeper _) hsp
  have I : Inv (cxS CX P w K mg base N qual (defScope st) fI cda cc A outer s H E) [] (L2.start N vs) H { s with heap := h0, toks := s.toks + (ps.zip us).length } := inv_sup S hr.hd e0 hl r hcell hns hk
  obtain ⟨t1, hobj⟩ := exo_at I.hok hHa
  have X0 : K.In h0 := KX.keeps hk
  have hself0 : ((ps.zip us).reverse.lookup ar.arg) = some (.ref a) := by
    have ndP : ps.Nodup := by rw [← S.pre]; exact S.nd.sublist (List.take_sublist _ _)
    obtain ⟨u0, hu0, ru⟩ := r.get hv0
    have : u0 = .ref a := ru
    subst this
    exact zip_rev_lookup ndP hul hps hu0
  obtain ⟨cdD, hcd2⟩ := Option.isSome_iff_exists.mp T.cd
  obtain ⟨oC, hC1, hC2⟩ : ∃ oC, h0.get? C = some oC ∧ oC.data = .cls cdD := by
    have q := hcd2
    unfold clsIn at q
    split at q
    · cases q
      exact ⟨_, X0 _ _ ‹_›, rfl⟩
    · cases q
  show _root_.PySem.wpAt (model P w) (A.deeper (ksEnv qual (defScope st) s.heap.objs.size fI (.ref cda) cc)) (.func (defBody st) (ksEnv qual (defScope st) s.heap.objs.size fI (.ref cda) cc)) (execs (defBody st) (ksEnv qual (defScope st) s.heap.objs.size fI (.ref cda) cc)) _ _ _
  have go : _root_.PySem.wpAt (model P w) (A.deeper (ksEnv qual (defScope st) s.heap.objs.size fI (.ref cda) cc)) (.func (defBody st) (ksEnv qual (defScope st) s.heap.objs.size fI (.ref cda) cc)) (execs (.Expr (.Call (.Attribute (.Call (.Name "super" q0) [] [] q1) "__init__" q2) (a0 :: as) [] q3) q4 :: rest) (ksEnv qual (defScope st) s.heap.objs.size fI (.ref cda) cc))
      (SP (cxS CX P w K mg base N qual (defScope st) fI cda cc A outer s H E) [] { nx := fun _ H' => Q .non H', rt := Q }) (cxS CX P w K mg base N qual (defScope st) fI cda cc A outer s H E).xe { s with heap := h0, toks := s.toks + (ps.zip us).length } := by
    refine ks_wpAt_execs_cons (ks_wpAt_Expr_any (ks_wpAt_MethodCall ?_ (hcs cda cc _)) (hin cda cc _) (hsw cda cc _))
    refine ks_wpAt_super_base (env := ksEnv qual (defScope st) s.heap.objs.size fI (.ref cda) cc) S.sup S.cls (by decide) rfl (X0 _ _ lk) rfl har rfl (X0 _ _ hcode) rfl hvs hfile T.ntop ?_
    obtain ⟨mb, hmb, hmbx⟩ := e0.mod.blt
    have kb : ∀ b o, base.get? b = some o → h0.get? b = some o := fun b o e => hk _ _ (e0.bs b o e).1
    refine PySem.W.ks_loadName_global S.kind S.sup (PySem.Calls.loadGlobal_builtin (env := ksEnv qual (defScope st) s.heap.objs.size fI (.ref cda) cc) (e0.mod.glob.keeps kb) T.nsup (hmb.keeps kb) ((hmbx "super" (by decide)).trans (by decide +kernel)) ⟨rfl, ?_⟩)
    refine wpAny_loadName_free S.kind S.cls rfl ⟨_, X0 _ _ hcell, rfl⟩ ?_
    refine wpAny_loadName_local S.kind (S.par ar.arg (List.mem_of_getElem? hps)) hns hself0 ?_
    refine ks_wpAny_isType_cls hC1 hC2 ⟨rfl, ?_⟩
    refine ks_wpAny_call_super hC1 hC2 hobj rfl (fun c e => by cases e) (PySem.W.looks_mroIn X0 T.sub) (fun h2 e2 k2 => ?_)
    have X2 : K.In h2 := X0.keeps k2
    have hobj2 := k2 _ _ hobj
    have hI2 : PySem.W.Looks (model P w) h2 (isInstance (.ref a) (.type "ValueError")) true :=
      (show PySem.W.InstAt h2 a _ C none from ⟨hobj2, rfl, rfl, trivial⟩).type.andThen (PySem.W.looks_subIn X2 T.subV)
    have haC : a ≠ C := fun e => by
      subst e
      rw [hC1] at hobj
      cases hobj
      cases hC2
    have hsup := T.sup
    unfold ks_superIn at hsup
    rw [hcd2] at hsup
    refine PySem.W.kxs_getMethod PySem.W.kxs_ValueError e2 (PySem.W.looks_opaque X2 T.opq) (l₀ := cdD.mro) (fun A Q E s k q => wpAny_bind ((PySem.W.looks_clsIn X2 hcd2) A _ E s k (wpAny_pure q))) rfl X2 hsup hI2 haC (by decide) ?_
    have hu : (h2.push (kxs_mw "ValueError.__init__" a)).get? h2.objs.size = some (kxs_mw "ValueError.__init__" a) := Heap.get?_push_at rfl rfl
    have k3 : ∀ b o, h0.get? b = some o → (h2.push (kxs_mw "ValueError.__init__" a)).get? b = some o := fun b o e => Heap.get?_push_of_some _ (k2 b o e)
    have hle : h0.objs.size ≤ h2.objs.size := Nat.le_of_lt (Heap.lt_size e2)
    have J := ClX.pin_new (t' := s.toks + (ps.zip us).length + 1) (o := kxs_mw "ValueError.__init__" a) I k3 hle hu (fun v e => by cases e)
    refine PySem.W.kxs_callWith (i := "ValueError.__init__") (x := a) ?_ ?_
    · rw [hsa cda cc]
      show (false || (backTo q3 (starEach as _)).any (·.1)) = false
      rw [hpl cda cc]; rfl
    have run := hPA.run q3 _ _ (L2.start N vs) H _ J hq
    have run : wpAny (model P w) (A.deeper (ksEnv qual (defScope st) s.heap.objs.size fI (.ref cda) cc)) (spliced (backTo q3 (starEach (a0 :: as) (ksEnv qual (defScope st) s.heap.objs.size fI (.ref cda) cc)))) _ _ _ := run
    rw [hsa cda cc] at run ⊢
    refine PySem.Calls.evalArgs_plain (wpAny_mono run (fun us2 s2 hap => ?_) fun _ _ z => z)
    obtain ⟨ws, H2, I2, rv, hz, hH2, hq2⟩ := hap
    obtain ⟨t2, ho2⟩ := exo_at I2.hok hH2
    refine ⟨ClX.pin_at I2, ?_⟩
    obtain ⟨hp2, g2, d2, tk2, os2⟩ := s2
    refine mw_call T.oex I2.kIn (ClX.pin_at I2) ho2 (by have := Paired.length rv; rw [sizeLine_eq]; show us2.length ≤ _; omega) fun h3 t3 k4 hx3 => ?_
    have W := I2.write (t' := tk2) (x := a) (e := a) (o := exo a C none) (by rw [hH2]; exact True.intro) (.inl rfl) k4 ⟨_, hx3⟩ (exo_ok hx3)
    have eu : upd H2 a (exo a C none) = H2 := by
      funext b
      by_cases hb : b = a
      · rw [hb, upd_same, hH2]
      · rw [upd_ne hb]
    rw [eu] at W
    exact wpAt_of_wpAny (hPS.run [] _ (L2.start N vs) H2 _ (ClX.unpin W) hq2)
  rw [hb]
  refine ks_wpAt_mono (by rw [hb] at go; exact go) (fun fl s' hs => ?_) fun e s' hs => hs
  have fin : ∀ {σ' : L2.St} {H' : Hp} {v : V} {u : Value}, Inv (cxS CX P w K mg base N qual (defScope st) fI cda cc A outer s H E) [] σ' H' s' → RelV v u → Q v H' → CE outer P w H s Q u s' := fun {σ' H' v u} J rv q => ⟨v, H', J.os, J.bare, J.base, J.hok, rv, q⟩
  cases fl with
  | ret u =>
    obtain ⟨v, σ', H', J, rv, q⟩ := hs
    exact fin J rv q
  | next =>
    obtain ⟨σ', H', J, q⟩ := hs
    exact fin (v := V.non) (u := Value.none) J rfl q
  | brk =>
    obtain ⟨_, _, _, q⟩ := hs
    exact False.elim q
  | cont =>
    obtain ⟨_, _, _, q⟩ := hs
    exact False.elim q
end G

/-! own exceptions: promises of their __init__, what raising them asks, what an except suite reads of them -/
namespace G
open PySem PySem.Spec PyProof.Rows L2
/-! ### __init__ -/
/-- self.f = v (an int) -/
def spI1 (C : Addr) (f : Str) : Sp := fun vs H Q _ => ∃ (a : Addr) (v : Int), vs = [.ref a, .int v] ∧ v.natAbs.log2 < 1920 ∧ H a = some (exo a C none) ∧
  ∀ dx, H dx = none → dx ≠ a → Q .non (upd (upd H dx (exd dx [(f, .int v)])) a (exo a C (some dx)))
/-- self.f = v, self.g = w -/
def spI2 (C : Addr) (f g : Str) (ok : V → V → Prop) : Sp := fun vs H Q _ => ∃ (a : Addr) (v w : V), vs = [.ref a, v, w] ∧ ok v w ∧ H a = some (exo a C none) ∧
  ∀ dx, H dx = none → dx ≠ a → Q .non (upd (upd (upd H dx (exd dx [(f, v)])) a (exo a C (some dx))) dx (exd dx [(g, w), (f, v)]))
/-- raise C(v) -/
theorem raise1 {C : Addr} {f : Str} {v : Int} {H : Hp} {Q : XK} (hv : v.natAbs.log2 < 1920) (q : ∀ d, H d = none → Q (.ref C) (some d) (upd H d (.xd [(f, .int v)]))) :
    ([V.int v] : List V).length ≤ 1000 ∧ ∀ a, H a = none → spI1 C f (.ref a :: ([V.int v] ++ [])) (upd H a (exo a C none))
      (fun u H2 => u = .non ∧ ∃ (d : Addr) (fs : List (Str × V)), H2 a = some (exo a C (some d)) ∧ H2 d = some (exd d fs) ∧ H d = none ∧ Q (.ref C) (some d) (upd (del H2 a) d (.xd fs))) (fun _ _ _ => False) := by
  refine ⟨by simp, fun a ha => ⟨a, v, rfl, hv, upd_same, fun dx hd hne => ?_⟩⟩
  rw [upd_ne hne] at hd
  refine ⟨rfl, dx, [(f, .int v)], upd_same, ?_, hd, ?_⟩
  · rw [upd_ne hne, upd_same]
  · have e : upd (del (upd (upd (upd H a (exo a C none)) dx (exd dx [(f, .int v)])) a (exo a C (some dx))) a) dx (.xd [(f, .int v)]) = upd H dx (.xd [(f, .int v)]) := by
      funext b
      by_cases h1 : b = dx
      · subst h1; rw [upd_same, upd_same]
      · rw [upd_ne h1, upd_ne h1]
        by_cases h2 : b = a
        · subst h2; rw [del_same, ha]
        · rw [del_ne h2, upd_ne h2, upd_ne h1, upd_ne h2]
    rw [e]
    exact q dx hd
/-- raise C(v, w) -/
theorem raise2 {C : Addr} {f g : Str} {ok : V → V → Prop} {v w : V} {H : Hp} {Q : XK} (hv : ok v w)
    (q : ∀ d, H d = none → Q (.ref C) (some d) (upd H d (.xd [(g, w), (f, v)]))) :
    ([v, w] : List V).length ≤ 1000 ∧ ∀ a, H a = none → spI2 C f g ok (.ref a :: ([v, w] ++ [])) (upd H a (exo a C none))
      (fun u H2 => u = .non ∧ ∃ (d : Addr) (fs : List (Str × V)), H2 a = some (exo a C (some d)) ∧ H2 d = some (exd d fs) ∧ H d = none ∧ Q (.ref C) (some d) (upd (del H2 a) d (.xd fs))) (fun _ _ _ => False) := by
  refine ⟨by simp, fun a ha => ⟨a, v, w, rfl, hv, upd_same, fun dx hd hne => ?_⟩⟩
  rw [upd_ne hne] at hd
  refine ⟨rfl, dx, [(g, w), (f, v)], ?_, upd_same, hd, ?_⟩
  · rw [upd_ne (Ne.symm hne), upd_same]
  · have e : upd (del (upd (upd (upd (upd H a (exo a C none)) dx (exd dx [(f, v)])) a (exo a C (some dx))) dx (exd dx [(g, w), (f, v)])) a) dx (.xd [(g, w), (f, v)]) = upd H dx (.xd [(g, w), (f, v)]) := by
      funext b
      by_cases h1 : b = dx
      · subst h1; rw [upd_same, upd_same]
      · rw [upd_ne h1, upd_ne h1]
        by_cases h2 : b = a
        · subst h2; rw [del_same, ha]
        · rw [del_ne h2, upd_ne h1, upd_ne h2, upd_ne h1, upd_ne h2]
    rw [e]
    exact q dx hd
theorem len_app (a b : Str) : (a ++ b).length = a.length + b.length := Str.length_append a b
theorem len_toString {v : Int} (h : v.natAbs.log2 < 1920) : (toString v : Str).length ≤ 1921 := int_text_len_1921 h
/-! ### what an except suite reads -/
section
variable {X : Cx} {a : Addr} {oe : Obj} {pn : List (Addr × Obj)} {cls : Value} {d : Option Addr} {e : Expr} {te : TE} {pos : Pos} {n : Str}
/-- e.n -/
def tXfA (K : PySem.W.Frag) (a : Addr) (cls : Value) (d : Option Addr) (n : Str) (te : TE) : TE := fun σ H Q => te σ H fun x H1 => x = .ref a ∧ ∃ (C dd : Addr) (fs : List (Str × V)) (v : V), cls = .ref C ∧ XfC K C ∧ PySem.W.findIn K (.ref C) n = some none ∧
  d = some dd ∧ H1 dd = some (.xd fs) ∧ fs.lookup n = some v ∧ Q v H1
theorem pe_xfA (hz : Zc cls d oe) (hf : ∃ vs, oe.data = .fields vs) (he : PE (X.suite a ((a, oe) :: pn)) e te) (hb : attributeBase e n X.env (eval e X.env) = eval e X.env := by rfl) :
    PE (X.suite a ((a, oe) :: pn)) (.Attribute e n pos) (tXfA X.K a cls d n te) := by
  refine ⟨fun pins s σ H Q I h => attr_of hb (thn (he.run pins s σ H _ I h) fun u s1 hh => ?_)⟩
  obtain ⟨x, H1, I1, rx, rfl, C, dd, fs, v, rfl, T, hno, rfl, ea, l, q⟩ := hh
  obtain rfl : u = Value.ref a := rx
  obtain ⟨vs, hd⟩ := hf
  obtain ⟨mA, hns, hr⟩ := (show ObjOk X.prog X.w H1 s1.heap dd (.xd fs) from I1.hok dd _ ea)
  obtain ⟨od, ho, hl⟩ := lookIn_ns hns
  obtain ⟨u', hu, ru⟩ := RelO.some_of (v := v) (o := mA n) (by rw [← l]; exact hr n)
  have J : PySem.W.InstAt s1.heap a oe C (some od) := ⟨(I1.pin (a, oe) (List.mem_append_left _ List.mem_cons_self)).1, hz.1, by unfold PySem.W.notCls; rw [hd], by rw [hz.2]; exact ho⟩
  exact HandSPX.exc_get I1.kIn J T.ga T.gg T.exC (PySem.W.findObj_own T.hdC hno rfl (by rw [hl, hu])) (handed_of ru) ⟨v, H1, I1.tok _, ru, q⟩
/-- isinstance(e, c) -/
def rIsX (K : PySem.W.Frag) (a : Addr) (cls : Value) (d : Option Addr) : List V → Hp → VK → Prop := fun xs H Q => ∃ (D dd : Addr) (fs : List (Str × V)) (c : V) (cv : Value) (b : Bool), cls = .ref D ∧ ExcC K D ∧ d = some dd ∧ H dd = some (.xd fs) ∧ xs = [.ref a, c] ∧
  (∀ u, RelV c u → u = cv) ∧ PySem.W.kitOne K (.ref D) cv = some b ∧ Q (.bl b) H
theorem call_isX (hz : Zc cls d oe) (hf : ∃ vs, oe.data = .fields vs) : CallR (X.suite a ((a, oe) :: pn)) (.builtin "isinstance") (rIsX X.K a cls d) := by
  intro pins s σ H xs us Q I r h
  obtain ⟨D, dd, fs, c, cv, b, rfl, C, rfl, hdd, rfl, hcv, e, q⟩ := h
  obtain ⟨u1, u2, rfl, r1, r2⟩ := vals2 r
  have e1 : u1 = .ref a := r1
  have e2 := hcv _ r2
  subst e1 e2
  obtain ⟨vs, hv⟩ := hf
  obtain ⟨mA, hns, hr⟩ := (show ObjOk X.prog X.w H s.heap dd (.xd fs) from I.hok dd _ hdd)
  obtain ⟨od, ho, _⟩ := lookIn_ns hns
  have J : PySem.W.InstAt s.heap a oe D (some od) := ⟨(I.pin (a, oe) (List.mem_append.mpr (.inl List.mem_cons_self))).1, hz.1, by unfold PySem.W.notCls; rw [hv], by rw [hz.2]; exact ho⟩
  have hcl : (PySem.W.clsIn X.K D).isSome = true := by obtain ⟨cd, hc, _⟩ := PySem.W.any_some C.hd; rw [hc]; rfl
  exact PySem.W.kia_one (PySem.W.kitx_exc hcl C.hg C.hk C.hs C.ha C.hn C.ht C.hm) I.kIn J e (fun z => nomatch z) fun tk => ⟨.bl b, H, I.kept (t' := tk) fun _ _ z => z, rfl, q⟩
end
/-! ### facts of classes -/
theorem kit_own {K : PySem.W.Frag} {D C : Addr} {b : Bool} (h1 : PySem.W.isClsIn K C = true) (h2 : PySem.W.typeIn K (.ref C) = some (.type "type")) (h3 : PySem.W.subIn K (.ref D) (.ref C) = some b) (h4 : PySem.W.subIn K (.ref C) (.ref C) = some true) : PySem.W.kitOne K (.ref D) (.ref C) = some b := by
  unfold PySem.W.kitOne PySem.W.kitCls
  by_cases e : D = C
  · subst e
    rw [h3] at h4
    cases h4
    simp
  · have e1 : ((Value.ref D) == (Value.ref C)) = false := by simpa using e
    have e2 : ((PySem.W.clsIn K C).isSome && PySem.W.typeIn K (.ref C) == some (.type "type")) = true := by
      have h1' : (PySem.W.clsIn K C).isSome = true := h1
      rw [h1', h2]; rfl
    rw [e1]
    dsimp only
    rw [e2]
    simpa using h3
theorem kit_bi {K : PySem.W.Frag} {D : Addr} {T : String} {b : Bool} (h1 : PySem.W.kitMeta T = true) (h3 : PySem.W.subIn K (.ref D) (.type T) = some b) : PySem.W.kitOne K (.ref D) (.type T) = some b := by
  unfold PySem.W.kitOne PySem.W.kitCls
  have e1 : ((Value.ref D) == (Value.type T)) = false := by simp
  rw [e1]
  dsimp only
  rw [h1]
  simpa using h3
theorem exm_own {K : PySem.W.Frag} {D C : Addr} {b : Bool} (h1 : PySem.W.isClsIn K C = true) (h2 : PySem.W.typeIn K (.ref C) = some (.type "type")) (h3 : PySem.W.subIn K (.ref D) (.ref C) = some b) (h5 : PySem.W.subIn K (.ref C) (.type "BaseException") = some true) : PySem.W.exmOne K (.ref D) (.ref C) = some b := by
  unfold PySem.W.exmOne PySem.W.kitCls
  have e2 : ((PySem.W.clsIn K C).isSome && PySem.W.typeIn K (.ref C) == some (.type "type")) = true := by
    have h1' : (PySem.W.clsIn K C).isSome = true := h1
    rw [h1', h2]; rfl
  dsimp only
  rw [h5, e2]
  simpa using h3
/-- super() within C's methods finds what the base finds -/
theorem sup_of {K : PySem.W.Frag} {C B : Addr} {nm q nm' q' : Str} {N N' : Addr} {bs bm bs' sn sn' : List _} {hd hd' : Bool} {sub sub' : List Value} {ab ab' : Bool} {col col' : Option Bool} {dd dd' : Option Addr} {k0 k1 k2 k3 k5 k0' k1' k2' k3' k5' : Option Value} {newId newId' : String} {name : Str} {r : Option (Option Value)}
    (hC : K.lookup C = some (excClassObj nm q C N bs (.ref B :: bm) hd sn sub ab col dd k0 k1 k2 k3 k5 newId)) (hB : K.lookup B = some (excClassObj nm' q' B N' bs' bm hd' sn' sub' ab' col' dd' k0' k1' k2' k3' k5' newId'))
    (hf : PySem.W.findIn K (.ref B) name = r) : PySem.W.ks_superIn K C C name = r := by
  unfold PySem.W.ks_superIn
  have hc : PySem.W.clsIn K C = some { name := nm, bases := bs, mro := .ref C :: .ref B :: bm, ns := N, qualname := q, hasDict := hd, slotNames := sn, subclasses := sub, abstract := ab, collection := col, hasDel := false } := by
    unfold PySem.W.clsIn; rw [hC]
  rw [hc]
  unfold PySem.W.findIn at hf
  dsimp only at hf
  rw [hB] at hf
  show PySem.W.alongIn K name (((Value.ref C :: .ref B :: bm).dropWhile (· != .ref C)).drop 1) = r
  rw [show ((Value.ref C :: .ref B :: bm).dropWhile (· != .ref C)).drop 1 = .ref B :: bm by simp]
  exact hf
end G
namespace G
open PySem PySem.Spec PyProof.Rows L2
/-- the address of the module's class x -/
def clsA (K : PySem.W.Frag) (x : Str) : Addr := match PySem.W.nsIn K mainGlobals x with
  | some (some (.ref c)) => c
  | _ => 0
theorem clsA_of {K : PySem.W.Frag} {x : Str} {c : Addr} (h : PySem.W.nsIn K mainGlobals x = some (some (.ref c))) : clsA K x = c := by unfold clsA; rw [h]
/-- an exception class of the family -/
structure ExF (K : PySem.W.Frag) (mg : Str → Option Value) (x : Str) : Prop where
  g : mg x = some (.ref (clsA K x))
  xf : XfC K (clsA K x)
  exc : ExcC K (clsA K x)
  isC : PySem.W.isClsIn K (clsA K x) = true
  ty : PySem.W.typeIn K (.ref (clsA K x)) = some (.type "type")
  bus : PySem.W.subIn K (.ref (clsA K x)) (.ref (clsA K "BusError")) = some true
  val : PySem.W.subIn K (.ref (clsA K x)) (.type "ValueError") = some true
  slf : PySem.W.subIn K (.ref (clsA K x)) (.ref (clsA K x)) = some true
theorem ExF.exm {K : PySem.W.Frag} {mg : Str → Option Value} {x : Str} (T : ExF K mg x) (B : ExF K mg "BusError") : PySem.W.exmOne K (.ref (clsA K x)) (.ref (clsA K "BusError")) = some true := exm_own B.isC B.ty T.bus B.exc.hs
theorem ExF.kit {K : PySem.W.Frag} {mg : Str → Option Value} {x y : Str} {b : Bool} (Y : ExF K mg y) (h : PySem.W.subIn K (.ref (clsA K x)) (.ref (clsA K y)) = some b) : PySem.W.kitOne K (.ref (clsA K x)) (.ref (clsA K y)) = some b := kit_own Y.isC Y.ty h Y.slf
theorem ExF.kitS {K : PySem.W.Frag} {mg : Str → Option Value} {x : Str} (T : ExF K mg x) : PySem.W.kitOne K (.ref (clsA K x)) (.ref (clsA K x)) = some true := T.kit T.slf
theorem ExF.kitV {K : PySem.W.Frag} {mg : Str → Option Value} {x : Str} (T : ExF K mg x) : PySem.W.kitOne K (.ref (clsA K x)) (.type "ValueError") = some true := kit_bi (by decide +kernel) T.val
/-- a class that may be raised, its __init__ keeping sp -/
structure ExD (P : Program) (w : World) (K : PySem.W.Frag) (mg : Str → Option Value) (base : Heap) (x : Str) (k : Nat) (sp : Sp) : Prop where
  oex : OexC K (clsA K x)
  g : mg x = some (.ref (clsA K x))
  ini : ∃ (fI : Addr) (fd : FuncData) (ps : List Str), PySem.W.findIn K (.ref (clsA K x)) "__init__" = some (some (.ref fI)) ∧ PySem.W.typeIn K (.ref fI) = some (.type "function") ∧ FnOk P w K mg base CX0 k fI fd ps sp ∧ Binds K fd ps []
section
variable {X : Cx} {k : Nat} {x : Str} {ps : List Str} {sp : Sp} {e : Expr} {es : List Expr} {ta : TA} {p pos : Pos}
theorem pmk_D (D : ExD X.prog X.w X.K X.mg X.base x k sp) (hr : Room (k + 1) X.A) (ha : PA X (e :: es) ta) (hg : Gl X x := by rfl)
    (hdb : (x == ("__debug__" : Str)) = false := by decide) (he : starEach (e :: es) X.env = (false, eval e X.env) :: starEach es X.env := by rfl) (hpl : (backTo pos (starEach es X.env)).any (·.1) = false := by rfl) :
    PMk X (.Call (.Name x p) (e :: es) [] pos) (tMkO (clsA X.K x) sp [] ta) := by
  obtain ⟨fI, fd, ps, iC, tI, F, b⟩ := D.ini
  exact pmk_oex D.oex iC tI F hr b .nil pass0 hg D.g ha hdb he hpl
theorem pe_callDS {CX : CXT} {E : L2.St → XK} (D : Dn X.prog X.w X.K X.mg X.base CX x k ps sp) (hr : Room k X.A) (hx : ∀ σ, PassesAt CX X σ (E σ)) (ha : PA X (e :: es) ta) (hg : Gl X x := by rfl)
    (hdb : (x == ("__debug__" : Str)) = false := by decide) (he : starEach (e :: es) X.env = (false, eval e X.env) :: starEach es X.env := by rfl) (hpl : (backTo pos (starEach es X.env)).any (·.1) = false := by rfl) :
    PE X (.Call (.Name x p) (e :: es) [] pos) (tCallS sp E ta) := by
  obtain ⟨f, fd, F, hm, hk, hb⟩ := D.ex
  exact pe_callS F hr hg hm hk hb hx ha hdb he hpl
end
section
variable {P : Program} {w : World} {K : PySem.W.Frag} {mg : Str → Option Value} {base : Heap}
theorem dn_ofX {x : Str} {st : Stmt} {N ps : List Str} {k : Nat} {sp : Sp} (g : Fg K mg x st) (S : FnScope N ps (defScope st)) (len : ∀ vs H Q E, sp vs H Q E → vs.length = ps.length)
    (hb : ∀ (kV doc pm : Value) (an : Option Addr) (cdv ct : Value) (us : List Value), us.length = ps.length → bindArgs (PySem.W.fnOf x x (defArgs st) (defBody st) (defScope st) .none kV doc pm an cdv ct) ⟨us, []⟩ = pure (ps.zip us))
    (hbody : ∀ (f : Addr) (cdv : Value) (A : Around) (outer : List Env) (s : Shared) (H : Hp) (vs : List V) (Q : VK) (E : XK), Room k (A.deeper (envOfC x (defScope st) s.heap.objs.size f cdv)) → sp vs H Q E →
      ∃ t, PSs (cxOf (L2.CX P w) P w K mg base N x (defScope st) f cdv A outer s H E) (defBody st) t ∧ t { nx := fun _ H' => Q .non H', rt := Q } (L2.start N vs) H) :
    Dn P w K mg base (L2.CX P w) x (k + 1) ps sp := by
  obtain ⟨f, fd, F, hm⟩ := g.ex
  exact ⟨f, fd, F.okX S len (hbody f), hm, F.kp, F.binds hb⟩
end
def okTM (v w : V) : Prop := ∃ (s : Str) (n : Int), v = .str s ∧ w = .int n ∧ s.length ≤ 10000 ∧ n.natAbs.log2 < 1920
def okII (v w : V) : Prop := ∃ (m n : Int), v = .int m ∧ w = .int n ∧ m.natAbs.log2 < 1920 ∧ n.natAbs.log2 < 1920
theorem log2_small {n : Nat} (h : n < 2 ^ 1000) : ((n : Int)).natAbs.log2 < 1920 := by
  rw [Int.natAbs_natCast]
  by_cases h0 : n = 0
  · subst h0; decide
  · have := (Nat.log2_lt h0).mpr h
    omega
end G

namespace Lw
open PySem PySem.Spec PyProof.Rows L2 G
def topS (i : Nat) : Stmt := PySem.Challenge.pw_fewturnatonce_k13_sets_and_numbers.main.body.getD i (.Pass ⟨0, 0, 0, 0⟩)
structure Mg (mg : Str → Option Value) : Prop where
  ValueError : mg "ValueError" = none
  bool : mg "bool" = none
  enumerate : mg "enumerate" = none
  int : mg "int" = none
  isinstance : mg "isinstance" = none
  len : mg "len" = none
  list : mg "list" = none
  min : mg "min" = none
  range : mg "range" = none
  sorted : mg "sorted" = none
  str : mg "str" = none
  sum : mg "sum" = none
  tuple : mg "tuple" = none
  comb : mg "comb" = some (.builtin "math.comb")
structure Cg (K : PySem.W.Frag) (mg : Str → Option Value) : Prop where
  e_BusError : ExF K mg "BusError"
  e_BadWord : ExF K mg "BadWord"
  e_TooMany : ExF K mg "TooMany"
  no_TooMany_BadWord : PySem.W.subIn K (.ref (clsA K "TooMany")) (.ref (clsA K "BadWord")) = some false
  no_TooMany_what : PySem.W.findIn K (.ref (clsA K "TooMany")) "what" = some none
  no_TooMany_limit : PySem.W.findIn K (.ref (clsA K "TooMany")) "limit" = some none
  c_SUBSET_WIRES : ∃ t : Tok, mg "SUBSET_WIRES" = some (.int 12 t)
end Lw
namespace Lw
open PySem PySem.Spec PyProof.Rows L2 G
section
variable {P : Program} {w : World} {K : PySem.W.Frag} {mg : Str → Option Value} {base : Heap}
abbrev s_TooMany : Stmt := inClass (topS 4) 0
theorem sc_TooMany : SupScope ["self", "what", "limit"] ["self", "what", "limit"] (defScope s_TooMany) := ⟨rfl, rfl, rfl, by decide +kernel, rfl, by decide +kernel, by decide +kernel, by decide +kernel, rfl, rfl⟩
theorem xd_TooMany (M : Mg mg) {fI : Addr} {fd : FuncData} (gx : mg "TooMany" = some (.ref (clsA K "TooMany"))) (T : ExI P K mg (clsA K "TooMany") s_TooMany "TooMany.__init__" fI fd) (h_what : PySem.W.findIn K (.ref (clsA K "TooMany")) "what" = some none) (h_limit : PySem.W.findIn K (.ref (clsA K "TooMany")) "limit" = some none) : ExD P w K mg base "TooMany" 1 (spI2 (clsA K "TooMany") "what" "limit" okTM) := by
  refine ⟨T.oex, gx, fI, fd, ["self", "what", "limit"], T.iC, T.tI, fn_super T sc_TooMany rfl rfl rfl rfl (fun vs H Q E h => by unfold spI2 at h; (repeat (obtain ⟨_, h⟩ := h)); subst_vars; rfl) (fun cda cc A outer s H vs Q E hr h => ?_), ?_⟩
  · obtain ⟨a, v, w', rfl, hok, ha, q⟩ := h
    have nd := sc_TooMany.nd
    obtain ⟨s1, n, rfl, rfl, hl1, hl2⟩ := hok
    refine ⟨_, _, a, pa_cons (pe_op op_add_str (pe_op op_add_str (pe_op op_add_str pe_str (pe_callTy call_str_int (by rfl) M.str (by decide +kernel) (pa_cons (pv 2) pa_nil))) pe_str) (pv 1)) pa_nil, pss_cons (ps_ost (pv 0) (pv 1)) (pss_one (ps_ost (pv 0) (pv 2))), rfl, ha, ?_⟩
    have hn := len_toString hl2
    refine ⟨_, rfl, n, rfl, hl2, _, _, rfl, rfl, ?_, _, _, rfl, rfl, ?_, _, rfl, _, _, rfl, rfl, ?_, by simp, ha, ?_⟩
    · rw [sizeLine_eq]; exact Nat.le_trans (Nat.add_le_add (show _ ≤ 1000 by decide +kernel) hn) (by decide)
    · rw [sizeLine_eq, len_app]; exact Nat.le_trans (Nat.add_le_add (Nat.add_le_add (show _ ≤ 1000 by decide +kernel) hn) (show _ ≤ 1000 by decide +kernel)) (by decide)
    · rw [sizeLine_eq, len_app, len_app]; exact Nat.le_trans (Nat.add_le_add (Nat.add_le_add (Nat.add_le_add (show _ ≤ 1000 by decide +kernel) hn) (show _ ≤ 1000 by decide +kernel)) hl1) (by decide)
    · refine ⟨_, rfl, _, rfl, a, _, rfl, T.oex, h_what, .inl ⟨ha, fun dx hd hne => ?_⟩⟩
      refine ⟨_, rfl, _, rfl, a, _, rfl, T.oex, h_limit, .inr ⟨dx, _, upd_same, ?_, by simp, q dx hd hne⟩⟩
      rw [upd_ne hne, upd_same]
  · obtain ⟨oc, od, kV, doc, pm, an, cda, cc, ct, osl, rfl, _⟩ := T.fn
    exact Binds.all fun us hl => match us, hl with | [_, _, _], _ => rfl
def sp_size_of (_K : PySem.W.Frag) : Sp := fun vs H Q _ => ∃ (m : Nat), vs = [.int m] ∧ Q (.int (popc m : Nat)) H
abbrev s_size_of : Stmt := topS 7
theorem sc_size_of : FnScope ["mask", "count"] ["mask"] (defScope s_size_of) := ⟨rfl, rfl, rfl, by decide +kernel, rfl, by decide +kernel, by decide +kernel⟩
/-- slots: 0 mask 1 count -/
theorem dn_size_of (M : Mg mg) (C : Cg K mg) (g : Fg K mg "size_of" s_size_of) : Dn P w K mg base CX0 "size_of" 1 ["mask"] (sp_size_of K) := by
  refine dn_of g sc_size_of (fun vs H Q E h => by unfold sp_size_of at h; (repeat (obtain ⟨_, h⟩ := h)); subst_vars; rfl) (fun _ _ _ _ _ _ us hl => match us, hl with | [_], _ => rfl) (fun f cdv A outer s H vs Q E hr h => ?_)
  obtain ⟨m, rfl, q⟩ := h
  have nd := sc_size_of.nd
  refine ⟨_, (pss_cons (ps_set (i := 1) nd rfl (by first | exact Or.inl rfl | exact Or.inr rfl) pe_int)
    (pss_cons (ps_while PassesOwn.never (G.pt_truthK K (pv 0) (by intro _; rfl)) (pss_cons (ps_set (i := 0) nd rfl (by first | exact Or.inl rfl | exact Or.inr rfl) (pe_op G.op_andN (pv 0) (pe_op op_subN (pv 0) pe_int)))
    (pss_one (ps_aug (i := 1) nd rfl (by first | exact Or.inl rfl | exact Or.inr rfl) pe_int ip_add))))
    (pss_one (ps_ret (pv 1))))), ?_⟩
  refine ⟨fun j σ H' => H' = H ∧ ∃ m' c : Nat, σ = [some (.int m'), some (.int c)] ∧ popc m' + c = popc m ∧ j = m', ⟨m, rfl, m, 0, rfl, by omega, rfl⟩, ?_⟩
  rintro j σ H' ⟨rfl, m', c, rfl, hc, rfl⟩
  refine ⟨_, rfl, _, rfl, ite2 (fun e => ?_) (fun e => ?_)⟩
  · have h0 : j ≠ 0 := by simpa using e
    refine ⟨fun σ2 H2 => H2 = H' ∧ σ2 = [some (.int ((j &&& (j - 1) : Nat) : Int)), some (.int ((c + 1 : Nat) : Int))], ?_, ?_⟩
    · rintro σ2 H2 ⟨rfl, rfl⟩
      have h1 := popc_low j h0
      have h2 : j &&& (j - 1) ≤ j - 1 := Nat.and_le_right
      exact ⟨j &&& (j - 1), by omega, rfl, _, _, rfl, by omega, rfl⟩
    · exact ⟨_, rfl, _, rfl, j, 1, rfl, rfl, by omega, j, j - 1, rfl, rfl, _, rfl, _, _, rfl, rfl, rfl, rfl⟩
  · have h0 : j = 0 := by simpa using e
    subst h0
    rw [popc_zero] at hc
    refine ⟨_, rfl, ?_⟩
    rw [← hc, Nat.zero_add] at q
    exact q
def sp_wires_of (_K : PySem.W.Frag) : Sp := fun vs H Q _ => ∃ (m : Nat), vs = [.int m] ∧ m < 2 ^ 100000 ∧ ∀ (H' : Hp) (p : Addr), Same H H' → H p = none → H' p = some (.lst (nv (wl m))) → Q (.ref p) H'
abbrev s_wires_of : Stmt := topS 8
theorem sc_wires_of : FnScope ["mask", "wire"] ["mask"] (defScope s_wires_of) := ⟨rfl, rfl, rfl, by decide +kernel, rfl, by decide +kernel, by decide +kernel⟩
/-- slots: 0 mask 1 wire -/
theorem dn_wires_of (M : Mg mg) (C : Cg K mg) (g : Fg K mg "wires_of" s_wires_of) : Dn P w K mg base CX0 "wires_of" 1 ["mask"] (sp_wires_of K) := by
  refine dn_of g sc_wires_of (fun vs H Q E h => by unfold sp_wires_of at h; (repeat (obtain ⟨_, h⟩ := h)); subst_vars; rfl) (fun _ _ _ _ _ _ us hl => match us, hl with | [_], _ => rfl) (fun f cdv A outer s H vs Q E hr h => ?_)
  obtain ⟨m, rfl, hm, q⟩ := h
  have nd := sc_wires_of.nd
  refine ⟨_, (pss_one (ps_ret (pe_lc (own := [("wire", 1)]) (g := (gName 1)) rfl nd (pi_range1 rfl M.range (pa_cons (pe_bits (pv 0)) pa_nil)) (blkOk_by (by kernel_rfl)) (fun _ _ _ _ _ => (pg_name (i := 1) nd rfl (by first | exact Or.inl rfl | exact Or.inr rfl))) (fun _ _ _ _ _ => (pts_one (G.pt_truthK K (pe_op G.op_andN (pe_op G.op_shrM (pv 0) (pv 1)) pe_int) (by intro _; rfl)))) (fun _ _ _ _ _ => (pv 1))))), ?_⟩
  have hb := bl_le hm
  refine ⟨_, rfl, m, rfl, _, rfl, by omega, by show ((bl m : Nat) : Int) < _; omega, fun D nD => lc_range (lo := 0) (n := ((bl m : Nat) : Int).toNat) (fun i H' => Same H H' ∧ H' D = some (.lst (nv (bitsL i m)))) ⟨same_new nD, upd_same⟩ ?_ ?_⟩
  · rintro i H' hi ⟨sm, hD⟩
    refine ⟨rfl, _, rfl, _, rfl, m, i, rfl, congrArg V.int (Int.zero_add _), _, 1, rfl, rfl, _, rfl, ?_⟩
    rw [bit_true]
    refine ite2 (fun e => ?_) (fun e => ?_)
    · refine ⟨_, rfl, _, hD, szl (by rw [nv_len]; have := bitsL_len_le i m; omega), Same.mut sm nD, ?_⟩
      rw [upd_same, bitsL_yes e, nv_app, Int.zero_add]; rfl
    · exact ⟨sm, by rw [bitsL_no (by simpa using e)]; exact hD⟩
  · rintro H' ⟨sm, hD⟩
    exact q H' D sm nD hD
/-- mask_of(wires), wires a list -/
def sp_mask_of (K : PySem.W.Frag) : Sp := fun vs H Q _ => ∃ (a : Addr) (l : List Nat), vs = [.ref a] ∧ SqL K H a (nv l) ∧ (∀ w ∈ l, w ≤ 1000000) ∧ Q (.int (maskL l : Nat)) H
abbrev s_mask_of : Stmt := topS 9
theorem sc_mask_of : FnScope ["wires", "mask", "wire"] ["wires"] (defScope s_mask_of) := ⟨rfl, rfl, rfl, by decide +kernel, rfl, by decide +kernel, by decide +kernel⟩
/-- slots: 0 wires 1 mask 2 wire -/
theorem dn_mask_of (M : Mg mg) (C : Cg K mg) (g : Fg K mg "mask_of" s_mask_of) : Dn P w K mg base CX0 "mask_of" 1 ["wires"] (sp_mask_of K) := by
  refine dn_of g sc_mask_of (fun vs H Q E h => by unfold sp_mask_of at h; (repeat (obtain ⟨_, h⟩ := h)); subst_vars; rfl) (fun _ _ _ _ _ _ us hl => match us, hl with | [_], _ => rfl) (fun f cdv A outer s H vs Q E hr h => ?_)
  obtain ⟨a, l, rfl, hS, hw, q⟩ := h
  have nd := sc_mask_of.nd
  refine ⟨_, (pss_cons (ps_set (i := 1) nd rfl (by first | exact Or.inl rfl | exact Or.inr rfl) pe_int)
    (pss_cons (ps_for PassesOwn.never rfl (G.pi_listK K (pv 0)) (pg_name (i := 2) nd rfl (by first | exact Or.inl rfl | exact Or.inr rfl)) (pss_one (ps_set (i := 1) nd rfl (by first | exact Or.inl rfl | exact Or.inr rfl) (pe_op G.op_orN (pv 1) (pe_op G.op_shlM pe_int (pv 2))))))
    (pss_one (ps_ret (pv 1))))), ?_⟩
  refine ⟨_, rfl, a, rfl, ⟨_, hS⟩, for_list (xs := nv l) (fun i σ H' => H' = H ∧ ∃ v, σ = [some (.ref a), some (.int (maskL (l.take i) : Nat)), v]) ⟨rfl, none, rfl⟩ (fun i σ H' _ ⟨h, _⟩ => h ▸ hS) ?_ ?_⟩
  · rintro i x σ H' hx ⟨rfl, v, rfl⟩
    obtain ⟨n, hn, rfl⟩ := nv_at hx
    refine ⟨_, rfl, _, rfl, 1, n, rfl, rfl, ⟨hw n (List.mem_of_getElem? hn), by decide⟩, maskL (l.take i), 1 <<< n, rfl, rfl, rfl, some (.int n), ?_⟩
    rw [take_more hn, maskL_snoc]
    rfl
  · rintro σ H' ⟨rfl, v, rfl⟩
    rw [nv_len, List.take_length]
    exact ⟨_, rfl, q⟩
def sp_contains (_K : PySem.W.Frag) : Sp := fun vs H Q _ => ∃ (n m : Nat), vs = [.int n, .int m] ∧ Q (.bl (decide (n &&& m = m))) H
abbrev s_contains : Stmt := topS 10
theorem sc_contains : FnScope ["outer", "inner"] ["outer", "inner"] (defScope s_contains) := ⟨rfl, rfl, rfl, by decide +kernel, rfl, by decide +kernel, by decide +kernel⟩
/-- slots: 0 outer 1 inner -/
theorem dn_contains (M : Mg mg) (C : Cg K mg) (g : Fg K mg "contains" s_contains) : Dn P w K mg base CX0 "contains" 1 ["outer", "inner"] (sp_contains K) := by
  refine dn_of g sc_contains (fun vs H Q E h => by unfold sp_contains at h; (repeat (obtain ⟨_, h⟩ := h)); subst_vars; rfl) (fun _ _ _ _ _ _ us hl => match us, hl with | [_, _], _ => rfl) (fun f cdv A outer s H vs Q E hr h => ?_)
  obtain ⟨n, m, rfl, q⟩ := h
  have nd := sc_contains.nd
  refine ⟨_, (pss_one (ps_ret (pe_cmpR op_eq (pe_op G.op_andN (pv 0) (pv 1)) (pv 1) (nomark _)))), ?_⟩
  refine ⟨_, rfl, _, rfl, n, m, rfl, rfl, _, rfl, rfl, ?_⟩
  have e : decide (V.int ((n &&& m : Nat) : Int) = V.int (m : Int)) = decide (n &&& m = m) := by
    refine decide_eq_decide.mpr ⟨fun h => ?_, fun h => by rw [h]⟩
    have := V.int.inj h
    omega
  show Q (.bl (decide (V.int ((n &&& m : Nat) : Int) = V.int (m : Int)))) H
  rw [e]
  exact q
/-- all unions of some of the listed single wires, in the order of the program -/
def subsL (ws : List Nat) : List Nat := ws.foldl (fun acc w => acc ++ acc.map fun p => p ||| 1 <<< w) [0]
theorem subsL_snoc (ws : List Nat) (w : Nat) : subsL (ws ++ [w]) = subsL ws ++ (subsL ws).map fun p => p ||| 1 <<< w := by unfold subsL; rw [List.foldl_append]; rfl
theorem subsL_len (ws : List Nat) : (subsL ws).length = 2 ^ ws.length := by
  have : ∀ n, ∀ l : List Nat, l.length = n → (subsL l).length = 2 ^ n := by
    intro n
    induction n with
    | zero => intro l hl; have : l = [] := List.length_eq_zero_iff.mp hl; subst this; rfl
    | succ n ih =>
      intro l hl
      have hne : l ≠ [] := fun z => by subst z; simp at hl
      rw [← List.dropLast_concat_getLast hne, subsL_snoc, List.length_append, List.length_map, ih l.dropLast (by rw [List.length_dropLast]; omega), Nat.pow_succ]; omega
  exact this _ ws rfl
def xdMany (what : Str) (n : Int) : HO := .xd [("limit", .int n), ("what", .str what)]
def sp_subsets_of (K : PySem.W.Frag) : Sp := fun vs H Q E => ∃ (m : Nat), vs = [.int m] ∧ m < 2 ^ 100000 ∧ (12 < popc m → ∀ d, H d = none → E (.ref (clsA K "TooMany")) (some d) (upd H d (xdMany "wires" 12))) ∧
  (popc m ≤ 12 → ∀ (H' : Hp) (p : Addr), Same H H' → H p = none → H' p = some (.lst (nv (subsL (wl m)))) → Q (.ref p) H')
abbrev s_subsets_of : Stmt := topS 11
theorem sc_subsets_of : FnScope ["mask", "found", "wire", "part"] ["mask"] (defScope s_subsets_of) := ⟨rfl, rfl, rfl, by decide +kernel, rfl, by decide +kernel, by decide +kernel⟩
/-- slots: 0 mask 1 found 2 wire 3 part -/
theorem dn_subsets_of (M : Mg mg) (C : Cg K mg) (g : Fg K mg "subsets_of" s_subsets_of) (D_wires_of : Dn P w K mg base CX0 "wires_of" 1 ["mask"] (sp_wires_of K)) (D_size_of : Dn P w K mg base CX0 "size_of" 1 ["mask"] (sp_size_of K)) (X_TooMany : ExD P w K mg base "TooMany" 1 (spI2 (clsA K "TooMany") "what" "limit" okTM)) : Dn P w K mg base (L2.CX P w) "subsets_of" 3 ["mask"] (sp_subsets_of K) := by
  refine dn_ofX g sc_subsets_of (fun vs H Q E h => by unfold sp_subsets_of at h; (repeat (obtain ⟨_, h⟩ := h)); subst_vars; rfl) (fun _ _ _ _ _ _ us hl => match us, hl with | [_], _ => rfl) (fun f cdv A outer s H vs Q E hr h => ?_)
  obtain ⟨m, rfl, hm, e, q⟩ := h
  have nd := sc_subsets_of.nd
  obtain ⟨u_SUBSET_WIRES, c_SUBSET_WIRES⟩ := C.c_SUBSET_WIRES
  refine ⟨_, (pss_cons (ps_if (pt_cmpR op_gt (G.pe_callD D_size_of (hr.mono (by decide)) pass0 (pa_cons (pv 0) pa_nil)) (pe_glob (v := .int 12) rfl c_SUBSET_WIRES ⟨_, rfl⟩) (nomark _)) (pss_one (ps_raise rfl (takes_of rfl rfl rfl rfl) (G.pmk_D X_TooMany (hr.mono (by decide)) (pa_cons pe_str (pa_cons (pe_glob (v := .int 12) rfl c_SUBSET_WIRES ⟨_, rfl⟩) pa_nil))))) pss_nil)
    (pss_cons (ps_set (i := 1) nd rfl (by first | exact Or.inl rfl | exact Or.inr rfl) (pe_lst (pa_cons pe_int pa_nil)))
    (pss_cons (ps_for (passes_of rfl) rfl (G.pi_listK K (G.pe_callD D_wires_of (hr.mono (by decide)) pass0 (pa_cons (pv 0) pa_nil))) (pg_name (i := 2) nd rfl (by first | exact Or.inl rfl | exact Or.inr rfl)) (pss_one (ps_set (i := 1) nd rfl (by first | exact Or.inl rfl | exact Or.inr rfl) (pe_op op_cat (pv 1) (pe_lc (own := [("part", 3)]) (g := (gName 3)) (tt := tYes) rfl nd (G.pi_listK K (pv 1)) (blkOk_by (by kernel_rfl)) (fun _ _ _ _ _ => (pg_name (i := 3) nd rfl (by first | exact Or.inl rfl | exact Or.inr rfl))) (fun _ _ _ _ _ => pts_nil) (fun _ _ _ _ _ => (pe_op G.op_orN (pv 3) (pe_op G.op_shlM pe_int (pv 2)))))))))
    (pss_one (ps_ret (pv 1)))))), ?_⟩
  refine ⟨_, rfl, m, rfl, _, _, rfl, rfl, _, rfl, ite2d (fun c => ?_) (fun c => ?_)⟩
  · exact raise2 ⟨"wires", 12, rfl, rfl, by decide +kernel, by decide⟩ fun d hd => e (by omega) d hd
  have hp : popc m ≤ 12 := by omega
  have hl : (wl m).length ≤ 12 := by rw [wl_len]; exact hp
  refine ⟨sz (by simp), fun o no => ?_⟩
  have s1 : Same H (upd H o (.lst [.int 0])) := same_new no
  refine ⟨_, rfl, m, rfl, hm, fun H1 a sm na ha => ?_⟩
  have oo : H1 o = some (.lst (nv (subsL ((wl m).take 0)))) := sm _ _ upd_same
  refine ⟨a, rfl, ⟨_, sq_lst ha⟩, for_list (xs := nv (wl m)) (fun i σ H' => Same H1 H' ∧ ∃ o v1 v3, H o = none ∧ H' o = some (.lst (nv (subsL ((wl m).take i)))) ∧ σ = [some (.int m), some (.ref o), v1, v3]) ⟨Same.refl _, o, none, none, no, oo, rfl⟩ (fun i σ H' _ ⟨s, _⟩ => sq_lst (s _ _ ha)) ?_ ?_⟩
  · rintro i x σ H' hx ⟨s2, o, v1, v3, no', ho, rfl⟩
    obtain ⟨n, hn, rfl⟩ := nv_at hx
    have hi : i < (wl m).length := (List.getElem?_eq_some_iff.mp hn).1
    have hsz : (subsL ((wl m).take i)).length ≤ 4096 := by
      rw [subsL_len, List.length_take]
      exact Nat.le_trans (Nat.pow_le_pow_right (by decide) (by omega : _ ≤ 12)) (by decide)
    refine ⟨_, rfl, _, rfl, o, rfl, ⟨_, sq_lst ho⟩, fun D nD => lc_list (K := K) (a := o) (xs := nv (subsL ((wl m).take i))) (fun j H2 => Same H' H2 ∧ H2 D = some (.lst (nv (((subsL ((wl m).take i)).take j).map fun p => p ||| 1 <<< n)))) ⟨same_new nD, upd_same⟩ (fun j H2 _ ⟨s3, _⟩ => sq_lst (s3 _ _ ho)) ?_ ?_⟩
    · rintro j y H2 hy ⟨s3, hD⟩
      obtain ⟨p, hp, rfl⟩ := nv_at hy
      refine ⟨rfl, _, rfl, _, rfl, 1, n, rfl, rfl, ⟨?_, by decide⟩, p, 1 <<< n, rfl, rfl, _, hD, szl (by rw [nv_len, List.length_map, List.length_take]; omega), Same.mut s3 nD, ?_⟩
      · have h1 : m.testBit n = true := mem_wl.mp (List.mem_of_getElem? hn)
        have h2 := bl_le hm
        have h3 : n < bl m := by
          have := List.mem_of_getElem? hn
          unfold wl at this
          exact (mem_bitsL.mp this).1
        omega
      · rw [upd_same, take_more hp, List.map_append, nv_app]; rfl
    · rintro H2 ⟨s3, hD⟩
      rw [nv_len, List.take_length] at hD
      refine ⟨o, D, _, _, rfl, rfl, s3 _ _ ho, hD, sz (by rw [nv_len, nv_len, List.length_map]; omega), fun p np => ?_⟩
      refine ⟨(s2.trans s3).new np, p, _, _, ?_, ?_, rfl⟩
      · exact Same.none ((s1.trans sm).trans (s2.trans s3)) np
      · rw [upd_same, take_more hn, subsL_snoc, nv_app]
  · rintro σ H' ⟨s2, o, v1, v3, no', ho, rfl⟩
    rw [nv_len, List.take_length] at ho
    exact ⟨_, rfl, q hp H' o ((s1.trans sm).trans s2) no' ho⟩
def sp_ball (_K : PySem.W.Frag) : Sp := fun vs H Q _ => ∃ (n b : Nat), vs = [.int n, .int b] ∧ n ≤ 18000 ∧ ∀ H', Same H H' → Q (.int (bal n b : Nat)) H'
theorem bal_sum (n : Nat) : ∀ i : Nat, (nz ((List.range i).map (cho n))).sum = ((bals n i : Nat) : Int)
  | 0 => rfl
  | i + 1 => by
    rw [List.range_succ, List.map_append]
    unfold nz
    rw [List.map_append, List.sum_append]
    have ih := bal_sum n i
    unfold nz at ih
    rw [ih, bals_succ]
    simp
abbrev s_ball : Stmt := topS 12
theorem sc_ball : FnScope ["wires", "radius", "size"] ["wires", "radius"] (defScope s_ball) := ⟨rfl, rfl, rfl, by decide +kernel, rfl, by decide +kernel, by decide +kernel⟩
/-- slots: 0 wires 1 radius 2 size -/
theorem dn_ball (M : Mg mg) (C : Cg K mg) (g : Fg K mg "ball" s_ball) : Dn P w K mg base CX0 "ball" 1 ["wires", "radius"] (sp_ball K) := by
  refine dn_of g sc_ball (fun vs H Q E h => by unfold sp_ball at h; (repeat (obtain ⟨_, h⟩ := h)); subst_vars; rfl) (fun _ _ _ _ _ _ us hl => match us, hl with | [_, _], _ => rfl) (fun f cdv A outer s H vs Q E hr h => ?_)
  obtain ⟨n, b, rfl, hn, q⟩ := h
  have nd := sc_ball.nd
  refine ⟨_, (pss_one (ps_ret (pe_callB (G.cr_sumK K rfl) (by rfl) M.sum (by decide +kernel) (pa_cons (pe_lc (own := [("size", 2)]) (g := (gName 2)) (tt := tYes) rfl nd (pi_range1 rfl M.range (pa_cons (pe_op op_add (pe_callB (call_min2 rfl) (by rfl) M.min (by decide +kernel) (pa_cons (pv 0) (pa_cons (pv 1) pa_nil))) pe_int) pa_nil)) (blkOk_by (by kernel_rfl)) (fun _ _ _ _ _ => (pg_name (i := 2) nd rfl (by first | exact Or.inl rfl | exact Or.inr rfl))) (fun _ _ _ _ _ => pts_nil) (fun _ _ _ _ _ => (pe_callBfun G.cr_comb (by rfl) M.comb (pa_cons (pv 0) (pa_cons (pv 2) pa_nil))))) pa_nil)))), ?_⟩
  have hm : (if (b : Int) < (n : Int) then (b : Int) else (n : Int)) = ((min n b : Nat) : Int) := by split <;> omega
  refine ⟨_, rfl, _, rfl, _, _, rfl, _, _, rfl, rfl, ?_⟩
  dsimp only
  rw [hm]
  refine ⟨_, rfl, by omega, by omega, fun D nD => lc_range (lo := 0) (n := (((min n b : Nat) : Int) + 1).toNat) (fun i H' => Same H H' ∧ H' D = some (.lst (nv ((List.range i).map (cho n))))) ⟨same_new nD, upd_same⟩ ?_ ?_⟩
  · rintro i H' hi ⟨sm, hD⟩
    refine ⟨rfl, _, rfl, _, rfl, _, _, rfl, by omega, by omega, by omega, _, hD, szl (by rw [nv_len, List.length_map, List.length_range]; omega), Same.mut sm nD, ?_⟩
    rw [upd_same, List.range_succ, List.map_append, nv_app, Int.zero_add, mcComb_cho]
    rfl
  · rintro H' ⟨sm, hD⟩
    refine ⟨D, _, rfl, sq_lst (by rw [hD, nv_nz]), ?_⟩
    rw [bal_sum, show (((min n b : Nat) : Int) + 1).toNat = min n b + 1 by omega]
    show Q (.int (bal n (min n b) : Nat)) H'
    rw [bal_min]
    exact q H' sm
def sp_gather (K : PySem.W.Frag) : Sp := fun vs H Q _ => ∃ (m : Nat) (a : Addr) (l : List Nat), vs = [.int m, .ref a] ∧ SqL K H a (nv l) ∧ l.length ≤ 1000000 ∧ ∀ H', Same H H' → Q (.int (gatF m l : Nat)) H'
abbrev s_gather : Stmt := topS 13
theorem sc_gather : FnScope ["mask", "places", "found", "index", "place"] ["mask", "places"] (defScope s_gather) := ⟨rfl, rfl, rfl, by decide +kernel, rfl, by decide +kernel, by decide +kernel⟩
/-- slots: 0 mask 1 places 2 found 3 index 4 place -/
theorem dn_gather (M : Mg mg) (C : Cg K mg) (g : Fg K mg "gather" s_gather) : Dn P w K mg base CX0 "gather" 1 ["mask", "places"] (sp_gather K) := by
  refine dn_of g sc_gather (fun vs H Q E h => by unfold sp_gather at h; (repeat (obtain ⟨_, h⟩ := h)); subst_vars; rfl) (fun _ _ _ _ _ _ us hl => match us, hl with | [_, _], _ => rfl) (fun f cdv A outer s H vs Q E hr h => ?_)
  obtain ⟨m, a, l, rfl, hS, hl, q⟩ := h
  have nd := sc_gather.nd
  refine ⟨_, (pss_cons (ps_set (i := 2) nd rfl (by first | exact Or.inl rfl | exact Or.inr rfl) pe_int)
    (pss_cons (ps_for PassesOwn.never rfl (G.pi_enumK K (by rfl) M.enumerate (pa_cons (pv 1) pa_nil)) (pg_tup rfl (pgs_cons (pg_name (i := 3) nd rfl (by first | exact Or.inl rfl | exact Or.inr rfl)) (pgs_cons (pg_name (i := 4) nd rfl (by first | exact Or.inl rfl | exact Or.inr rfl)) pgs_nil))) (pss_one (ps_if (G.pt_truthK K (pe_op G.op_andN (pe_op G.op_shrM (pv 0) (pv 4)) pe_int) (by intro _; rfl)) (pss_one (ps_set (i := 2) nd rfl (by first | exact Or.inl rfl | exact Or.inr rfl) (pe_op G.op_orN (pv 2) (pe_op G.op_shlM pe_int (pv 3))))) pss_nil)))
    (pss_one (ps_ret (pv 2))))), ?_⟩
  refine ⟨_, rfl, a, _, rfl, hS, for_it walk_enum (fun i σ H' => Same H H' ∧ ∃ v3 v4, σ = [some (.int m), some (.ref a), some (.int (gatF m (l.take i) : Nat)), v3, v4]) ⟨Same.refl _, none, none, rfl⟩ (fun i σ H' _ ⟨s, _⟩ => s.seq hS) ?_ ?_⟩
  · rintro i x σ H1 H2 hi ⟨s, v3, v4, rfl⟩ ⟨T, x1, x2, rfl, nT, rfl, e1, e2⟩
    cases e1
    obtain ⟨n, hn, rfl⟩ := nv_at e2
    refine ⟨T, _, rfl, sq_tup upd_same, rfl, _, _, rfl, _, _, rfl, rfl, ?_⟩
    have s2 := s.new (o := .tup [V.int ((i : Nat) : Int), V.int (n : Int)]) nT
    refine ⟨_, rfl, _, rfl, m, n, rfl, rfl, _, 1, rfl, rfl, _, rfl, ?_⟩
    rw [bit_true]
    rw [nv_len] at hi
    refine ite2 (fun e => ?_) (fun e => ?_)
    · refine ⟨_, rfl, _, rfl, 1, i, rfl, rfl, ⟨by omega, by decide⟩, gatF m (l.take i), 1 <<< i, rfl, rfl, s2, some (.int (i : Nat)), some (.int (n : Nat)), ?_⟩
      rw [take_more hn, gatF_snoc, if_pos e, List.length_take, Nat.min_eq_left (by omega)]
      rfl
    · refine ⟨s2, some (.int (i : Nat)), some (.int (n : Nat)), ?_⟩
      rw [take_more hn, gatF_snoc, if_neg e]
      rfl
  · rintro σ H' ⟨s, v3, v4, rfl⟩
    rw [nv_len, List.take_length]
    exact ⟨_, rfl, q H' s⟩
def sp_scatter (K : PySem.W.Frag) : Sp := fun vs H Q _ => ∃ (m : Nat) (a : Addr) (l : List Nat), vs = [.int m, .ref a] ∧ SqL K H a (nv l) ∧ (∀ p ∈ l, p ≤ 1000000) ∧ ∀ H', Same H H' → Q (.int (scaF m l : Nat)) H'
abbrev s_scatter : Stmt := topS 14
theorem sc_scatter : FnScope ["mask", "places", "found", "index", "place"] ["mask", "places"] (defScope s_scatter) := ⟨rfl, rfl, rfl, by decide +kernel, rfl, by decide +kernel, by decide +kernel⟩
/-- slots: 0 mask 1 places 2 found 3 index 4 place -/
theorem dn_scatter (M : Mg mg) (C : Cg K mg) (g : Fg K mg "scatter" s_scatter) : Dn P w K mg base CX0 "scatter" 1 ["mask", "places"] (sp_scatter K) := by
  refine dn_of g sc_scatter (fun vs H Q E h => by unfold sp_scatter at h; (repeat (obtain ⟨_, h⟩ := h)); subst_vars; rfl) (fun _ _ _ _ _ _ us hl => match us, hl with | [_, _], _ => rfl) (fun f cdv A outer s H vs Q E hr h => ?_)
  obtain ⟨m, a, l, rfl, hS, hl, q⟩ := h
  have nd := sc_scatter.nd
  refine ⟨_, (pss_cons (ps_set (i := 2) nd rfl (by first | exact Or.inl rfl | exact Or.inr rfl) pe_int)
    (pss_cons (ps_for PassesOwn.never rfl (G.pi_enumK K (by rfl) M.enumerate (pa_cons (pv 1) pa_nil)) (pg_tup rfl (pgs_cons (pg_name (i := 3) nd rfl (by first | exact Or.inl rfl | exact Or.inr rfl)) (pgs_cons (pg_name (i := 4) nd rfl (by first | exact Or.inl rfl | exact Or.inr rfl)) pgs_nil))) (pss_one (ps_if (G.pt_truthK K (pe_op G.op_andN (pe_op G.op_shrM (pv 0) (pv 3)) pe_int) (by intro _; rfl)) (pss_one (ps_set (i := 2) nd rfl (by first | exact Or.inl rfl | exact Or.inr rfl) (pe_op G.op_orN (pv 2) (pe_op G.op_shlM pe_int (pv 4))))) pss_nil)))
    (pss_one (ps_ret (pv 2))))), ?_⟩
  refine ⟨_, rfl, a, _, rfl, hS, for_it walk_enum (fun i σ H' => Same H H' ∧ ∃ v3 v4, σ = [some (.int m), some (.ref a), some (.int (scaF m (l.take i) : Nat)), v3, v4]) ⟨Same.refl _, none, none, rfl⟩ (fun i σ H' _ ⟨s, _⟩ => s.seq hS) ?_ ?_⟩
  · rintro i x σ H1 H2 hi ⟨s, v3, v4, rfl⟩ ⟨T, x1, x2, rfl, nT, rfl, e1, e2⟩
    cases e1
    obtain ⟨n, hn, rfl⟩ := nv_at e2
    refine ⟨T, _, rfl, sq_tup upd_same, rfl, _, _, rfl, _, _, rfl, rfl, ?_⟩
    have s2 := s.new (o := .tup [V.int ((i : Nat) : Int), V.int (n : Int)]) nT
    refine ⟨_, rfl, _, rfl, m, i, rfl, rfl, _, 1, rfl, rfl, _, rfl, ?_⟩
    rw [bit_true]
    rw [nv_len] at hi
    have hlen : (l.take i).length = i := by rw [List.length_take, Nat.min_eq_left (by omega)]
    refine ite2 (fun e => ?_) (fun e => ?_)
    · refine ⟨_, rfl, _, rfl, 1, n, rfl, rfl, ⟨hl n (List.mem_of_getElem? hn), by decide⟩, scaF m (l.take i), 1 <<< n, rfl, rfl, s2, some (.int (i : Nat)), some (.int (n : Nat)), ?_⟩
      rw [take_more hn, scaF_snoc, hlen, if_pos e]
      rfl
    · refine ⟨s2, some (.int (i : Nat)), some (.int (n : Nat)), ?_⟩
      rw [take_more hn, scaF_snoc, hlen, if_neg e]
      rfl
  · rintro σ H' ⟨s, v3, v4, rfl⟩
    rw [nv_len, List.take_length]
    exact ⟨_, rfl, q H' s⟩
/-- _law_pool(script, count): a new list of ints -/
def sp__law_pool (K : PySem.W.Frag) : Sp := fun vs H Q _ => ∃ (a : Addr) (ns : List Int) (c : Nat), vs = [.ref a, .int c] ∧ SqL K H a (ns.map V.int) ∧ ns.length ≤ 1000 ∧ c ≤ 100000 ∧
  ∀ (H' : Hp) (p : Addr) (ds : List Int), Same H H' → H p = none → H' p = some (.lst (ds.map V.int)) → Q (.ref p) H'
/-- the draws so far -/
structure Drawn1 (H H' : Hp) (o : Addr) (c : Nat) : Prop where
  same : Same H H'
  at_ : ∃ ds : List Int, H' o = some (.lst (ds.map V.int)) ∧ ds.length ≤ c
theorem Drawn1.add {H H' : Hp} {o : Addr} {c : Nat} {ds : List Int} {z : Int} (d : Drawn1 H H' o c) (hn : H o = none) (h : ds.length < c) : Drawn1 H (upd H' o (.lst (ds.map V.int ++ [.int z]))) o c :=
  ⟨Same.mut d.same hn, ds ++ [z], by rw [upd_same, List.map_append]; rfl, by rw [List.length_append]; exact h⟩
abbrev s__law_pool : Stmt := topS 16
theorem sc__law_pool : FnScope ["script", "count", "draws", "seed", "cell", "number", "k"] ["script", "count"] (defScope s__law_pool) := ⟨rfl, rfl, rfl, by decide +kernel, rfl, by decide +kernel, by decide +kernel⟩
/-- slots: 0 script 1 count 2 draws 3 seed 4 cell 5 number 6 k -/
theorem dn__law_pool (M : Mg mg) (C : Cg K mg) (g : Fg K mg "_law_pool" s__law_pool) : Dn P w K mg base CX0 "_law_pool" 1 ["script", "count"] (sp__law_pool K) := by
  refine dn_of g sc__law_pool (fun vs H Q E h => by unfold sp__law_pool at h; (repeat (obtain ⟨_, h⟩ := h)); subst_vars; rfl) (fun _ _ _ _ _ _ us hl => match us, hl with | [_, _], _ => rfl) (fun f cdv A outer s H vs Q E hr h => ?_)
  obtain ⟨a, ns, c, rfl, hS, hlen, hc, q⟩ := h
  have nd := sc__law_pool.nd
  refine ⟨_, (pss_cons (ps_set (i := 2) nd rfl (by first | exact Or.inl rfl | exact Or.inr rfl) (pe_lst pa_nil))
    (pss_cons (ps_set (i := 3) nd rfl (by first | exact Or.inl rfl | exact Or.inr rfl) (pe_op op_add pe_int (pe_callB (G.call_lenK K) (by rfl) M.len PySem.boot_len (pa_cons (pv 0) pa_nil))))
    (pss_cons (ps_for PassesOwn.never rfl (G.pi_listK K (pv 0)) (pg_name (i := 4) nd rfl (by first | exact Or.inl rfl | exact Or.inr rfl)) (pss_cons (ps_set (i := 5) nd rfl (by first | exact Or.inl rfl | exact Or.inr rfl) (pe_callTy call_int1 (by rfl) M.int (by decide +kernel) (pa_cons (pv 4) pa_nil)))
    (Evl.pss_cut (ps_if (pt_cmpR op_ge (pv 5) (pe_op op_pow pe_int pe_int) (nomark _)) (pss_one (ps_for PassesOwn.never rfl (pi_range1 rfl M.range (pa_cons pe_int pa_nil)) (pg_name (i := 6) nd rfl (by first | exact Or.inl rfl | exact Or.inr rfl)) (pss_one (ps_if (PW.pt (pw_and (pt_cmpR op_gt (pv 5) pe_int (nomark _)) (pw_and1 (pt_cmpR op_lt (pe_callB (G.call_lenK K) (by rfl) M.len PySem.boot_len (pa_cons (pv 2) pa_nil)) (pv 1) (nomark _))))) (pss_cons (ps_expr (pe_bm PySem.F.plainAttrs_list PySem.F.slot_list_append PySem.F.type_list_append mt_append (pv 2) (pa_cons (pe_op op_mod (pe_callTy call_int1 (by rfl) M.int (by decide +kernel) (pa_cons (pv 5) pa_nil)) pe_int) pa_nil)))
    (pss_one (ps_set (i := 5) nd rfl (by first | exact Or.inl rfl | exact Or.inr rfl) (pe_op op_fdiv (pv 5) pe_int)))) pss_nil)))) (pss_one (ps_if (pt_cmpR op_lt (pe_callB (G.call_lenK K) (by rfl) M.len PySem.boot_len (pa_cons (pv 2) pa_nil)) (pv 1) (nomark _)) (pss_one (ps_expr (pe_bm PySem.F.plainAttrs_list PySem.F.slot_list_append PySem.F.type_list_append mt_append (pv 2) (pa_cons (pe_op op_mod (pe_callTy call_int1 (by rfl) M.int (by decide +kernel) (pa_cons (pv 5) pa_nil)) pe_int) pa_nil)))) pss_nil)))
    (pss_one (ps_set (i := 3) nd rfl (by first | exact Or.inl rfl | exact Or.inr rfl) (pe_op op_mod (pe_callTy call_int1 (by rfl) M.int (by decide +kernel) (pa_cons (pe_op op_add (pe_op op_add (pe_op op_mul (pv 3) pe_int) (pe_op op_mod (pe_callTy call_int1 (by rfl) M.int (by decide +kernel) (pa_cons (pv 5) pa_nil)) pe_int)) pe_int) pa_nil)) pe_int))))))
    (pss_cons (ps_for PassesOwn.never rfl (pi_range1 rfl M.range (pa_cons (pv 1) pa_nil)) (pg_name (i := 6) nd rfl (by first | exact Or.inl rfl | exact Or.inr rfl)) (pss_cons (ps_set (i := 3) nd rfl (by first | exact Or.inl rfl | exact Or.inr rfl) (pe_op op_mod (pe_callTy call_int1 (by rfl) M.int (by decide +kernel) (pa_cons (pe_op op_add (pe_op op_add (pe_op op_mul (pv 3) pe_int) pe_int) (pv 6)) pa_nil)) pe_int))
    (pss_one (ps_if (pt_cmpR op_lt (pe_callB (G.call_lenK K) (by rfl) M.len PySem.boot_len (pa_cons (pv 2) pa_nil)) (pv 1) (nomark _)) (pss_one (ps_expr (pe_bm PySem.F.plainAttrs_list PySem.F.slot_list_append PySem.F.type_list_append mt_append (pv 2) (pa_cons (pe_op op_mod (pe_op op_fdiv (pe_op op_mod (pe_callTy call_int1 (by rfl) M.int (by decide +kernel) (pa_cons (pe_op op_mul (pe_op op_add (pe_op op_fdiv (pv 3) pe_int) pe_int) (pe_op op_add (pe_op op_fdiv (pv 3) pe_int) pe_int)) pa_nil)) pe_int) pe_int) pe_int) pa_nil)))) pss_nil))))
    (pss_cons (ps_expr (pe_bm0 PySem.F.plainAttrs_list PySem.F.slot_list_reverse PySem.F.type_list_reverse mt_reverse (pv 2)))
    (pss_one (ps_ret (pv 2)))))))), ?_⟩
  refine ⟨Nat.zero_le _, fun o no => ?_⟩
  have s1 : Same H (upd H o (.lst [])) := same_new no
  refine ⟨_, rfl, a, _, rfl, .inl (s1.seq hS), _, _, rfl, rfl, ?_⟩
  refine ⟨_, rfl, a, rfl, ⟨_, s1.seq hS⟩, for_ints (ns := ns) (fun i σ H' => Drawn1 H H' o c ∧ ∃ (seed : Int) (v4 v5 v6 : Option V), σ = [some (.ref a), some (.int c), some (.ref o), some (.int seed), v4, v5, v6] ∧ 0 ≤ seed ∧ seed < 2147483647)
    ⟨⟨s1, [], upd_same, Nat.zero_le _⟩, _, none, none, none, rfl, by omega, by rw [List.length_map]; omega⟩ (fun i σ H' _ p => p.1.same.seq hS) ?_ ?_⟩
  · rintro i n σ H' hi ⟨d, seed, v4, v5, v6, rfl, h0, h1⟩
    refine ⟨_, rfl, .inl ⟨n, rfl, ?_⟩⟩
    refine ⟨fun σ2 H2 => Drawn1 H H2 o c ∧ ∃ (number : Int) (w6 : Option V), σ2 = [some (.ref a), some (.int c), some (.ref o), some (.int seed), some (.int n), some (.int number), w6], ?_, ?_⟩
    rotate_left
    · rintro σ2 H2 ⟨d2, number, w6, rfl⟩
      refine ⟨_, rfl, _, _, rfl, rfl, .inl ⟨by omega, by omega⟩, _, rfl, .inl ⟨_, rfl, _, _, rfl, rfl, by omega, _, _, rfl, rfl, _, _, rfl, rfl, .inl ⟨_, rfl, _, _, rfl, rfl, by omega, ?_⟩⟩⟩
      exact ⟨d2, _, _, _, _, rfl, by omega, by omega⟩
    refine ⟨_, rfl, _, _, rfl, rfl, ⟨by omega, by omega, by decide⟩, _, _, rfl, rfl, _, rfl, ite2d (fun e => ?_) (fun e => ?_)⟩
    · refine ⟨_, rfl, by omega, by omega, for_range (lo := 0) (n := 60) (fun j σ2 H2 => Drawn1 H H2 o c ∧ ∃ (number : Int) (v6 : Option V), σ2 = [some (.ref a), some (.int c), some (.ref o), some (.int seed), some (.int n), some (.int number), v6])
        ⟨d, n, v6, rfl⟩ ?_ ?_⟩
      · rintro j σ2 H2 hj ⟨d2, number, w6, rfl⟩
        refine ⟨_, rfl, _, _, rfl, rfl, _, rfl, ite2d (fun e1 => ?_) (fun e1 => ?_)⟩
        · obtain ⟨ds, ed, ld⟩ := d2.at_
          refine ⟨_, rfl, o, _, rfl, .inl (sq_lst ed), _, rfl, _, _, rfl, rfl, _, rfl, ite2d (fun e2 => ?_) (fun e2 => ?_)⟩
          · rw [List.length_map] at e2
            refine ⟨_, rfl, .inl ⟨rfl, _, sq_lst ed⟩, _, rfl, .inl ⟨_, rfl, _, _, rfl, rfl, by omega, o, _, _, rfl, rfl, ed, szl (by rw [List.length_map]; omega), ?_⟩⟩
            refine ⟨_, rfl, _, _, rfl, rfl, ⟨by omega, by omega⟩, ?_⟩
            exact ⟨d2.add no (by omega), _, _, rfl⟩
          · exact ⟨d2, _, _, rfl⟩
        · exact ⟨d2, _, _, rfl⟩
      · rintro σ2 H2 ⟨d2, number, w6, rfl⟩
        exact ⟨d2, number, w6, rfl⟩
    · obtain ⟨ds, ed, ld⟩ := d.at_
      refine ⟨_, rfl, o, _, rfl, .inl (sq_lst ed), _, rfl, _, _, rfl, rfl, _, rfl, ite2d (fun e2 => ?_) (fun e2 => ?_)⟩
      · rw [List.length_map] at e2
        refine ⟨_, rfl, .inl ⟨rfl, _, sq_lst ed⟩, _, rfl, .inl ⟨_, rfl, _, _, rfl, rfl, by omega, o, _, _, rfl, rfl, ed, szl (by rw [List.length_map]; omega), ?_⟩⟩
        exact ⟨d.add no (by omega), _, _, rfl⟩
      · exact ⟨d, _, _, rfl⟩
  · rintro σ H' ⟨d, seed, v4, v5, v6, rfl, h0, h1⟩
    refine ⟨_, rfl, _, rfl, by omega, by omega, for_range (lo := 0) (n := c) (fun i σ H' => Drawn1 H H' o c ∧ ∃ (seed : Int) (v6 : Option V), σ = [some (.ref a), some (.int c), some (.ref o), some (.int seed), v4, v5, v6] ∧ 0 ≤ seed ∧ seed < 2147483647)
      ⟨d, seed, v6, rfl, h0, h1⟩ ?_ ?_⟩
    · rintro i σ2 H2 hi ⟨d2, sd, w6, rfl, g0, g1⟩
      refine ⟨_, rfl, _, _, rfl, rfl, .inl ⟨by omega, by omega⟩, _, _, rfl, rfl, _, rfl, _, _, rfl, rfl, .inl ⟨_, rfl, _, _, rfl, rfl, by omega, ?_⟩⟩
      obtain ⟨ds, ed, ld⟩ := d2.at_
      refine ⟨_, rfl, o, _, rfl, .inl (sq_lst ed), _, rfl, _, _, rfl, rfl, _, rfl, ite2d (fun e2 => ?_) (fun e2 => ?_)⟩
      · rw [List.length_map] at e2
        refine ⟨_, rfl, .inl ⟨rfl, _, sq_lst ed⟩, _, rfl, _, _, rfl, rfl, ⟨by omega, by omega⟩, _, _, rfl, rfl, _, rfl, _, _, rfl, rfl, ⟨by omega, by omega⟩, _, _, rfl, rfl, _, _, rfl, rfl, .inl ⟨by omega, by omega⟩, .inl ⟨_, rfl, _, _, rfl, rfl, by omega, _, _, rfl, rfl, ⟨by omega, by omega⟩, _, _, rfl, rfl, by omega, o, _, _, rfl, rfl, ed, szl (by rw [List.length_map]; omega), ?_⟩⟩
        exact ⟨d2.add no (by omega), _, _, rfl, by omega, by omega⟩
      · exact ⟨d2, _, _, rfl, by omega, by omega⟩
    · rintro σ2 H2 ⟨d2, sd, w6, rfl, g0, g1⟩
      obtain ⟨ds, ed, ld⟩ := d2.at_
      refine ⟨_, rfl, .inl ⟨rfl, _, sq_lst ed⟩, o, _, rfl, rfl, ed, ?_⟩
      refine ⟨_, rfl, q _ o ds.reverse (Same.mut d2.same no) no ?_⟩
      rw [upd_same, List.map_reverse]
/-- _law_take(pool, limit): some number from 0 to limit - 1; of the pool alone a list of ints is left -/
def sp__law_take (_K : PySem.W.Frag) : Sp := fun vs H Q _ => ∃ (p : Addr) (lim : Int), vs = [.ref p, .int lim] ∧ PoolAt H p ∧ 0 < lim ∧
  ∀ (r : Int) (ns : List Int), 0 ≤ r → r < lim → Q (.int r) (upd H p (.lst (ns.map V.int)))
abbrev s__law_take : Stmt := topS 17
theorem sc__law_take : FnScope ["pool", "limit"] ["pool", "limit"] (defScope s__law_take) := ⟨rfl, rfl, rfl, by decide +kernel, rfl, by decide +kernel, by decide +kernel⟩
/-- slots: 0 pool 1 limit -/
theorem dn__law_take (M : Mg mg) (C : Cg K mg) (g : Fg K mg "_law_take" s__law_take) : Dn P w K mg base CX0 "_law_take" 1 ["pool", "limit"] (sp__law_take K) := by
  refine dn_of g sc__law_take (fun vs H Q E h => by unfold sp__law_take at h; (repeat (obtain ⟨_, h⟩ := h)); subst_vars; rfl) (fun _ _ _ _ _ _ us hl => match us, hl with | [_, _], _ => rfl) (fun f cdv A outer s H vs Q E hr h => ?_)
  obtain ⟨p, lim, rfl, ⟨ns, hp⟩, hl, q⟩ := h
  have nd := sc__law_take.nd
  refine ⟨_, (pss_cons (ps_if (pt_cmpR op_gt (pe_callB (G.call_lenK K) (by rfl) M.len PySem.boot_len (pa_cons (pv 0) pa_nil)) pe_int (nomark _)) (pss_one (ps_ret (pe_op op_mod (pe_callTy call_int1 (by rfl) M.int (by decide +kernel) (pa_cons (pe_bm0 PySem.F.plainAttrs_list PySem.F.slot_list_pop PySem.F.type_list_pop mt_pop (pv 0)) pa_nil)) (pv 1)))) pss_nil)
    (pss_one (ps_ret pe_int))), ?_⟩
  refine ⟨_, rfl, p, ns.map V.int, rfl, .inl (sq_lst hp), _, _, rfl, rfl, _, rfl, ite2d (fun e => ?_) (fun e => ?_)⟩
  · have hne : ns ≠ [] := fun z => by subst z; simp at e
    obtain ⟨l, z, rfl⟩ : ∃ l z, ns = l ++ [z] := ⟨ns.dropLast, ns.getLast hne, (List.dropLast_concat_getLast hne).symm⟩
    refine ⟨_, rfl, .inl ⟨rfl, _, sq_lst hp⟩, p, _, .int z, rfl, rfl, hp, ?_, .inl ⟨z, rfl, .int lim, rfl, z, lim, rfl, rfl, hl, ?_⟩⟩
    · simp
    · have hd : ((l ++ [z]).map V.int).dropLast = l.map V.int := by rw [List.map_append]; simp
      rw [hd]
      exact q _ _ (Int.emod_nonneg _ (by omega)) (Int.emod_lt_of_pos _ hl)
  · have hz : ns = [] := by
      cases ns with
      | nil => rfl
      | cons a b => exfalso; apply e; rw [List.length_map, List.length_cons]; omega
    subst hz
    have hu : upd H p (.lst (([] : List Int).map V.int)) = H := by
      funext b; unfold upd; split
      · rename_i eb; subst eb; exact hp.symm
      · rfl
    have := q 0 [] (by omega) hl
    rw [hu] at this
    exact this
/-- _law_mask(pool, wires): some set of the wires -/
def sp__law_mask (_K : PySem.W.Frag) : Sp := fun vs H Q _ => ∃ (p : Addr) (w : Nat), vs = [.ref p, .int w] ∧ PoolAt H p ∧ w ≤ 100000 ∧ ∀ (r : Nat) (H' : Hp), r < 2 ^ w → Pl p H H' → Q (.int r) H'
abbrev s__law_mask : Stmt := topS 18
theorem sc__law_mask : FnScope ["pool", "wires", "mask", "start"] ["pool", "wires"] (defScope s__law_mask) := ⟨rfl, rfl, rfl, by decide +kernel, rfl, by decide +kernel, by decide +kernel⟩
/-- slots: 0 pool 1 wires 2 mask 3 start -/
theorem dn__law_mask (M : Mg mg) (C : Cg K mg) (g : Fg K mg "_law_mask" s__law_mask) (D__law_take : Dn P w K mg base CX0 "_law_take" 1 ["pool", "limit"] (sp__law_take K)) : Dn P w K mg base CX0 "_law_mask" 2 ["pool", "wires"] (sp__law_mask K) := by
  refine dn_of g sc__law_mask (fun vs H Q E h => by unfold sp__law_mask at h; (repeat (obtain ⟨_, h⟩ := h)); subst_vars; rfl) (fun _ _ _ _ _ _ us hl => match us, hl with | [_, _], _ => rfl) (fun f cdv A outer s H vs Q E hr h => ?_)
  obtain ⟨p, n, rfl, hp, hw, q⟩ := h
  have nd := sc__law_mask.nd
  refine ⟨_, (pss_cons (ps_set (i := 2) nd rfl (by first | exact Or.inl rfl | exact Or.inr rfl) pe_int)
    (pss_cons (ps_for PassesOwn.never rfl (pi_range3 rfl M.range (pa_cons pe_int (pa_cons (pv 1) (pa_cons pe_int pa_nil)))) (pg_name (i := 3) nd rfl (by first | exact Or.inl rfl | exact Or.inr rfl)) (pss_one (ps_set (i := 2) nd rfl (by first | exact Or.inl rfl | exact Or.inr rfl) (pe_op op_add (pv 2) (pe_op G.op_shlM (G.pe_callD D__law_take (hr.mono (by decide)) pass0 (pa_cons (pv 0) (pa_cons pe_int pa_nil))) (pv 3))))))
    (pss_one (ps_ret (pe_op op_mod (pe_callTy call_int1 (by rfl) M.int (by decide +kernel) (pa_cons (pv 2) pa_nil)) (pe_op G.op_shlM pe_int (pv 1))))))), ?_⟩
  refine ⟨_, rfl, 0, (n : Int), 9, (n + 9 - 1) / 9, rfl, rg_up (c := 9) (by omega) (by omega) (by omega), for_rangeC (lo := 0) (c := 9) (n := (n + 9 - 1) / 9) (fun i σ H' => Pl p H H' ∧ ∃ (m : Nat) (v : Option V), σ = [some (.ref p), some (.int n), some (.int m), v])
    ⟨Pl.refl hp, 0, none, rfl⟩ ?_ ?_⟩
  · rintro i σ H' hi ⟨hl, m, v, rfl⟩
    have hi2 : i * 9 ≤ 1000000 := by
      have := Nat.div_mul_le_self (n + 9 - 1) 9
      omega
    refine ⟨_, rfl, _, rfl, p, 512, rfl, hl.at_, by omega, fun r ns h0 h1 => ?_⟩
    obtain ⟨r, rfl⟩ := nat_ex h0
    refine ⟨_, rfl, r, i * 9, rfl, congrArg V.int (by simp), ⟨by omega, by omega⟩, _, _, rfl, rfl, hl.draw ns, m + r <<< (i * 9), _, rfl⟩
  · rintro σ H' ⟨hl, m, v, rfl⟩
    refine ⟨_, rfl, .inl ⟨_, rfl, _, rfl, 1, n, rfl, rfl, ⟨by omega, by decide⟩, m, ((1 <<< n : Nat) : Int), rfl, rfl, ?_, ?_⟩⟩
    · rw [Nat.one_shiftLeft]
      have := Nat.two_pow_pos n
      omega
    · have := q (m % 1 <<< n) H' (by rw [Nat.one_shiftLeft]; exact Nat.mod_lt _ (Nat.two_pow_pos n)) hl
      rw [Int.natCast_emod] at this
      exact this
/-- _law_same(told, due): True where both stand for the same data -/
def sp__law_same (_K : PySem.W.Frag) : Sp := fun vs H Q _ => ∃ (x y : V) (d : Dt), vs = [x, y] ∧ Is H x d ∧ Is H y d ∧ d.size ≤ 190000 ∧ ∀ H', Same H H' → Q (.bl true) H'
/-- the waiting pairs: their tuples stand in H', their items are told by H -/
def Wait (H H' : Hp) : List V → List Dt → Prop
  | [], [] => True
  | t :: ts, d :: ds => (∃ p x y, t = .ref p ∧ H' p = some (.tup [x, y]) ∧ Is H x d ∧ Is H y d) ∧ Wait H H' ts ds
  | _, _ => False
theorem Wait.mono {H H' H2 : Hp} (s : ∀ p xs, H' p = some (.tup xs) → H2 p = some (.tup xs)) : ∀ {ts : List V} {ds : List Dt}, Wait H H' ts ds → Wait H H2 ts ds
  | [], [], h => h
  | _ :: _, _ :: _, ⟨⟨p, x, y, e, h1, h2, h3⟩, h⟩ => ⟨⟨p, x, y, e, s _ _ h1, h2, h3⟩, Wait.mono s h⟩
theorem Wait.app {H H' : Hp} : ∀ {ts us : List V} {ds es : List Dt}, Wait H H' ts ds → Wait H H' us es → Wait H H' (ts ++ us) (ds ++ es)
  | [], _, [], _, _, h => h
  | _ :: _, _, _ :: _, _, ⟨a, b⟩, h => ⟨a, Wait.app b h⟩
theorem Wait.length {H H' : Hp} : ∀ {ts : List V} {ds : List Dt}, Wait H H' ts ds → ts.length = ds.length
  | [], [], _ => rfl
  | _ :: _, _ :: _, ⟨_, b⟩ => congrArg (· + 1) (Wait.length b)
theorem Wait.split {H H' : Hp} : ∀ {ts : List V} {ds : List Dt} {t : V}, Wait H H' (ts ++ [t]) ds → ∃ es d, ds = es ++ [d] ∧ Wait H H' ts es ∧ Wait H H' [t] [d]
  | [], [d], t, h => ⟨[], d, rfl, True.intro, h⟩
  | a :: ts, d :: ds, t, ⟨h1, h2⟩ => by
    obtain ⟨es, e, rfl, h3, h4⟩ := Wait.split h2
    exact ⟨d :: es, e, rfl, ⟨h1, h3⟩, h4⟩
theorem tup_upd {H' : Hp} {o : Addr} {ys zs : List V} (h : H' o = some (.lst ys)) : ∀ p xs, H' p = some (.tup xs) → upd H' o (.lst zs) p = some (.tup xs) := fun p xs e => by
  rw [upd_ne]; exact e
  intro z; subst z; rw [h] at e; cases e
theorem sizeL_cons (d : Dt) (l : List Dt) : sizeL (d :: l) = d.size + sizeL l := by simp [sizeL]
theorem sizeL_app : ∀ a b : List Dt, sizeL (a ++ b) = sizeL a + sizeL b
  | [], b => by simp [sizeL]
  | d :: a, b => by
    rw [List.cons_append, sizeL_cons, sizeL_cons, sizeL_app a b]; omega
theorem size_pos (d : Dt) : 1 ≤ d.size := by cases d <;> simp [Dt.size]
theorem len_le_size : ∀ l : List Dt, l.length ≤ sizeL l
  | [] => by simp [sizeL]
  | d :: l => by
    have h1 := size_pos d
    have h2 := len_le_size l
    unfold sizeL
    rw [List.length_cons]; omega
theorem ix_of {K : PySem.W.Frag} {H : Hp} {a : Addr} {xs : List V} {i : Int} {v : V} {Q : VK} (h : SqL K H a xs ∨ SqT K H a xs) (e : atI xs i = some v) (q : Q v H) : rIx K (.ref a) (.int i) H Q :=
  h.elim (fun h => .inl ⟨a, xs, i, v, rfl, rfl, h, e, q⟩) fun h => .inr (.inl ⟨a, xs, i, v, rfl, rfl, h, e, q⟩)
/-- a list or a tuple, twice -/
theorem seq_of {K : PySem.W.Frag} {H : Hp} {a b : V} {d : Dt} (hs : isSeq d.ty = true) (ha : Is H a d) (hb : Is H b d) : ∃ (a1 b1 : Addr) (xs ys : List V) (l : List Dt), a = .ref a1 ∧ b = .ref b1 ∧ d.size = 1 + sizeL l ∧ IsL H xs l ∧ IsL H ys l ∧
    ∀ H', Same H H' → (SqL K H' a1 xs ∨ SqT K H' a1 xs) ∧ (SqL K H' b1 ys ∨ SqT K H' b1 ys) := by
  cases d with
  | lst l =>
    unfold Is at ha hb
    obtain ⟨a1, xs, rfl, h1, h2⟩ := ha
    obtain ⟨b1, ys, rfl, h3, h4⟩ := hb
    exact ⟨a1, b1, xs, ys, l, rfl, rfl, by simp [Dt.size], h2, h4, fun H' s => ⟨.inl (h1.mono s).sq, .inl (h3.mono s).sq⟩⟩
  | tup l =>
    unfold Is at ha hb
    obtain ⟨a1, xs, rfl, h1, h2⟩ := ha
    obtain ⟨b1, ys, rfl, h3, h4⟩ := hb
    exact ⟨a1, b1, xs, ys, l, rfl, rfl, by simp [Dt.size], h2, h4, fun H' s => ⟨.inr (sq_tup (s _ _ h1)), .inr (sq_tup (s _ _ h3))⟩⟩
  | non => exact absurd hs (by decide)
  | bl b => exact absurd hs (by simp only [Dt.ty]; decide)
  | int i => exact absurd hs (by simp only [Dt.ty]; decide)
  | str s => exact absurd hs (by simp only [Dt.ty]; decide)
abbrev s__law_same : Stmt := topS 19
theorem sc__law_same : FnScope ["told", "due", "waiting", "k", "pair", "one", "other", "place"] ["told", "due"] (defScope s__law_same) := ⟨rfl, rfl, rfl, by decide +kernel, rfl, by decide +kernel, by decide +kernel⟩
/-- slots: 0 told 1 due 2 waiting 3 k 4 pair 5 one 6 other 7 place -/
theorem dn__law_same (M : Mg mg) (C : Cg K mg) (g : Fg K mg "_law_same" s__law_same) : Dn P w K mg base CX0 "_law_same" 1 ["told", "due"] (sp__law_same K) := by
  refine dn_of g sc__law_same (fun vs H Q E h => by unfold sp__law_same at h; (repeat (obtain ⟨_, h⟩ := h)); subst_vars; rfl) (fun _ _ _ _ _ _ us hl => match us, hl with | [_, _], _ => rfl) (fun f cdv A outer s H vs Q E hr h => ?_)
  obtain ⟨x, y, d, rfl, hx, hy, hd, q⟩ := h
  have nd := sc__law_same.nd
  refine ⟨_, (pss_cons (ps_set (i := 2) nd rfl (by first | exact Or.inl rfl | exact Or.inr rfl) (pe_lst (pa_cons (pe_tup (pa_cons (pv 0) (pa_cons (pv 1) pa_nil))) pa_nil)))
    (pss_cons (ps_for PassesOwn.never rfl (pi_range1 rfl M.range (pa_cons pe_int pa_nil)) (pg_name (i := 3) nd rfl (by first | exact Or.inl rfl | exact Or.inr rfl)) (pss_cons (ps_if (pt_cmpR op_eq (pe_callB (G.call_lenK K) (by rfl) M.len PySem.boot_len (pa_cons (pv 2) pa_nil)) pe_int (nomark _)) (pss_one (ps_ret pe_bl)) pss_nil)
    (pss_cons (ps_set (i := 4) nd rfl (by first | exact Or.inl rfl | exact Or.inr rfl) (pe_bm0 PySem.F.plainAttrs_list PySem.F.slot_list_pop PySem.F.type_list_pop mt_pop (pv 2)))
    (pss_cons (ps_set (i := 5) nd rfl (by first | exact Or.inl rfl | exact Or.inr rfl) (pe_ix (G.ix_tupK K) (pv 4) pe_int (fun _ _ => rfl)))
    (pss_cons (ps_set (i := 6) nd rfl (by first | exact Or.inl rfl | exact Or.inr rfl) (pe_ix (G.ix_tupK K) (pv 4) pe_int (fun _ _ => rfl)))
    (pss_one (ps_if (pt_val (pe_callB (G.call_isiTK K) (by rfl) M.isinstance (by decide +kernel) (pa_cons (pv 6) (pa_cons (pe_tup (pa_cons (pe_bltn (v := .ty "list") (by rfl) M.list (by decide +kernel) rfl) (pa_cons (pe_bltn (v := .ty "tuple") (by rfl) M.tuple (by decide +kernel) rfl) pa_nil))) pa_nil)))) (pss_cons (ps_if (PW.pt (pw_or (pt_not (pt_val (pe_callB (G.call_isiTK K) (by rfl) M.isinstance (by decide +kernel) (pa_cons (pv 5) (pa_cons (pe_tup (pa_cons (pe_bltn (v := .ty "list") (by rfl) M.list (by decide +kernel) rfl) (pa_cons (pe_bltn (v := .ty "tuple") (by rfl) M.tuple (by decide +kernel) rfl) pa_nil))) pa_nil))))) (pw_or1 (pt_cmpR op_ne (pe_callB (G.call_isiK' K) (by rfl) M.isinstance (by decide +kernel) (pa_cons (pv 5) (pa_cons (pe_bltn (v := .ty "list") (by rfl) M.list (by decide +kernel) rfl) pa_nil))) (pe_callB (G.call_isiK' K) (by rfl) M.isinstance (by decide +kernel) (pa_cons (pv 6) (pa_cons (pe_bltn (v := .ty "list") (by rfl) M.list (by decide +kernel) rfl) pa_nil))) (nomark _))))) (pss_one (ps_ret pe_bl)) pss_nil)
    (pss_cons (ps_if (pt_cmpR op_ne (pe_callB (G.call_lenK K) (by rfl) M.len PySem.boot_len (pa_cons (pv 5) pa_nil)) (pe_callB (G.call_lenK K) (by rfl) M.len PySem.boot_len (pa_cons (pv 6) pa_nil)) (nomark _)) (pss_one (ps_ret pe_bl)) pss_nil)
    (pss_one (ps_for PassesOwn.never rfl (pi_range1 rfl M.range (pa_cons (pe_callB (G.call_lenK K) (by rfl) M.len PySem.boot_len (pa_cons (pv 6) pa_nil)) pa_nil)) (pg_name (i := 7) nd rfl (by first | exact Or.inl rfl | exact Or.inr rfl)) (pss_one (ps_expr (pe_bm PySem.F.plainAttrs_list PySem.F.slot_list_append PySem.F.type_list_append mt_append (pv 2) (pa_cons (pe_tup (pa_cons (pe_ix (G.ix_seqK K) (pv 5) (pv 7) (fun _ _ => rfl)) (pa_cons (pe_ix (G.ix_seqK K) (pv 6) (pv 7) (fun _ _ => rfl)) pa_nil))) pa_nil)))))))) (pss_one (ps_if (PW.pt (pw_or (pt_cmpR op_isN (pv 5) pe_non (nomark _)) (pw_or1 (pt_cmpR op_isN (pv 6) pe_non (nomark _))))) (pss_one (ps_if (PW.pt (pw_or (pt_cmpR op_notN (pv 5) pe_non (nomark _)) (pw_or1 (pt_cmpR op_notN (pv 6) pe_non (nomark _))))) (pss_one (ps_ret pe_bl)) pss_nil)) (pss_one (ps_if (PW.pt (pw_or (pt_val (pe_callB (G.call_isiTK K) (by rfl) M.isinstance (by decide +kernel) (pa_cons (pv 5) (pa_cons (pe_tup (pa_cons (pe_bltn (v := .ty "list") (by rfl) M.list (by decide +kernel) rfl) (pa_cons (pe_bltn (v := .ty "tuple") (by rfl) M.tuple (by decide +kernel) rfl) pa_nil))) pa_nil)))) (pw_or1 (pt_cmpR op_ne (pe_callB (G.call_isiK' K) (by rfl) M.isinstance (by decide +kernel) (pa_cons (pv 5) (pa_cons (pe_bltn (v := .ty "bool") (by rfl) M.bool (by decide +kernel) rfl) pa_nil))) (pe_callB (G.call_isiK' K) (by rfl) M.isinstance (by decide +kernel) (pa_cons (pv 6) (pa_cons (pe_bltn (v := .ty "bool") (by rfl) M.bool (by decide +kernel) rfl) pa_nil))) (nomark _))))) (pss_one (ps_ret pe_bl)) (pss_one (ps_if (PW.pt (pw_or (pt_cmpR op_ne (pe_callB (G.call_isiK' K) (by rfl) M.isinstance (by decide +kernel) (pa_cons (pv 5) (pa_cons (pe_bltn (v := .ty "str") (by rfl) M.str (by decide +kernel) rfl) pa_nil))) (pe_callB (G.call_isiK' K) (by rfl) M.isinstance (by decide +kernel) (pa_cons (pv 6) (pa_cons (pe_bltn (v := .ty "str") (by rfl) M.str (by decide +kernel) rfl) pa_nil))) (nomark _)) (pw_or1 (pt_cmpR op_ne (pv 5) (pv 6) (nomark _))))) (pss_one (ps_ret pe_bl)) pss_nil)))))))))))))
    (pss_one (ps_ret pe_bl)))), ?_⟩
  -- waiting = [(told, due)]
  refine ⟨_, rfl, _, rfl, sz (by simp), fun t0 nt0 => ?_⟩
  refine ⟨sz (by simp), fun o no => ?_⟩
  have s0 : Same H (upd H t0 (.tup [x, y])) := same_new nt0
  have s1 := s0.new (o := .lst [.ref t0]) no
  have oH : H o = none := s0.none no
  refine ⟨_, rfl, by omega, by omega, for_range (lo := 0) (n := 200000) (fun i σ H' => Same H H' ∧ (∃ ts ds, H' o = some (.lst ts) ∧ Wait H H' ts ds ∧ sizeL ds + i = d.size) ∧ ∃ v3 v4 v5 v6 v7, σ = [some x, some y, some (.ref o), v3, v4, v5, v6, v7])
    ⟨s1, ⟨[.ref t0], [d], upd_same, ⟨⟨t0, x, y, rfl, ?_, hx, hy⟩, True.intro⟩, by simp [sizeL]⟩, none, none, none, none, none, rfl⟩ ?_ ?_⟩
  · rw [upd_ne (ne_of_none (show (upd H t0 (.tup [x, y])) t0 = some (.tup [x, y]) from upd_same) no)]; exact upd_same
  · rintro i σ H1 hi ⟨sm, ⟨ts, ds, ho, hw, hz⟩, v3, v4, v5, v6, v7, rfl⟩
    refine ⟨_, rfl, o, ts, rfl, .inl (sq_lst ho), rfl, _, rfl, ite2i (fun e => q _ sm) (fun e => ?_)⟩
    have hne : ts ≠ [] := fun z => by subst z; exact e rfl
    obtain ⟨us, t, rfl⟩ : ∃ us t, ts = us ++ [t] := ⟨ts.dropLast, ts.getLast hne, (List.dropLast_concat_getLast hne).symm⟩
    obtain ⟨es, d1, rfl, hw1, ⟨p, a, b, rfl, hp, ha, hb⟩, _⟩ := Wait.split hw
    rw [sizeL_app] at hz
    have hz1 : sizeL [d1] = d1.size := by simp [sizeL]
    have hlen := hw1.length
    have hle := len_le_size es
    -- pair = waiting.pop()
    refine ⟨_, rfl, .inl ⟨rfl, _, sq_lst ho⟩, o, _, .ref p, rfl, rfl, ho, by simp, ?_⟩
    have ed : (us ++ [V.ref p]).dropLast = us := by simp
    rw [ed]
    have sm2 : Same H (upd H1 o (.lst us)) := Same.mut sm oH
    have ho2 : (upd H1 o (.lst us)) o = some (.lst us) := upd_same
    have hp2 := tup_upd (zs := us) ho p _ hp
    have hw2 : Wait H (upd H1 o (.lst us)) us es := hw1.mono (tup_upd ho)
    generalize upd H1 o (.lst us) = H2 at *
    refine ⟨_, rfl, p, [a, b], 0, a, rfl, rfl, sq_tup hp2, rfl, ?_⟩
    refine ⟨_, rfl, p, [a, b], 1, b, rfl, rfl, sq_tup hp2, rfl, ?_⟩
    refine isi_seq (i := 6) (d := d1) rfl (hb.mono sm2) fun H3 s3 => ⟨_, rfl, ?_⟩
    have sm3 := sm2.trans s3
    have fin : ∀ {H4 : Hp} {v7 : Option V}, d1.size = 1 → Same H2 H4 → Same H H4 ∧ (∃ ts ds, H4 o = some (.lst ts) ∧ Wait H H4 ts ds ∧ sizeL ds + (i + 1) = d.size) ∧ ∃ v3' v4' v5' v6' v7', ([some x, some y, some (.ref o), some (.int (0 + (i : Int))), some (.ref p), some a, some b, v7] : L2.St) = [some x, some y, some (.ref o), v3', v4', v5', v6', v7'] :=
      fun {H4 v7} h1 s4 => ⟨sm2.trans s4, ⟨us, es, s4 _ _ ho2, hw2.mono (fun p xs e => s4 _ _ e), by omega⟩, _, _, _, _, _, rfl⟩
    cases hseq : isSeq d1.ty with
    | true =>
      refine iteT ?_
      obtain ⟨a1, b1, xs, ys, l, rfl, rfl, hsz, hxs, hys, hsq⟩ := seq_of (K := K) hseq ha hb
      refine isi_seq (i := 5) (d := d1) rfl (ha.mono sm3) fun H4 s4 => ⟨_, rfl, ?_⟩
      rw [hseq]
      refine iteF (isi_one (i := 5) (by simp) rfl (ha.mono (sm3.trans s4)) (isi_one (i := 6) (by simp) rfl (hb.mono (sm3.trans s4)) ⟨rfl, _, rfl, iteNS rfl ?_⟩))
      have sm4 := sm3.trans s4
      obtain ⟨q1, q2⟩ := hsq _ sm4
      have hl1 := hxs.length
      have hl2 := hys.length
      refine ⟨_, rfl, a1, xs, rfl, q1, _, rfl, b1, ys, rfl, q2, rfl, _, rfl, iteNS (by rw [hl1, hl2]) ?_⟩
      have hll := len_le_size l
      refine ⟨_, rfl, b1, ys, rfl, q2, _, rfl, by omega, by rw [hl2]; omega, for_range (lo := 0) (n := ((ys.length : Nat) : Int).toNat) (fun j σ H' => Same H H' ∧ (∃ ts, H' o = some (.lst ts) ∧ Wait H H' ts (es ++ l.take j)) ∧ ∃ v7, σ = [some x, some y, some (.ref o), some (.int (0 + (i : Int))), some (.ref p), some (.ref a1), some (.ref b1), v7])
        ⟨sm4, ⟨us, s4 _ _ (s3 _ _ ho2), by rw [List.take_zero, List.append_nil]; exact hw2.mono fun p xs e => s4 _ _ (s3 _ _ e)⟩, _, rfl⟩ ?_ ?_⟩
      · rintro j σ H5 hj ⟨sm5, ⟨ts, ho5, hw5⟩, v7', rfl⟩
        have hj2 : j < l.length := by rw [hl2] at hj; omega
        obtain ⟨xj, ex, ix⟩ := hxs.get (List.getElem?_eq_getElem hj2)
        obtain ⟨yj, ey, iy⟩ := hys.get (List.getElem?_eq_getElem hj2)
        obtain ⟨r1, r2⟩ := hsq _ sm5
        have hlt := hw5.length
        rw [List.length_append, List.length_take] at hlt
        refine ⟨_, rfl, .inl ⟨rfl, _, sq_lst ho5⟩, _, rfl, _, rfl, ix_of r1 (atI_of (Int.zero_add _) ex) ⟨_, rfl, _, rfl, ix_of r2 (atI_of (Int.zero_add _) ey) ⟨sz (by simp), fun t nt => ?_⟩⟩⟩
        have o6 : (upd H5 t (.tup [xj, yj])) o = some (.lst ts) := by rw [upd_ne (ne_of_none ho5 nt)]; exact ho5
        refine ⟨o, ts, .ref t, rfl, rfl, o6, szl (by omega), ?_⟩
        have s6 : Same H5 (upd H5 t (.tup [xj, yj])) := same_new nt
        refine ⟨Same.mut (sm5.trans s6) oH, ⟨ts ++ [.ref t], upd_same, ?_⟩, _, rfl⟩
        rw [take_more (List.getElem?_eq_getElem hj2), ← List.append_assoc]
        refine Wait.app (hw5.mono fun p xs e => tup_upd o6 _ _ (s6 _ _ e)) ⟨⟨t, xj, yj, rfl, tup_upd o6 _ _ upd_same, ix, iy⟩, True.intro⟩
      · rintro σ H5 ⟨sm5, ⟨ts, ho5, hw5⟩, v7', rfl⟩
        have e1 : ((ys.length : Nat) : Int).toNat = l.length := by omega
        rw [e1, List.take_length] at hw5
        exact ⟨sm5, ⟨ts, _, ho5, hw5, by rw [sizeL_app]; omega⟩, _, _, _, _, _, rfl⟩
    | false =>
      refine iteF ?_
      cases d1 with
      | non =>
        unfold Is at ha hb
        subst ha hb
        exact ⟨_, rfl, rfl, _, rfl, iteT (iteT ⟨_, rfl, rfl, _, rfl, iteF ⟨_, rfl, rfl, _, rfl, iteF (fin rfl s3)⟩⟩)⟩
      | bl c =>
        have ha' := ha
        have hb' := hb
        unfold Is at ha hb
        subst ha hb
        refine ⟨_, rfl, rfl, _, rfl, iteF ⟨_, rfl, rfl, _, rfl, iteF ?_⟩⟩
        refine isi_seq (i := 5) (d := .bl c) rfl (ha'.mono sm3) fun H4 s4 => ⟨_, rfl, iteF ?_⟩
        refine isi_one (i := 5) (by simp) rfl (ha'.mono (sm3.trans s4)) (isi_one (i := 6) (by simp) rfl (hb'.mono (sm3.trans s4)) ⟨rfl, _, rfl, iteNS rfl ?_⟩)
        refine isi_one (i := 5) (by simp) rfl (ha'.mono (sm3.trans s4)) (isi_one (i := 6) (by simp) rfl (hb'.mono (sm3.trans s4)) ⟨rfl, _, rfl, iteNS rfl ?_⟩)
        exact ⟨_, rfl, _, rfl, rfl, _, rfl, iteNS rfl (fin rfl (s3.trans s4))⟩
      | int c =>
        have ha' := ha
        have hb' := hb
        unfold Is at ha hb
        subst ha hb
        refine ⟨_, rfl, rfl, _, rfl, iteF ⟨_, rfl, rfl, _, rfl, iteF ?_⟩⟩
        refine isi_seq (i := 5) (d := .int c) rfl (ha'.mono sm3) fun H4 s4 => ⟨_, rfl, iteF ?_⟩
        refine isi_one (i := 5) (by simp) rfl (ha'.mono (sm3.trans s4)) (isi_one (i := 6) (by simp) rfl (hb'.mono (sm3.trans s4)) ⟨rfl, _, rfl, iteNS rfl ?_⟩)
        refine isi_one (i := 5) (by simp) rfl (ha'.mono (sm3.trans s4)) (isi_one (i := 6) (by simp) rfl (hb'.mono (sm3.trans s4)) ⟨rfl, _, rfl, iteNS rfl ?_⟩)
        exact ⟨_, rfl, _, rfl, rfl, _, rfl, iteNS rfl (fin rfl (s3.trans s4))⟩
      | str c =>
        have ha' := ha
        have hb' := hb
        unfold Is at ha hb
        subst ha hb
        refine ⟨_, rfl, rfl, _, rfl, iteF ⟨_, rfl, rfl, _, rfl, iteF ?_⟩⟩
        refine isi_seq (i := 5) (d := .str c) rfl (ha'.mono sm3) fun H4 s4 => ⟨_, rfl, iteF ?_⟩
        refine isi_one (i := 5) (by simp) rfl (ha'.mono (sm3.trans s4)) (isi_one (i := 6) (by simp) rfl (hb'.mono (sm3.trans s4)) ⟨rfl, _, rfl, iteNS rfl ?_⟩)
        refine isi_one (i := 5) (by simp) rfl (ha'.mono (sm3.trans s4)) (isi_one (i := 6) (by simp) rfl (hb'.mono (sm3.trans s4)) ⟨rfl, _, rfl, iteNS rfl ?_⟩)
        exact ⟨_, rfl, _, rfl, rfl, _, rfl, iteNS rfl (fin rfl (s3.trans s4))⟩
      | lst l => exact absurd hseq (by simp only [Dt.ty]; decide)
      | tup l => exact absurd hseq (by simp only [Dt.ty]; decide)
  · rintro σ H' ⟨sm, ⟨ts, ds, ho, hw, hz⟩, _⟩
    omega
/-- _law_ball(n, b) is the ball -/
def sp__law_ball (_K : PySem.W.Frag) : Sp := fun vs H Q _ => ∃ (n b : Nat), vs = [.int n, .int b] ∧ n ≤ 1000000 ∧ Q (.int (bal n b : Nat)) H
abbrev s__law_ball : Stmt := topS 20
theorem sc__law_ball : FnScope ["wires", "most", "count", "ways", "size"] ["wires", "most"] (defScope s__law_ball) := ⟨rfl, rfl, rfl, by decide +kernel, rfl, by decide +kernel, by decide +kernel⟩
/-- slots: 0 wires 1 most 2 count 3 ways 4 size -/
theorem dn__law_ball (M : Mg mg) (C : Cg K mg) (g : Fg K mg "_law_ball" s__law_ball) : Dn P w K mg base CX0 "_law_ball" 1 ["wires", "most"] (sp__law_ball K) := by
  refine dn_of g sc__law_ball (fun vs H Q E h => by unfold sp__law_ball at h; (repeat (obtain ⟨_, h⟩ := h)); subst_vars; rfl) (fun _ _ _ _ _ _ us hl => match us, hl with | [_, _], _ => rfl) (fun f cdv A outer s H vs Q E hr h => ?_)
  obtain ⟨n, b, rfl, hn, q⟩ := h
  have nd := sc__law_ball.nd
  refine ⟨_, (pss_cons (ps_set (i := 2) nd rfl (by first | exact Or.inl rfl | exact Or.inr rfl) pe_int)
    (pss_cons (ps_set (i := 3) nd rfl (by first | exact Or.inl rfl | exact Or.inr rfl) pe_int)
    (pss_cons (ps_for PassesOwn.never rfl (pi_range1 rfl M.range (pa_cons (pe_op op_add (pe_callB (call_min2 rfl) (by rfl) M.min (by decide +kernel) (pa_cons (pv 0) (pa_cons (pv 1) pa_nil))) pe_int) pa_nil)) (pg_name (i := 4) nd rfl (by first | exact Or.inl rfl | exact Or.inr rfl)) (pss_cons (ps_set (i := 2) nd rfl (by first | exact Or.inl rfl | exact Or.inr rfl) (pe_op op_add (pv 2) (pv 3)))
    (pss_one (ps_set (i := 3) nd rfl (by first | exact Or.inl rfl | exact Or.inr rfl) (pe_op op_fdiv (pe_callTy call_int1 (by rfl) M.int (by decide +kernel) (pa_cons (pe_op op_mul (pv 3) (pe_op op_sub (pv 0) (pv 4))) pa_nil)) (pe_op op_add (pv 4) pe_int))))))
    (pss_one (ps_ret (pv 2)))))), ?_⟩
  have hm : (if (b : Int) < (n : Int) then (b : Int) else (n : Int)) = ((min n b : Nat) : Int) := by split <;> omega
  refine ⟨_, rfl, _, rfl, _, _, rfl, _, _, rfl, rfl, ?_⟩
  rw [hm]
  refine ⟨_, rfl, by omega, by omega, for_range (lo := 0) (n := (((min n b : Nat) : Int) + 1).toNat)
    (fun i σ H' => H' = H ∧ ∃ v, σ = [some (.int n), some (.int b), some (.int (bals n i : Nat)), some (.int (cho n i : Nat)), v]) ⟨rfl, none, by rw [cho_zero]; rfl⟩ ?_ ?_⟩
  · rintro i σ H' hi ⟨rfl, v, rfl⟩
    refine ⟨_, rfl, _, rfl, _, _, rfl, rfl, ?_⟩
    refine ⟨_, rfl, _, rfl, _, rfl, _, _, rfl, rfl, _, _, rfl, rfl, .inr ⟨by omega, by omega⟩, .inl ⟨_, rfl, _, rfl, _, _, rfl, rfl, _, _, rfl, rfl, ⟨by omega, by omega⟩, ?_⟩⟩
    refine ⟨rfl, some (.int (0 + (i : Int))), ?_⟩
    rw [bals_succ, ← cho_div (show i ≤ n by omega)]
    simp
  · rintro σ H' ⟨rfl, v, rfl⟩
    refine ⟨_, rfl, ?_⟩
    have e : (((min n b : Nat) : Int) + 1).toNat = min n b + 1 := by omega
    rw [e]
    show Q (.int (bal n (min n b) : Nat)) H'
    rw [bal_min]
    exact q
def sp__law_wires (_K : PySem.W.Frag) : Sp := fun vs H Q _ => ∃ (m : Nat), vs = [.int m] ∧ m < 2 ^ 100000 ∧ ∀ (H' : Hp) (p : Addr), Same H H' → H p = none → H' p = some (.lst (nv (wl m))) → Q (.ref p) H'
abbrev s__law_wires : Stmt := topS 21
theorem sc__law_wires : FnScope ["mask", "wire"] ["mask"] (defScope s__law_wires) := ⟨rfl, rfl, rfl, by decide +kernel, rfl, by decide +kernel, by decide +kernel⟩
/-- slots: 0 mask 1 wire -/
theorem dn__law_wires (M : Mg mg) (C : Cg K mg) (g : Fg K mg "_law_wires" s__law_wires) : Dn P w K mg base CX0 "_law_wires" 1 ["mask"] (sp__law_wires K) := by
  refine dn_of g sc__law_wires (fun vs H Q E h => by unfold sp__law_wires at h; (repeat (obtain ⟨_, h⟩ := h)); subst_vars; rfl) (fun _ _ _ _ _ _ us hl => match us, hl with | [_], _ => rfl) (fun f cdv A outer s H vs Q E hr h => ?_)
  obtain ⟨m, rfl, hm, q⟩ := h
  have nd := sc__law_wires.nd
  refine ⟨_, (pss_one (ps_ret (pe_lc (own := [("wire", 1)]) (g := (gName 1)) rfl nd (pi_range1 rfl M.range (pa_cons (pe_bits (pv 0)) pa_nil)) (blkOk_by (by kernel_rfl)) (fun _ _ _ _ _ => (pg_name (i := 1) nd rfl (by first | exact Or.inl rfl | exact Or.inr rfl))) (fun _ _ _ _ _ => (pts_one (pt_cmpR op_eq (pe_op G.op_andN (pe_op G.op_shrM (pv 0) (pv 1)) pe_int) pe_int (nomark _)))) (fun _ _ _ _ _ => (pv 1))))), ?_⟩
  have hb := bl_le hm
  refine ⟨_, rfl, m, rfl, _, rfl, by omega, by show ((bl m : Nat) : Int) < _; omega, fun D nD => lc_range (lo := 0) (n := ((bl m : Nat) : Int).toNat) (fun i H' => Same H H' ∧ H' D = some (.lst (nv (bitsL i m)))) ⟨same_new nD, upd_same⟩ ?_ ?_⟩
  · rintro i H' hi ⟨sm, hD⟩
    refine ⟨rfl, _, rfl, _, rfl, m, i, rfl, congrArg V.int (Int.zero_add _), _, 1, rfl, rfl, rfl, _, rfl, ?_⟩
    rw [bit_one]
    refine ite2 (fun e => ?_) (fun e => ?_)
    · refine ⟨_, rfl, _, hD, szl (by rw [nv_len]; have := bitsL_len_le i m; omega), Same.mut sm nD, ?_⟩
      rw [upd_same, bitsL_yes e, nv_app, Int.zero_add]; rfl
    · exact ⟨sm, by rw [bitsL_no (by simpa using e)]; exact hD⟩
  · rintro H' ⟨sm, hD⟩
    exact q H' D sm nD hD

def sp__law_made (K : PySem.W.Frag) : Sp := fun vs H Q _ => ∃ (a : Addr) (l : List Nat), vs = [.ref a] ∧ SqL K H a (nv l) ∧ (∀ w ∈ l, w ≤ 1000000) ∧ Q (.int (maskL l : Nat)) H
abbrev s__law_made : Stmt := topS 22
theorem sc__law_made : FnScope ["wires", "mask", "wire"] ["wires"] (defScope s__law_made) := ⟨rfl, rfl, rfl, by decide +kernel, rfl, by decide +kernel, by decide +kernel⟩
/-- slots: 0 wires 1 mask 2 wire -/
theorem dn__law_made (M : Mg mg) (C : Cg K mg) (g : Fg K mg "_law_made" s__law_made) : Dn P w K mg base CX0 "_law_made" 1 ["wires"] (sp__law_made K) := by
  refine dn_of g sc__law_made (fun vs H Q E h => by unfold sp__law_made at h; (repeat (obtain ⟨_, h⟩ := h)); subst_vars; rfl) (fun _ _ _ _ _ _ us hl => match us, hl with | [_], _ => rfl) (fun f cdv A outer s H vs Q E hr h => ?_)
  obtain ⟨a, l, rfl, hS, hw, q⟩ := h
  have nd := sc__law_made.nd
  refine ⟨_, (pss_cons (ps_set (i := 1) nd rfl (by first | exact Or.inl rfl | exact Or.inr rfl) pe_int)
    (pss_cons (ps_for PassesOwn.never rfl (G.pi_listK K (pv 0)) (pg_name (i := 2) nd rfl (by first | exact Or.inl rfl | exact Or.inr rfl)) (pss_one (ps_set (i := 1) nd rfl (by first | exact Or.inl rfl | exact Or.inr rfl) (pe_op G.op_orN (pv 1) (pe_op G.op_shlM pe_int (pv 2))))))
    (pss_one (ps_ret (pv 1))))), ?_⟩
  refine ⟨_, rfl, a, rfl, ⟨_, hS⟩, for_list (xs := nv l) (fun i σ H' => H' = H ∧ ∃ v, σ = [some (.ref a), some (.int (maskL (l.take i) : Nat)), v]) ⟨rfl, none, rfl⟩ (fun i σ H' _ ⟨h, _⟩ => h ▸ hS) ?_ ?_⟩
  · rintro i x σ H' hx ⟨rfl, v, rfl⟩
    obtain ⟨n, hn, rfl⟩ := nv_at hx
    refine ⟨_, rfl, _, rfl, 1, n, rfl, rfl, ⟨hw n (List.mem_of_getElem? hn), by decide⟩, maskL (l.take i), 1 <<< n, rfl, rfl, rfl, some (.int n), ?_⟩
    rw [take_more hn, maskL_snoc]
    rfl
  · rintro σ H' ⟨rfl, v, rfl⟩
    rw [nv_len, List.take_length]
    exact ⟨_, rfl, q⟩
def sp__law_gathered (K : PySem.W.Frag) : Sp := fun vs H Q _ => ∃ (m : Nat) (a : Addr) (l : List Nat), vs = [.int m, .ref a] ∧ SqL K H a (nv l) ∧ l.length ≤ 100000 ∧ Q (.int (gatF m l : Nat)) H
abbrev s__law_gathered : Stmt := topS 23
theorem sc__law_gathered : FnScope ["mask", "places", "found", "index"] ["mask", "places"] (defScope s__law_gathered) := ⟨rfl, rfl, rfl, by decide +kernel, rfl, by decide +kernel, by decide +kernel⟩
/-- slots: 0 mask 1 places 2 found 3 index -/
theorem dn__law_gathered (M : Mg mg) (C : Cg K mg) (g : Fg K mg "_law_gathered" s__law_gathered) : Dn P w K mg base CX0 "_law_gathered" 1 ["mask", "places"] (sp__law_gathered K) := by
  refine dn_of g sc__law_gathered (fun vs H Q E h => by unfold sp__law_gathered at h; (repeat (obtain ⟨_, h⟩ := h)); subst_vars; rfl) (fun _ _ _ _ _ _ us hl => match us, hl with | [_, _], _ => rfl) (fun f cdv A outer s H vs Q E hr h => ?_)
  obtain ⟨m, a, l, rfl, hS, hl, q⟩ := h
  have nd := sc__law_gathered.nd
  refine ⟨_, (pss_cons (ps_set (i := 2) nd rfl (by first | exact Or.inl rfl | exact Or.inr rfl) pe_int)
    (pss_cons (ps_for PassesOwn.never rfl (pi_range1 rfl M.range (pa_cons (pe_callB (G.call_lenK K) (by rfl) M.len PySem.boot_len (pa_cons (pv 1) pa_nil)) pa_nil)) (pg_name (i := 3) nd rfl (by first | exact Or.inl rfl | exact Or.inr rfl)) (pss_one (ps_if (pt_cmpR op_eq (pe_op G.op_andN (pe_op G.op_shrM (pv 0) (pe_ix (G.ix_listK K) (pv 1) (pv 3) (fun _ _ => rfl))) pe_int) pe_int (nomark _)) (pss_one (ps_set (i := 2) nd rfl (by first | exact Or.inl rfl | exact Or.inr rfl) (pe_op op_add (pv 2) (pe_op G.op_shlM pe_int (pv 3))))) pss_nil)))
    (pss_one (ps_ret (pv 2))))), ?_⟩
  refine ⟨_, rfl, a, _, rfl, .inl hS, _, rfl, by omega, by rw [nv_len]; omega, for_range (lo := 0) (n := (((nv l).length : Nat) : Int).toNat) (fun i σ H' => H' = H ∧ ∃ v, σ = [some (.int m), some (.ref a), some (.int (gatF m (l.take i) : Nat)), v]) ⟨rfl, none, rfl⟩ ?_ ?_⟩
  · rintro i σ H' hi ⟨rfl, v, rfl⟩
    rw [nv_len] at hi
    have hi2 : i < l.length := by omega
    have hn := List.getElem?_eq_getElem hi2
    refine ⟨_, rfl, _, rfl, _, rfl, a, _, _, .int (l[i] : Nat), rfl, rfl, hS, atI_of (Int.zero_add _) (nv_get hn), m, l[i], rfl, rfl, _, 1, rfl, rfl, rfl, _, rfl, ?_⟩
    rw [bit_one]
    have hlen : (l.take i).length = i := by rw [List.length_take, Nat.min_eq_left (by omega)]
    have hb := gatF_lt m (l.take i)
    rw [hlen] at hb
    refine ite2 (fun e => ?_) (fun e => ?_)
    · refine ⟨_, rfl, _, rfl, 1, i, rfl, congrArg V.int (Int.zero_add _), ⟨by omega, by decide⟩, gatF m (l.take i), 1 <<< i, rfl, rfl, rfl, some (.int (0 + (i : Int))), ?_⟩
      rw [take_more hn, gatF_snoc, if_pos e, hlen, ← add_or hb]
      rfl
    · refine ⟨rfl, some (.int (0 + (i : Int))), ?_⟩
      rw [take_more hn, gatF_snoc, if_neg e]
      rfl
  · rintro σ H' ⟨rfl, v, rfl⟩
    rw [show (((nv l).length : Nat) : Int).toNat = l.length by rw [nv_len]; omega, List.take_length]
    exact ⟨_, rfl, q⟩
def sp__law_scattered (K : PySem.W.Frag) : Sp := fun vs H Q _ => ∃ (m : Nat) (a : Addr) (l : List Nat), vs = [.int m, .ref a] ∧ SqL K H a (nv l) ∧ l.length ≤ 100000 ∧ Asc l ∧ (∀ p ∈ l, p ≤ 1000000) ∧ Q (.int (scaF m l : Nat)) H
abbrev s__law_scattered : Stmt := topS 24
theorem sc__law_scattered : FnScope ["mask", "places", "found", "index"] ["mask", "places"] (defScope s__law_scattered) := ⟨rfl, rfl, rfl, by decide +kernel, rfl, by decide +kernel, by decide +kernel⟩
/-- slots: 0 mask 1 places 2 found 3 index -/
theorem dn__law_scattered (M : Mg mg) (C : Cg K mg) (g : Fg K mg "_law_scattered" s__law_scattered) : Dn P w K mg base CX0 "_law_scattered" 1 ["mask", "places"] (sp__law_scattered K) := by
  refine dn_of g sc__law_scattered (fun vs H Q E h => by unfold sp__law_scattered at h; (repeat (obtain ⟨_, h⟩ := h)); subst_vars; rfl) (fun _ _ _ _ _ _ us hl => match us, hl with | [_, _], _ => rfl) (fun f cdv A outer s H vs Q E hr h => ?_)
  obtain ⟨m, a, l, rfl, hS, hl, ha, hp, q⟩ := h
  have nd := sc__law_scattered.nd
  refine ⟨_, (pss_cons (ps_set (i := 2) nd rfl (by first | exact Or.inl rfl | exact Or.inr rfl) pe_int)
    (pss_cons (ps_for PassesOwn.never rfl (pi_range1 rfl M.range (pa_cons (pe_callB (G.call_lenK K) (by rfl) M.len PySem.boot_len (pa_cons (pv 1) pa_nil)) pa_nil)) (pg_name (i := 3) nd rfl (by first | exact Or.inl rfl | exact Or.inr rfl)) (pss_one (ps_if (pt_cmpR op_eq (pe_op G.op_andN (pe_op G.op_shrM (pv 0) (pv 3)) pe_int) pe_int (nomark _)) (pss_one (ps_set (i := 2) nd rfl (by first | exact Or.inl rfl | exact Or.inr rfl) (pe_op op_add (pv 2) (pe_op G.op_shlM pe_int (pe_ix (G.ix_listK K) (pv 1) (pv 3) (fun _ _ => rfl)))))) pss_nil)))
    (pss_one (ps_ret (pv 2))))), ?_⟩
  refine ⟨_, rfl, a, _, rfl, .inl hS, _, rfl, by omega, by rw [nv_len]; omega, for_range (lo := 0) (n := (((nv l).length : Nat) : Int).toNat) (fun i σ H' => H' = H ∧ ∃ v, σ = [some (.int m), some (.ref a), some (.int (scaF m (l.take i) : Nat)), v]) ⟨rfl, none, rfl⟩ ?_ ?_⟩
  · rintro i σ H' hi ⟨rfl, v, rfl⟩
    rw [nv_len] at hi
    have hi2 : i < l.length := by omega
    have hn := List.getElem?_eq_getElem hi2
    have hlen : (l.take i).length = i := by rw [List.length_take, Nat.min_eq_left (by omega)]
    refine ⟨_, rfl, _, rfl, m, i, rfl, congrArg V.int (Int.zero_add _), _, 1, rfl, rfl, rfl, _, rfl, ?_⟩
    rw [bit_one]
    have hb := scaF_lt m (l.take i) (asc_take ha hn)
    refine ite2 (fun e => ?_) (fun e => ?_)
    · refine ⟨_, rfl, _, rfl, _, rfl, a, _, _, .int (l[i] : Nat), rfl, rfl, hS, atI_of (Int.zero_add _) (nv_get hn), 1, l[i], rfl, rfl, ⟨hp _ (List.getElem_mem hi2), by decide⟩, scaF m (l.take i), 1 <<< l[i], rfl, rfl, rfl, some (.int (0 + (i : Int))), ?_⟩
      rw [take_more hn, scaF_snoc, hlen, if_pos e, ← add_or hb]
      rfl
    · refine ⟨rfl, some (.int (0 + (i : Int))), ?_⟩
      rw [take_more hn, scaF_snoc, hlen, if_neg e]
      rfl
  · rintro σ H' ⟨rfl, v, rfl⟩
    rw [show (((nv l).length : Nat) : Int).toNat = l.length by rw [nv_len]; omega, List.take_length]
    exact ⟨_, rfl, q⟩
/-- _law_listed(pool, row): a new list of numbers below 512 -/
def sp__law_listed (K : PySem.W.Frag) : Sp := fun vs H Q _ => ∃ (p a : Addr) (l : List Nat), vs = [.ref p, .ref a] ∧ PoolAt H p ∧ a ≠ p ∧ H a = some (.lst (nv l)) ∧ l.length ≤ 1000 ∧ (∀ w ∈ l, w < 512) ∧
  ∀ (H' : Hp) (b : Addr) (t : List Nat), Pl p H H' → H b = none → b ≠ p → H' b = some (.lst (nv t)) → (∀ w ∈ t, w < 512) → t.length ≤ 1003 → Q (.ref b) H'
theorem nat_of512 (c : Int) : ∃ n : Nat, c % 512 = n ∧ n < 512 := ⟨(c % 512).toNat, by omega, by omega⟩
theorem nv_ins (t : List Nat) (i w : Nat) : List.take ((i : Int)).toNat (nv t) ++ [V.int w] ++ List.drop ((i : Int)).toNat (nv t) = nv (t.take i ++ [w] ++ t.drop i) := by
  unfold nv
  rw [Int.toNat_natCast, List.map_append, List.map_append, List.map_take, List.map_drop]; rfl
abbrev s__law_listed : Stmt := topS 25
theorem sc__law_listed : FnScope ["pool", "row", "turn", "codes", "wire", "listed", "code", "k", "place"] ["pool", "row"] (defScope s__law_listed) := ⟨rfl, rfl, rfl, by decide +kernel, rfl, by decide +kernel, by decide +kernel⟩
/-- slots: 0 pool 1 row 2 turn 3 codes 4 wire 5 listed 6 code 7 k 8 place -/
theorem dn__law_listed (M : Mg mg) (C : Cg K mg) (g : Fg K mg "_law_listed" s__law_listed) (D__law_take : Dn P w K mg base CX0 "_law_take" 1 ["pool", "limit"] (sp__law_take K)) : Dn P w K mg base CX0 "_law_listed" 2 ["pool", "row"] (sp__law_listed K) := by
  refine dn_of g sc__law_listed (fun vs H Q E h => by unfold sp__law_listed at h; (repeat (obtain ⟨_, h⟩ := h)); subst_vars; rfl) (fun _ _ _ _ _ _ us hl => match us, hl with | [_, _], _ => rfl) (fun f cdv A outer s H vs Q E hr h => ?_)
  obtain ⟨p, a, l, rfl, hp, hne, ha, hl, hw, q⟩ := h
  have nd := sc__law_listed.nd
  refine ⟨_, (pss_cons (ps_set (i := 2) nd rfl (by first | exact Or.inl rfl | exact Or.inr rfl) (pe_op op_add pe_int (G.pe_callD D__law_take (hr.mono (by decide)) pass0 (pa_cons (pv 0) (pa_cons pe_int pa_nil)))))
    (pss_cons (ps_set (i := 3) nd rfl (by first | exact Or.inl rfl | exact Or.inr rfl) (pe_callB (G.cr_sortedK K) (by rfl) M.sorted (by decide +kernel) (pa_cons (pe_lc (own := [("wire", 4)]) (g := (gName 4)) (tt := tYes) rfl nd (G.pi_listK K (pv 1)) (blkOk_by (by kernel_rfl)) (fun _ _ _ _ _ => (pg_name (i := 4) nd rfl (by first | exact Or.inl rfl | exact Or.inr rfl))) (fun _ _ _ _ _ => pts_nil) (fun _ _ _ _ _ => (pe_op op_add (pe_op op_mul (pe_op op_mod (pe_callTy call_int1 (by rfl) M.int (by decide +kernel) (pa_cons (pe_op op_mul (pv 4) (pv 2)) pa_nil)) pe_int) pe_int) (pv 4)))) pa_nil)))
    (pss_cons (ps_setLc (i := 5) (own := [("code", 6)]) (g := (gName 6)) (tt := tYes) rfl nd rfl rfl (sw_true rfl rfl rfl (by decide +kernel)) (G.pi_listK K (pv 3)) (blkOk_by (by kernel_rfl)) (fun _ _ _ _ _ => (pg_name (i := 6) nd rfl (by first | exact Or.inl rfl | exact Or.inr rfl))) (fun _ _ _ _ _ => pts_nil) (fun _ _ _ _ _ => (pe_op op_mod (pe_callTy call_int1 (by rfl) M.int (by decide +kernel) (pa_cons (pv 6) pa_nil)) pe_int)))
    (pss_cons (ps_for PassesOwn.never rfl (pi_range1 rfl M.range (pa_cons (G.pe_callD D__law_take (hr.mono (by decide)) pass0 (pa_cons (pv 0) (pa_cons pe_int pa_nil))) pa_nil)) (pg_name (i := 7) nd rfl (by first | exact Or.inl rfl | exact Or.inr rfl)) (pss_one (ps_if (pt_cmpR op_gt (pe_callB (G.call_lenK K) (by rfl) M.len PySem.boot_len (pa_cons (pv 5) pa_nil)) pe_int (nomark _)) (pss_cons (ps_set (i := 8) nd rfl (by first | exact Or.inl rfl | exact Or.inr rfl) (G.pe_callD D__law_take (hr.mono (by decide)) pass0 (pa_cons (pv 0) (pa_cons (pe_op op_add (pe_callB (G.call_lenK K) (by rfl) M.len PySem.boot_len (pa_cons (pv 5) pa_nil)) pe_int) pa_nil))))
    (pss_one (ps_expr (pe_bm PySem.F.plainAttrs_list PySem.F.slot_list_insert PySem.F.type_list_insert mt_insert (pv 5) (pa_cons (pv 8) (pa_cons (pe_ix (G.ix_listK K) (pv 5) (G.pe_callD D__law_take (hr.mono (by decide)) pass0 (pa_cons (pv 0) (pa_cons (pe_callB (G.call_lenK K) (by rfl) M.len PySem.boot_len (pa_cons (pv 5) pa_nil)) pa_nil))) (fun _ _ => rfl)) pa_nil)))))) pss_nil)))
    (pss_one (ps_ret (pv 5))))))), ?_⟩
  refine ⟨_, rfl, p, 306, rfl, hp, by omega, fun r ns h0 h1 => ?_⟩
  obtain ⟨r, rfl⟩ := nat_ex h0
  have l1 := (Pl.refl hp).draw ns
  generalize upd H p (.lst (ns.map V.int)) = H1 at l1 ⊢
  have ha1 := l1.get hne ha
  refine ⟨_, _, rfl, rfl, ?_⟩
  refine ⟨_, rfl, a, rfl, ⟨_, sq_lst ha1⟩, fun D nD => lc_list (K := K) (a := a) (xs := nv l) (fun j H2 => Same H1 H2 ∧ ∃ cs : List Int, cs.length = j ∧ H2 D = some (.lst (cs.map V.int))) ⟨same_new nD, [], rfl, upd_same⟩ (fun j H2 _ ⟨s3, _⟩ => sq_lst (s3 _ _ ha1)) ?_ ?_⟩
  · rintro j y H2 hy ⟨s3, cs, hc, hD⟩
    obtain ⟨n, hn, rfl⟩ := nv_at hy
    have hj : j < l.length := (List.getElem?_eq_some_iff.mp hn).1
    have hn2 := hw n (List.mem_of_getElem? hn)
    refine ⟨rfl, _, rfl, _, rfl, _, _, rfl, rfl, .inl ⟨by omega, by omega⟩, .inl ⟨_, rfl, _, _, rfl, rfl, by omega, _, _, rfl, rfl, .inr ⟨by omega, by omega⟩, _, rfl, _, _, rfl, rfl, _, hD, szl (by rw [List.length_map]; omega), Same.mut s3 nD, cs ++ [(n : Int) * (1 + (r : Int)) % 307 * 512 + (n : Int)], by rw [List.length_append, hc]; rfl, ?_⟩⟩
    rw [upd_same, List.map_append]; rfl
  rintro H2 ⟨s3, cs, hc, hD⟩
  rw [nv_len] at hc
  refine ⟨D, cs, rfl, sq_lst hD, fun ns' s hperm _ hs => ?_⟩
  have hlen : ns'.length = l.length := hperm.length_eq.trans hc
  have s4 : Same H1 (upd H2 s (.lst (ns'.map V.int))) := s3.new hs
  have l2 := l1.same s4
  have hS : (upd H2 s (.lst (ns'.map V.int))) s = some (.lst (ns'.map V.int)) := upd_same
  generalize upd H2 s (.lst (ns'.map V.int)) = H3 at *
  refine ⟨_, rfl, s, rfl, ⟨_, sq_lst hS⟩, fun D2 nD2 => lc_list (K := K) (a := s) (xs := ns'.map V.int) (fun j H4 => Same H3 H4 ∧ ∃ t : List Nat, t.length = j ∧ (∀ w ∈ t, w < 512) ∧ H4 D2 = some (.lst (nv t))) ⟨same_new nD2, [], rfl, by simp, upd_same⟩ (fun j H4 _ ⟨s5, _⟩ => sq_lst (s5 _ _ hS)) ?_ ?_⟩
  · rintro j y H4 hy ⟨s5, t, ht, hb, hD2⟩
    obtain ⟨c, hn, rfl⟩ := map_int_at hy
    have hj : j < ns'.length := (List.getElem?_eq_some_iff.mp hn).1
    obtain ⟨n, en, hn5⟩ := nat_of512 c
    refine ⟨rfl, _, rfl, .inl ⟨_, rfl, _, _, rfl, rfl, by omega, _, hD2, szl (by rw [nv_len]; omega), Same.mut s5 nD2, t ++ [n], by rw [List.length_append, ht]; rfl, ?_, ?_⟩⟩
    · intro w hm
      rw [List.mem_append, List.mem_singleton] at hm
      rcases hm with hm | rfl
      · exact hb w hm
      · exact hn5
    · rw [upd_same, nv_app]; dsimp only; rw [en]; rfl
  rintro H4 ⟨s5, t, ht, hb, hD2⟩
  have l3 := l2.same s5
  have noD := l2.none hp nD2
  have neD := hp.ne noD
  rw [List.length_map] at ht
  refine ⟨_, rfl, p, 4, rfl, l3.at_, by omega, fun r5 ns5 g0 g1 => ?_⟩
  obtain ⟨c, rfl⟩ := nat_ex g0
  refine ⟨_, rfl, by omega, by omega, for_range (lo := 0) (n := c) (fun i σ H' => Pl p H H' ∧ ∃ (t : List Nat) (v3 v4 v6 v7 v8 : Option V), H' D2 = some (.lst (nv t)) ∧ t.length ≤ l.length + i ∧ (∀ w ∈ t, w < 512) ∧ σ = [some (.ref p), some (.ref a), some (.int (1 + (r : Int))), v3, v4, some (.ref D2), v6, v7, v8])
    ⟨l3.draw ns5, t, _, _, _, _, _, by rw [upd_ne neD]; exact hD2, by omega, hb, rfl⟩ ?_ ?_⟩
  · rintro i σ H' hi ⟨hl', t, v3, v4, v6, v7, v8, hD, hlt, hw', rfl⟩
    refine ⟨_, rfl, D2, _, rfl, .inl (sq_lst hD), _, _, rfl, rfl, _, rfl, ite2d (fun e => ?_) (fun e => ?_)⟩
    · rw [nv_len] at e
      refine ⟨_, rfl, _, rfl, D2, _, rfl, .inl (sq_lst hD), _, _, rfl, rfl, p, _, rfl, hl'.at_, by omega, fun r6 ns6 k0 k1 => ?_⟩
      obtain ⟨x, rfl⟩ := nat_ex k0
      have l4 := hl'.draw ns6
      have hD4 : (upd H' p (.lst (ns6.map V.int))) D2 = some (.lst (nv t)) := by rw [upd_ne neD]; exact hD
      generalize upd H' p (.lst (ns6.map V.int)) = H5 at *
      refine ⟨_, rfl, .inl ⟨rfl, _, sq_lst hD4⟩, _, rfl, _, rfl, _, rfl, _, rfl, D2, _, rfl, .inl (sq_lst hD4), p, _, rfl, l4.at_, by rw [nv_len]; omega, fun r7 ns7 j0 j1 => ?_⟩
      obtain ⟨z, rfl⟩ := nat_ex j0
      rw [nv_len] at j1 k1
      have hz : z < t.length := by omega
      have hD5 : (upd H5 p (.lst (ns7.map V.int))) D2 = some (.lst (nv t)) := by rw [upd_ne neD]; exact hD4
      refine ⟨D2, _, _, .int (t[z] : Nat), rfl, rfl, sq_lst hD5, atI_nat (nv_get (List.getElem?_eq_getElem hz)), D2, _, _, _, rfl, rfl, hD5, szl (by rw [nv_len]; omega), by omega, by omega, ?_⟩
      refine ⟨(l4.draw ns7).mut noD neD, t.take x ++ [t[z]] ++ t.drop x, _, _, _, _, _, by rw [upd_same, nv_ins], ?_, ?_, rfl⟩
      · simp only [List.length_append, List.length_take, List.length_drop, List.length_singleton]; omega
      · intro w hm
        rw [List.mem_append, List.mem_append, List.mem_singleton] at hm
        rcases hm with (hm | rfl) | hm
        · exact hw' w (List.mem_of_mem_take hm)
        · exact hw' _ (List.getElem_mem hz)
        · exact hw' w (List.mem_of_mem_drop hm)
    · exact ⟨hl', t, _, _, _, _, _, hD, by omega, hw', rfl⟩
  · rintro σ H' ⟨hl', t, v3, v4, v6, v7, v8, hD, hlt, hw', rfl⟩
    exact ⟨_, rfl, q H' D2 t hl' noD neD hD hw' (by omega)⟩
/-- _law_spread(pool, count): an ascending list of count numbers, below 40 + 20 * count -/
def sp__law_spread (_K : PySem.W.Frag) : Sp := fun vs H Q _ => ∃ (p : Addr) (c : Nat), vs = [.ref p, .int c] ∧ PoolAt H p ∧ c ≤ 1000 ∧
  ∀ (H' : Hp) (a : Addr) (l : List Nat), Pl p H H' → H a = none → a ≠ p → H' a = some (.lst (nv l)) → Asc l → l.length = c → (∀ w ∈ l, w < 40 + 20 * c) → Q (.ref a) H'
abbrev s__law_spread : Stmt := topS 26
theorem sc__law_spread : FnScope ["pool", "count", "wires", "place", "k"] ["pool", "count"] (defScope s__law_spread) := ⟨rfl, rfl, rfl, by decide +kernel, rfl, by decide +kernel, by decide +kernel⟩
/-- slots: 0 pool 1 count 2 wires 3 place 4 k -/
theorem dn__law_spread (M : Mg mg) (C : Cg K mg) (g : Fg K mg "_law_spread" s__law_spread) (D__law_take : Dn P w K mg base CX0 "_law_take" 1 ["pool", "limit"] (sp__law_take K)) : Dn P w K mg base CX0 "_law_spread" 2 ["pool", "count"] (sp__law_spread K) := by
  refine dn_of g sc__law_spread (fun vs H Q E h => by unfold sp__law_spread at h; (repeat (obtain ⟨_, h⟩ := h)); subst_vars; rfl) (fun _ _ _ _ _ _ us hl => match us, hl with | [_, _], _ => rfl) (fun f cdv A outer s H vs Q E hr h => ?_)
  obtain ⟨p, c, rfl, hp, hc, q⟩ := h
  have nd := sc__law_spread.nd
  refine ⟨_, (pss_cons (ps_set (i := 2) nd rfl (by first | exact Or.inl rfl | exact Or.inr rfl) (pe_lst pa_nil))
    (pss_cons (ps_set (i := 3) nd rfl (by first | exact Or.inl rfl | exact Or.inr rfl) (G.pe_callD D__law_take (hr.mono (by decide)) pass0 (pa_cons (pv 0) (pa_cons pe_int pa_nil))))
    (pss_cons (ps_for PassesOwn.never rfl (pi_range1 rfl M.range (pa_cons (pv 1) pa_nil)) (pg_name (i := 4) nd rfl (by first | exact Or.inl rfl | exact Or.inr rfl)) (pss_cons (ps_expr (pe_bm PySem.F.plainAttrs_list PySem.F.slot_list_append PySem.F.type_list_append mt_append (pv 2) (pa_cons (pv 3) pa_nil)))
    (pss_one (ps_set (i := 3) nd rfl (by first | exact Or.inl rfl | exact Or.inr rfl) (pe_op op_add (pe_op op_add (pv 3) pe_int) (G.pe_callD D__law_take (hr.mono (by decide)) pass0 (pa_cons (pv 0) (pa_cons pe_int pa_nil))))))))
    (pss_one (ps_ret (pv 2)))))), ?_⟩
  refine ⟨Nat.zero_le _, fun o no => ?_⟩
  have l0 : Pl p H (upd H o (.lst [])) := (Pl.refl hp).new no
  have ne := hp.ne no
  refine ⟨_, rfl, p, 40, rfl, l0.at_, by omega, fun r ns h0 h1 => ?_⟩
  obtain ⟨r, rfl⟩ := nat_ex h0
  refine ⟨_, rfl, c, rfl, by omega, by omega, for_range (lo := 0) (n := c) (fun i σ H' => Pl p H H' ∧ ∃ (l : List Nat) (place : Nat) (v : Option V), H' o = some (.lst (nv l)) ∧ l.length = i ∧ Asc l ∧ (∀ w ∈ l, w < place) ∧ place < 40 + 20 * i ∧ σ = [some (.ref p), some (.int c), some (.ref o), some (.int place), v])
    ⟨l0.draw ns, [], r, none, by rw [upd_ne ne]; exact upd_same, rfl, by simp [Asc], by simp, by omega, rfl⟩ ?_ ?_⟩
  · rintro i σ H' hi ⟨hl, l, pl, v, ho, hlen, ha, hw, hpl, rfl⟩
    refine ⟨_, rfl, .inl ⟨rfl, _, sq_lst ho⟩, _, rfl, o, _, _, rfl, rfl, ho, szl (by rw [nv_len]; omega), ?_⟩
    have l1 := hl.mut (o := .lst (nv l ++ [V.int pl])) no ne
    refine ⟨_, rfl, _, _, rfl, rfl, _, rfl, p, 20, rfl, l1.at_, by omega, fun r ms g0 g1 => ?_⟩
    obtain ⟨r, rfl⟩ := nat_ex g0
    refine ⟨_, _, rfl, rfl, l1.draw ms, l ++ [pl], pl + 1 + r, _, ?_, ?_, asc_snoc ha hw, ?_, ?_, rfl⟩
    · rw [upd_ne ne, upd_same, nv_app]; rfl
    · rw [List.length_append, hlen]; rfl
    · intro w hm
      rw [List.mem_append, List.mem_singleton] at hm
      rcases hm with hm | rfl
      · have := hw w hm; omega
      · omega
    · omega
  · rintro σ H' ⟨hl, l, pl, v, ho, hlen, ha, hw, hpl, rfl⟩
    exact ⟨_, rfl, q H' o l hl no ne ho ha hlen fun w hm => by have := hw w hm; omega⟩
def sp__law_counted (_K : PySem.W.Frag) : Sp := fun vs H Q _ => ∃ (p : Addr) (m o : Nat), vs = [.ref p, .int m, .int o] ∧ PoolAt H p ∧ m < 2 ^ 400 ∧ ∀ H', Pl p H H' → Q (.bl true) H'
theorem eq_dec (n m : Nat) : decide (V.int (n : Int) = V.int (m : Int)) = decide (n = m) := by
  refine decide_eq_decide.mpr ⟨fun h => ?_, fun h => by rw [h]⟩
  have := V.int.inj h
  omega
abbrev s__law_counted : Stmt := topS 27
theorem sc__law_counted : FnScope ["pool", "mask", "other", "row", "told", "loose", "k", "listed", "due", "handed", "pair"] ["pool", "mask", "other"] (defScope s__law_counted) := ⟨rfl, rfl, rfl, by decide +kernel, rfl, by decide +kernel, by decide +kernel⟩
/-- slots: 0 pool 1 mask 2 other 3 row 4 told 5 loose 6 k 7 listed 8 due 9 handed 10 pair -/
theorem dn__law_counted (M : Mg mg) (C : Cg K mg) (g : Fg K mg "_law_counted" s__law_counted) (D__law_wires : Dn P w K mg base CX0 "_law_wires" 1 ["mask"] (sp__law_wires K)) (D_wires_of : Dn P w K mg base CX0 "wires_of" 1 ["mask"] (sp_wires_of K)) (D__law_same : Dn P w K mg base CX0 "_law_same" 1 ["told", "due"] (sp__law_same K)) (D__law_take : Dn P w K mg base CX0 "_law_take" 1 ["pool", "limit"] (sp__law_take K)) (D__law_listed : Dn P w K mg base CX0 "_law_listed" 2 ["pool", "row"] (sp__law_listed K)) (D__law_made : Dn P w K mg base CX0 "_law_made" 1 ["wires"] (sp__law_made K)) (D_size_of : Dn P w K mg base CX0 "size_of" 1 ["mask"] (sp_size_of K)) (D_contains : Dn P w K mg base CX0 "contains" 1 ["outer", "inner"] (sp_contains K)) (D_mask_of : Dn P w K mg base CX0 "mask_of" 1 ["wires"] (sp_mask_of K)) : Dn P w K mg base CX0 "_law_counted" 3 ["pool", "mask", "other"] (sp__law_counted K) := by
  refine dn_of g sc__law_counted (fun vs H Q E h => by unfold sp__law_counted at h; (repeat (obtain ⟨_, h⟩ := h)); subst_vars; rfl) (fun _ _ _ _ _ _ us hl => match us, hl with | [_, _, _], _ => rfl) (fun f cdv A outer s H vs Q E hr h => ?_)
  obtain ⟨p, m, o, rfl, hp, hm, q⟩ := h
  have nd := sc__law_counted.nd
  refine ⟨_, (pss_cons (ps_set (i := 3) nd rfl (by first | exact Or.inl rfl | exact Or.inr rfl) (G.pe_callD D__law_wires (hr.mono (by decide)) pass0 (pa_cons (pv 1) pa_nil)))
    (pss_cons (ps_set (i := 4) nd rfl (by first | exact Or.inl rfl | exact Or.inr rfl) (G.pe_callD D_wires_of (hr.mono (by decide)) pass0 (pa_cons (pv 1) pa_nil)))
    (pss_cons (ps_if (PW.pt (pw_or (pt_not (pt_val (G.pe_callD D__law_same (hr.mono (by decide)) pass0 (pa_cons (G.pe_callD D_size_of (hr.mono (by decide)) pass0 (pa_cons (pv 1) pa_nil)) (pa_cons (pe_callB (G.call_lenK K) (by rfl) M.len PySem.boot_len (pa_cons (pv 3) pa_nil)) pa_nil))))) (pw_or1 (pt_not (pt_val (G.pe_callD D__law_same (hr.mono (by decide)) pass0 (pa_cons (pv 4) (pa_cons (pv 3) pa_nil)))))))) (pss_one (ps_ret pe_bl)) pss_nil)
    (pss_cons (ps_expr (pe_bm PySem.F.plainAttrs_list PySem.F.slot_list_append PySem.F.type_list_append mt_append (pv 4) (pa_cons (pe_un un_neg pe_int) pa_nil)))
    (pss_cons (ps_if (pt_not (pt_val (G.pe_callD D__law_same (hr.mono (by decide)) pass0 (pa_cons (G.pe_callD D_wires_of (hr.mono (by decide)) pass0 (pa_cons (pv 1) pa_nil)) (pa_cons (pv 3) pa_nil))))) (pss_one (ps_ret pe_bl)) pss_nil)
    (pss_cons (ps_setLc (i := 5) (own := [("k", 6)]) (g := (gName 6)) (tt := tYes) rfl nd rfl rfl (sw_true rfl rfl rfl (by decide +kernel)) (pi_range1 rfl M.range (pa_cons (G.pe_callD D__law_take (hr.mono (by decide)) pass0 (pa_cons (pv 0) (pa_cons pe_int pa_nil))) pa_nil)) (blkOk_by (by kernel_rfl)) (fun _ _ _ _ _ => (pg_name (i := 6) nd rfl (by first | exact Or.inl rfl | exact Or.inr rfl))) (fun _ _ _ _ _ => pts_nil) (fun _ _ _ _ _ => (G.pe_callD D__law_take (hr.mono (by decide)) pass0 (pa_cons (pv 0) (pa_cons pe_int pa_nil)))))
    (pss_cons (ps_for PassesOwn.never rfl (G.pi_listK K (pe_lst (pa_cons (G.pe_callD D__law_listed (hr.mono (by decide)) pass0 (pa_cons (pv 0) (pa_cons (pv 3) pa_nil))) (pa_cons (pv 5) pa_nil)))) (pg_name (i := 7) nd rfl (by first | exact Or.inl rfl | exact Or.inr rfl)) (pss_cons (ps_set (i := 8) nd rfl (by first | exact Or.inl rfl | exact Or.inr rfl) (G.pe_callD D__law_made (hr.mono (by decide)) pass0 (pa_cons (pv 7) pa_nil)))
    (pss_cons (ps_set (i := 9) nd rfl (by first | exact Or.inl rfl | exact Or.inr rfl) (pe_callTy (G.call_listK K) (by rfl) M.list (by decide +kernel) (pa_cons (pv 7) pa_nil)))
    (pss_one (ps_if (PW.pt (pw_or (pt_not (pt_val (G.pe_callD D__law_same (hr.mono (by decide)) pass0 (pa_cons (G.pe_callD D_mask_of (hr.mono (by decide)) pass0 (pa_cons (pv 9) pa_nil)) (pa_cons (pv 8) pa_nil))))) (pw_or1 (pt_cmpR (G.op_neDK K hr.units) (pv 9) (pv 7) (nomark _))))) (pss_one (ps_ret pe_bl)) pss_nil)))))
    (pss_cons (ps_for PassesOwn.never rfl (G.pi_listK K (pe_lst (pa_cons (pe_tup (pa_cons (pv 1) (pa_cons (pv 2) pa_nil))) (pa_cons (pe_tup (pa_cons (pv 2) (pa_cons (pv 1) pa_nil))) (pa_cons (pe_tup (pa_cons (pv 1) (pa_cons (pv 1) pa_nil))) (pa_cons (pe_tup (pa_cons (pv 1) (pa_cons pe_int pa_nil))) (pa_cons (pe_tup (pa_cons pe_int (pa_cons (pv 1) pa_nil))) pa_nil))))))) (pg_name (i := 10) nd rfl (by first | exact Or.inl rfl | exact Or.inr rfl)) (pss_one (ps_if (pt_not (pt_val (G.pe_callD D__law_same (hr.mono (by decide)) pass0 (pa_cons (G.pe_callD D_contains (hr.mono (by decide)) pass0 (pa_cons (pe_ix (G.ix_tupK K) (pv 10) pe_int (fun _ _ => rfl)) (pa_cons (pe_ix (G.ix_tupK K) (pv 10) pe_int (fun _ _ => rfl)) pa_nil))) (pa_cons (pe_cmpR op_eq (pe_op G.op_andN (pe_ix (G.ix_tupK K) (pv 10) pe_int (fun _ _ => rfl)) (pe_ix (G.ix_tupK K) (pv 10) pe_int (fun _ _ => rfl))) (pe_ix (G.ix_tupK K) (pv 10) pe_int (fun _ _ => rfl)) (nomark _)) pa_nil))))) (pss_one (ps_ret pe_bl)) pss_nil)))
    (pss_one (ps_ret pe_bl)))))))))), ?_⟩
  have hm2 : m < 2 ^ 100000 := Nat.lt_of_lt_of_le hm (Nat.pow_le_pow_right (by decide) (by decide))
  have hlen : (wl m).length ≤ 400 := Nat.le_trans (bitsL_len_le _ _) (bl_le hm)
  have hw512 : ∀ w ∈ wl m, w < 512 := fun w h => by
    have h1 : m.testBit w = true := mem_wl.mp h
    by_cases c : w < 512
    · exact c
    · rw [Nat.testBit_lt_two_pow (Nat.lt_of_lt_of_le hm (Nat.pow_le_pow_right (by decide) (by omega)))] at h1
      cases h1
  have hsz : (Dt.lst (G.nd (wl m))).size ≤ 190000 := by rw [size_nd]; omega
  refine ⟨_, rfl, m, rfl, hm2, fun H1 w s1 nw hw => ?_⟩
  refine ⟨_, rfl, m, rfl, hm2, fun H2 t s2 nt ht => ?_⟩
  refine ⟨_, rfl, m, rfl, _, rfl, w, _, rfl, .inl (sq_lst (s2 _ _ hw)), _, _, .int (popc m : Nat), rfl, is_int _, ?_, by simp [Dt.size], fun H3 s3 => ⟨true, rfl, iteF ?_⟩⟩
  · rw [nv_len, wl_len]; exact is_int _
  refine ⟨_, rfl, _, rfl, _, _, .lst (G.nd (wl m)), rfl, is_nv (s3 _ _ ht), is_nv (s3 _ _ (s2 _ _ hw)), hsz, fun H4 s4 => ⟨true, rfl, iteF ?_⟩⟩
  have s24 := s3.trans s4
  refine ⟨_, rfl, .inl ⟨rfl, _, sq_lst (s24 _ _ ht)⟩, _, rfl, t, _, _, rfl, rfl, s24 _ _ ht, szl (by rw [nv_len]; omega), ?_⟩
  have s15 : Same H1 (upd H4 t (.lst (nv (wl m) ++ [V.int (-1)]))) := Same.mut (s2.trans s24) nt
  generalize upd H4 t (.lst (nv (wl m) ++ [V.int (-1)])) = H5 at s15 ⊢
  refine ⟨_, rfl, m, rfl, hm2, fun H6 t2 s6 nt2 ht2 => ⟨_, rfl, _, _, .lst (G.nd (wl m)), rfl, is_nv ht2, is_nv (s6 _ _ (s15 _ _ hw)), hsz, fun H7 s7 => ⟨true, rfl, iteF ?_⟩⟩⟩
  have s17 := s15.trans (s6.trans s7)
  have l7 : Pl p H H7 := (Pl.refl hp).same (s1.trans s17)
  have nwp : w ≠ p := hp.ne nw
  have hw7 := s17 _ _ hw
  refine ⟨_, rfl, p, 6, rfl, l7.at_, by omega, fun r ns h0 h1 => ?_⟩
  obtain ⟨r, rfl⟩ := nat_ex h0
  have l8 := l7.draw ns
  have hw8 : (upd H7 p (.lst (ns.map V.int))) w = some (.lst (nv (wl m))) := by rw [upd_ne nwp]; exact hw7
  generalize upd H7 p (.lst (ns.map V.int)) = H8 at l8 hw8 ⊢
  refine ⟨_, rfl, by omega, by omega, fun D nD => ?_⟩
  have nDH := l8.none hp nD
  have nDp := hp.ne nDH
  have nwD : w ≠ D := ne_of_none hw8 nD
  refine lc_range (lo := 0) (n := r) (fun i H' => Pl p H H' ∧ H' w = some (.lst (nv (wl m))) ∧ ∃ l : List Nat, l.length = i ∧ (∀ x ∈ l, x < 512) ∧ H' D = some (.lst (nv l))) ⟨l8.new nD, by rw [upd_ne nwD]; exact hw8, [], rfl, by simp, upd_same⟩ ?_ ?_
  · rintro i H' hi ⟨lp, hw', l, hl, hb, hD⟩
    refine ⟨rfl, _, rfl, p, 301, rfl, lp.at_, by omega, fun x ns5 g0 g1 => ?_⟩
    obtain ⟨x, rfl⟩ := nat_ex g0
    refine ⟨nv l, by rw [upd_ne nDp]; exact hD, szl (by rw [nv_len]; omega), (lp.draw ns5).mut nDH nDp, ?_, l ++ [x], by rw [List.length_append, hl]; rfl, ?_, by rw [upd_same, nv_app]; rfl⟩
    · rw [upd_ne nwD, upd_ne nwp]; exact hw'
    · intro y hy
      rw [List.mem_append, List.mem_singleton] at hy
      rcases hy with hy | rfl
      · exact hb y hy
      · omega
  rintro H9 ⟨l9, hw9, loose, hlo, hb, hD⟩
  refine ⟨_, rfl, _, rfl, p, w, wl m, rfl, l9.at_, nwp, hw9, by omega, hw512, fun H10 b tl l910 nb nbp hb10 htl htll => ⟨_, rfl, sz (by simp), fun lt nlt => ?_⟩⟩
  have hD10 : H10 D = some (.lst (nv loose)) := l910.get nDp hD
  have l10 := l9.trans l910
  have l11 := l10.new (o := .lst [V.ref b, V.ref D]) nlt
  have hlt : (upd H10 lt (.lst [V.ref b, V.ref D])) lt = some (.lst [V.ref b, V.ref D]) := upd_same
  have hb11 := same_new (o := .lst [V.ref b, V.ref D]) nlt _ _ hb10
  have hD11 := same_new (o := .lst [V.ref b, V.ref D]) nlt _ _ hD10
  generalize upd H10 lt (.lst [V.ref b, V.ref D]) = H11 at *
  refine ⟨lt, rfl, ⟨_, sq_lst hlt⟩, for_list (xs := [V.ref b, V.ref D]) (fun i σ H' => Same H11 H' ∧ ∃ v3 v4 v5 v6 v7 v8 v9 v10, σ = [some (.ref p), some (.int m), some (.int o), v3, v4, v5, v6, v7, v8, v9, v10]) ⟨Same.refl _, _, _, _, _, _, _, _, _, rfl⟩ (fun i σ H' _ z => sq_lst (z.1 _ _ hlt)) ?_ ?_⟩
  · rintro i x σ H' hx ⟨s, v3, v4, v5, v6, v7, v8, v9, v10, rfl⟩
    have hx2 : ∃ (y : Addr) (l : List Nat), x = .ref y ∧ H11 y = some (.lst (nv l)) ∧ (∀ w ∈ l, w < 512) ∧ l.length ≤ 1003 := by
      have := List.mem_of_getElem? hx
      simp only [List.mem_cons, List.not_mem_nil, or_false] at this
      rcases this with rfl | rfl
      · exact ⟨b, tl, rfl, hb11, htl, htll⟩
      · exact ⟨D, loose, rfl, hD11, hb, by omega⟩
    obtain ⟨y, l, rfl, hy, hl1, hl2⟩ := hx2
    have hl3 : ∀ w ∈ l, w ≤ 1000000 := fun w h => by have := hl1 w h; omega
    have hy' := s _ _ hy
    refine ⟨_, rfl, y, l, rfl, sq_lst hy', hl3, _, rfl, y, _, rfl, .inl (sq_lst hy'), fun h nh => ?_⟩
    have hh : (upd H' h (.lst (nv l))) h = some (.lst (nv l)) := upd_same
    have s2 := s.new (o := .lst (nv l)) nh
    generalize upd H' h (.lst (nv l)) = H12 at *
    refine ⟨_, rfl, h, l, rfl, sq_lst hh, hl3, _, rfl, _, _, .int (maskL l : Nat), rfl, is_int _, is_int _, by simp [Dt.size], fun H13 s13 => ⟨true, rfl, iteF ⟨_, rfl, _, rfl, ne_nats (sq_lst (s13 _ _ hh)) (sq_lst (s13 _ _ (s2 _ _ hy))) ⟨_, rfl, iteF ?_⟩⟩⟩⟩
    exact ⟨s2.trans s13, _, _, _, _, _, _, _, _, rfl⟩
  rintro σ H12 ⟨s12, v3, v4, v5, v6, v7, v8, v9, v10, rfl⟩
  have l12 := l11.same s12
  refine ⟨_, rfl, _, rfl, sz (by simp), fun t1 n1 => ⟨_, rfl, _, rfl, sz (by simp), fun t2 n2 => ⟨_, rfl, _, rfl, sz (by simp), fun t3 n3 => ⟨_, rfl, sz (by simp), fun t4 n4 => ⟨_, rfl, sz (by simp), fun t5 n5 => ⟨sz (by simp), fun pl npl => ?_⟩⟩⟩⟩⟩⟩
  have q1 := same_new (o := .tup [V.int m, V.int o]) n1
  have e1 : (upd H12 t1 (.tup [V.int m, V.int o])) t1 = some (.tup [V.int m, V.int o]) := upd_same
  generalize upd H12 t1 (.tup [V.int m, V.int o]) = J1 at *
  have q2 := same_new (o := .tup [V.int o, V.int m]) n2
  have e2 : (upd J1 t2 (.tup [V.int o, V.int m])) t2 = some (.tup [V.int o, V.int m]) := upd_same
  generalize upd J1 t2 (.tup [V.int o, V.int m]) = J2 at *
  have q3 := same_new (o := .tup [V.int m, V.int m]) n3
  have e3 : (upd J2 t3 (.tup [V.int m, V.int m])) t3 = some (.tup [V.int m, V.int m]) := upd_same
  generalize upd J2 t3 (.tup [V.int m, V.int m]) = J3 at *
  have q4 := same_new (o := .tup [V.int m, V.int 0]) n4
  have e4 : (upd J3 t4 (.tup [V.int m, V.int 0])) t4 = some (.tup [V.int m, V.int (0 : Nat)]) := upd_same
  generalize upd J3 t4 (.tup [V.int m, V.int 0]) = J4 at *
  have q5 := same_new (o := .tup [V.int 0, V.int m]) n5
  have e5 : (upd J4 t5 (.tup [V.int 0, V.int m])) t5 = some (.tup [V.int (0 : Nat), V.int m]) := upd_same
  generalize upd J4 t5 (.tup [V.int 0, V.int m]) = J5 at *
  have q6 := same_new (o := .lst [V.ref t1, V.ref t2, V.ref t3, V.ref t4, V.ref t5]) npl
  have e6 : (upd J5 pl (.lst [V.ref t1, V.ref t2, V.ref t3, V.ref t4, V.ref t5])) pl = some (.lst [V.ref t1, V.ref t2, V.ref t3, V.ref t4, V.ref t5]) := upd_same
  generalize upd J5 pl (.lst [V.ref t1, V.ref t2, V.ref t3, V.ref t4, V.ref t5]) = J6 at *
  have l13 := l12.same (q1.trans (q2.trans (q3.trans (q4.trans (q5.trans q6)))))
  refine ⟨pl, rfl, ⟨_, sq_lst e6⟩, for_list (xs := [V.ref t1, V.ref t2, V.ref t3, V.ref t4, V.ref t5]) (fun i σ H' => Same J6 H' ∧ ∃ v3 v4 v5 v6 v7 v8 v9 v10, σ = [some (.ref p), some (.int m), some (.int o), v3, v4, v5, v6, v7, v8, v9, v10]) ⟨Same.refl _, _, _, _, _, _, _, _, _, rfl⟩ (fun i σ H' _ z => sq_lst (z.1 _ _ e6)) ?_ ?_⟩
  · rintro i x σ H' hx ⟨s, v3, v4, v5, v6, v7, v8, v9, v10, rfl⟩
    have hx2 : ∃ (t : Addr) (u v : Nat), x = .ref t ∧ J6 t = some (.tup [.int u, .int v]) := by
      have := List.mem_of_getElem? hx
      simp only [List.mem_cons, List.not_mem_nil, or_false] at this
      rcases this with rfl | rfl | rfl | rfl | rfl
      · exact ⟨t1, _, _, rfl, q6 _ _ (q5 _ _ (q4 _ _ (q3 _ _ (q2 _ _ e1))))⟩
      · exact ⟨t2, _, _, rfl, q6 _ _ (q5 _ _ (q4 _ _ (q3 _ _ e2)))⟩
      · exact ⟨t3, _, _, rfl, q6 _ _ (q5 _ _ (q4 _ _ e3))⟩
      · exact ⟨t4, _, _, rfl, q6 _ _ (q5 _ _ e4)⟩
      · exact ⟨t5, _, _, rfl, q6 _ _ e5⟩
    obtain ⟨t, u, v, rfl, ht⟩ := hx2
    have et := s _ _ ht
    refine ⟨_, rfl, t, _, 0, .int u, rfl, rfl, sq_tup et, rfl, _, rfl, t, _, 1, .int v, rfl, rfl, sq_tup et, rfl, u, v, rfl, ?_⟩
    refine ⟨_, rfl, t, _, 0, .int u, rfl, rfl, sq_tup et, rfl, _, rfl, t, _, 1, .int v, rfl, rfl, sq_tup et, rfl, u, v, rfl, rfl, _, rfl, t, _, 1, .int v, rfl, rfl, sq_tup et, rfl, rfl, _, _, .bl (decide (u &&& v = v)), rfl, is_bl _, by rw [eq_dec]; exact is_bl _, by simp [Dt.size], fun H2 s2 => ⟨true, rfl, iteF ?_⟩⟩
    exact ⟨s.trans s2, _, _, _, _, _, _, _, _, rfl⟩
  · rintro σ H' ⟨s, v3, v4, v5, v6, v7, v8, v9, v10, rfl⟩
    exact q H' (l13.same s)
def sp__law_balls (_K : PySem.W.Frag) : Sp := fun vs H Q _ => ∃ (p : Addr) (n : Nat), vs = [.ref p, .int n] ∧ PoolAt H p ∧ n ≤ 300 ∧ ∀ H', Pl p H H' → Q (.bl true) H'
abbrev s__law_balls : Stmt := topS 28
theorem sc__law_balls : FnScope ["pool", "wires", "many", "radius", "most"] ["pool", "wires"] (defScope s__law_balls) := ⟨rfl, rfl, rfl, by decide +kernel, rfl, by decide +kernel, by decide +kernel⟩
/-- slots: 0 pool 1 wires 2 many 3 radius 4 most -/
theorem dn__law_balls (M : Mg mg) (C : Cg K mg) (g : Fg K mg "_law_balls" s__law_balls) (D__law_take : Dn P w K mg base CX0 "_law_take" 1 ["pool", "limit"] (sp__law_take K)) (D__law_same : Dn P w K mg base CX0 "_law_same" 1 ["told", "due"] (sp__law_same K)) (D_ball : Dn P w K mg base CX0 "ball" 1 ["wires", "radius"] (sp_ball K)) (D__law_ball : Dn P w K mg base CX0 "_law_ball" 1 ["wires", "most"] (sp__law_ball K)) : Dn P w K mg base CX0 "_law_balls" 2 ["pool", "wires"] (sp__law_balls K) := by
  refine dn_of g sc__law_balls (fun vs H Q E h => by unfold sp__law_balls at h; (repeat (obtain ⟨_, h⟩ := h)); subst_vars; rfl) (fun _ _ _ _ _ _ us hl => match us, hl with | [_, _], _ => rfl) (fun f cdv A outer s H vs Q E hr h => ?_)
  obtain ⟨p, n, rfl, hp, hn, q⟩ := h
  have nd := sc__law_balls.nd
  refine ⟨_, (pss_cons (ps_for PassesOwn.never rfl (G.pi_listK K (pe_lst (pa_cons (pv 1) (pa_cons (G.pe_callD D__law_take (hr.mono (by decide)) pass0 (pa_cons (pv 0) (pa_cons pe_int pa_nil))) (pa_cons (G.pe_callD D__law_take (hr.mono (by decide)) pass0 (pa_cons (pv 0) (pa_cons pe_int pa_nil))) pa_nil))))) (pg_name (i := 2) nd rfl (by first | exact Or.inl rfl | exact Or.inr rfl)) (pss_cons (ps_set (i := 3) nd rfl (by first | exact Or.inl rfl | exact Or.inr rfl) (G.pe_callD D__law_take (hr.mono (by decide)) pass0 (pa_cons (pv 0) (pa_cons (pe_ix (G.ix_listK K) (pe_lst (pa_cons pe_int (pa_cons (pe_op op_add (pv 2) pe_int) pa_nil))) (G.pe_callD D__law_take (hr.mono (by decide)) pass0 (pa_cons (pv 0) (pa_cons pe_int pa_nil))) (fun _ _ => rfl)) pa_nil))))
    (pss_one (ps_for PassesOwn.never rfl (G.pi_listK K (pe_lst (pa_cons (pv 3) (pa_cons (pe_op op_add (pe_op op_add (pv 2) (pe_op op_mul pe_int (G.pe_callD D__law_take (hr.mono (by decide)) pass0 (pa_cons (pv 0) (pa_cons pe_int pa_nil))))) (G.pe_callD D__law_take (hr.mono (by decide)) pass0 (pa_cons (pv 0) (pa_cons pe_int pa_nil)))) pa_nil)))) (pg_name (i := 4) nd rfl (by first | exact Or.inl rfl | exact Or.inr rfl)) (pss_one (ps_if (pt_not (pt_val (G.pe_callD D__law_same (hr.mono (by decide)) pass0 (pa_cons (G.pe_callD D_ball (hr.mono (by decide)) pass0 (pa_cons (pv 2) (pa_cons (pv 4) pa_nil))) (pa_cons (G.pe_callD D__law_ball (hr.mono (by decide)) pass0 (pa_cons (pv 2) (pa_cons (pv 4) pa_nil))) pa_nil))))) (pss_one (ps_ret pe_bl)) pss_nil))))))
    (pss_one (ps_ret pe_bl))), ?_⟩
  refine ⟨_, rfl, _, rfl, p, 301, rfl, hp, by omega, fun r1 ns1 h0 h1 => ?_⟩
  have l1 := (Pl.refl hp).draw ns1
  generalize upd H p (.lst (ns1.map V.int)) = H1 at l1 ⊢
  refine ⟨_, rfl, p, 9, rfl, l1.at_, by omega, fun r2 ns2 h2 h3 => ?_⟩
  have l2 := l1.draw ns2
  generalize upd H1 p (.lst (ns2.map V.int)) = H2 at l2 ⊢
  refine ⟨sz (by simp), fun t nt => ?_⟩
  have l3 := l2.new (o := .lst [V.int n, V.int r1, V.int r2]) nt
  have ht : (upd H2 t (.lst [V.int n, V.int r1, V.int r2])) t = some (.lst (([(n : Int), r1, r2] : List Int).map V.int)) := upd_same
  have nep := l2.at_.ne nt
  generalize upd H2 t (.lst [V.int n, V.int r1, V.int r2]) = H3 at *
  refine ⟨t, rfl, ⟨_, sq_lst ht⟩, for_ints (ns := [(n : Int), r1, r2]) (fun i σ H' => Pl p H H' ∧ Pl p H3 H' ∧ ∃ v2 v3 v4, σ = [some (.ref p), some (.int n), v2, v3, v4]) ⟨l3, Pl.refl l3.at_, none, none, none, rfl⟩ (fun i σ H' _ z => sq_lst (z.2.1.get nep ht)) ?_ ?_⟩
  · rintro i k σ H' hk ⟨lp, lp3, v2, v3, v4, rfl⟩
    have hk2 : 0 ≤ k ∧ k ≤ 300 := by
      have := List.mem_of_getElem? hk
      simp only [List.mem_cons, List.not_mem_nil, or_false] at this
      omega
    obtain ⟨k, rfl⟩ := nat_ex hk2.1
    refine ⟨_, rfl, _, rfl, _, _, rfl, rfl, sz (by simp), fun t2 nt2 => ?_⟩
    have l4 := lp.new (o := .lst [V.int 4, V.int (k + 3)]) nt2
    have l43 := lp3.new (o := .lst [V.int 4, V.int (k + 3)]) nt2
    have ht2 : (upd H' t2 (.lst [V.int 4, V.int (k + 3)])) t2 = some (.lst (([4, (k : Int) + 3] : List Int).map V.int)) := upd_same
    have nep2 := lp.at_.ne nt2
    generalize upd H' t2 (.lst [V.int 4, V.int (k + 3)]) = H4 at *
    refine ⟨_, rfl, p, 2, rfl, l4.at_, by omega, fun r3 ns3 g0 g1 => ?_⟩
    have ht3 : (upd H4 p (.lst (ns3.map V.int))) t2 = some (.lst (([4, (k : Int) + 3] : List Int).map V.int)) := by rw [upd_ne nep2]; exact ht2
    have l5 := l4.draw ns3
    have l53 := l43.draw ns3
    generalize upd H4 p (.lst (ns3.map V.int)) = H5 at *
    obtain ⟨lim, e1, e2, e3⟩ : ∃ lim : Int, atI (([4, (k : Int) + 3] : List Int).map V.int) r3 = some (.int lim) ∧ 0 < lim ∧ lim ≤ 303 := by
      rcases (by omega : r3 = 0 ∨ r3 = 1) with rfl | rfl
      · exact ⟨4, rfl, by omega, by omega⟩
      · exact ⟨(k : Int) + 3, rfl, by omega, by omega⟩
    refine ⟨t2, _, r3, .int lim, rfl, rfl, sq_lst ht3, e1, p, lim, rfl, l5.at_, e2, fun rad ns4 j0 j1 => ?_⟩
    have l6 := l5.draw ns4
    have l63 := l53.draw ns4
    generalize upd H5 p (.lst (ns4.map V.int)) = H6 at l6 l63 ⊢
    refine ⟨_, rfl, _, rfl, _, rfl, p, 2, rfl, l6.at_, by omega, fun a ns5 a0 a1 => ?_⟩
    have l7 := l6.draw ns5
    have l73 := l63.draw ns5
    generalize upd H6 p (.lst (ns5.map V.int)) = H7 at l7 l73 ⊢
    refine ⟨_, _, rfl, rfl, .inl ⟨by omega, by omega⟩, _, _, rfl, rfl, _, rfl, p, 3, rfl, l7.at_, by omega, fun b ns6 b0 b1 => ?_⟩
    have l8 := l7.draw ns6
    have l83 := l73.draw ns6
    generalize upd H7 p (.lst (ns6.map V.int)) = H8 at l8 l83 ⊢
    refine ⟨_, _, rfl, rfl, sz (by simp), fun t3 nt3 => ?_⟩
    have l9 := l8.new (o := .lst [V.int rad, V.int (k + 1000 * a + b)]) nt3
    have l93 := l83.new (o := .lst [V.int rad, V.int (k + 1000 * a + b)]) nt3
    have ht3 : (upd H8 t3 (.lst [V.int rad, V.int (k + 1000 * a + b)])) t3 = some (.lst (([rad, (k : Int) + 1000 * a + b] : List Int).map V.int)) := upd_same
    have nep3 := l8.at_.ne nt3
    generalize upd H8 t3 (.lst [V.int rad, V.int (k + 1000 * a + b)]) = H9 at *
    refine ⟨t3, rfl, ⟨_, sq_lst ht3⟩, for_ints (ns := [rad, (k : Int) + 1000 * a + b]) (fun i σ H' => Pl p H H' ∧ Pl p H3 H' ∧ Same H9 H' ∧ ∃ v4, σ = [some (.ref p), some (.int n), some (.int k), some (.int rad), v4]) ⟨l9, l93, Same.refl _, v4, rfl⟩ (fun i σ H' _ z => sq_lst (z.2.2.1 _ _ ht3)) ?_ ?_⟩
    · rintro i2 x σ H' hx ⟨lq, lq3, s9, v4', rfl⟩
      have hx2 : 0 ≤ x ∧ x ≤ 2000 := by
        have := List.mem_of_getElem? hx
        simp only [List.mem_cons, List.not_mem_nil, or_false] at this
        omega
      obtain ⟨x, rfl⟩ := nat_ex hx2.1
      refine ⟨_, rfl, _, rfl, k, x, rfl, by omega, fun H10 s10 => ?_⟩
      refine ⟨_, rfl, _, rfl, k, x, rfl, by omega, _, _, .int (bal k x : Nat), rfl, is_int _, is_int _, by simp [Dt.size], fun H11 s11 => ⟨true, rfl, iteF ?_⟩⟩
      have s := s10.trans s11
      exact ⟨lq.same s, lq3.same s, s9.trans s, _, rfl⟩
    · rintro σ H' ⟨lq, lq3, s9, v4', rfl⟩
      exact ⟨lq, lq3, _, _, _, rfl⟩
  · rintro σ H' ⟨lp, lp3, v2, v3, v4, rfl⟩
    exact q H' lp
def sp__law_renumbered (_K : PySem.W.Frag) : Sp := fun vs H Q _ => ∃ (p a : Addr) (m : Nat) (l : List Nat), vs = [.ref p, .int m, .ref a] ∧ PoolAt H p ∧ a ≠ p ∧ H a = some (.lst (nv l)) ∧ Asc l ∧ l.length ≤ 1000 ∧ (∀ w ∈ l, w ≤ 1000) ∧ ∀ H', Pl p H H' → Q (.bl true) H'
abbrev s__law_renumbered : Stmt := topS 29
theorem sc__law_renumbered : FnScope ["pool", "mask", "places", "inner", "first", "second", "handed"] ["pool", "mask", "places"] (defScope s__law_renumbered) := ⟨rfl, rfl, rfl, by decide +kernel, rfl, by decide +kernel, by decide +kernel⟩
/-- slots: 0 pool 1 mask 2 places 3 inner 4 first 5 second 6 handed -/
theorem dn__law_renumbered (M : Mg mg) (C : Cg K mg) (g : Fg K mg "_law_renumbered" s__law_renumbered) (D__law_mask : Dn P w K mg base CX0 "_law_mask" 2 ["pool", "wires"] (sp__law_mask K)) (D__law_gathered : Dn P w K mg base CX0 "_law_gathered" 1 ["mask", "places"] (sp__law_gathered K)) (D__law_scattered : Dn P w K mg base CX0 "_law_scattered" 1 ["mask", "places"] (sp__law_scattered K)) (D__law_same : Dn P w K mg base CX0 "_law_same" 1 ["told", "due"] (sp__law_same K)) (D_scatter : Dn P w K mg base CX0 "scatter" 1 ["mask", "places"] (sp_scatter K)) (D_gather : Dn P w K mg base CX0 "gather" 1 ["mask", "places"] (sp_gather K)) (D__law_made : Dn P w K mg base CX0 "_law_made" 1 ["wires"] (sp__law_made K)) : Dn P w K mg base CX0 "_law_renumbered" 3 ["pool", "mask", "places"] (sp__law_renumbered K) := by
  refine dn_of g sc__law_renumbered (fun vs H Q E h => by unfold sp__law_renumbered at h; (repeat (obtain ⟨_, h⟩ := h)); subst_vars; rfl) (fun _ _ _ _ _ _ us hl => match us, hl with | [_, _, _], _ => rfl) (fun f cdv A outer s H vs Q E hr h => ?_)
  obtain ⟨p, a, m, l, rfl, hp, hne, ha, has, hl, hw, q⟩ := h
  have nd := sc__law_renumbered.nd
  refine ⟨_, (pss_cons (ps_set (i := 3) nd rfl (by first | exact Or.inl rfl | exact Or.inr rfl) (G.pe_callD D__law_mask (hr.mono (by decide)) pass0 (pa_cons (pv 0) (pa_cons (pe_callB (call_min2 rfl) (by rfl) M.min (by decide +kernel) (pa_cons (pe_op op_add (pe_callB (G.call_lenK K) (by rfl) M.len PySem.boot_len (pa_cons (pv 2) pa_nil)) pe_int) (pa_cons pe_int pa_nil))) pa_nil))))
    (pss_cons (ps_set (i := 4) nd rfl (by first | exact Or.inl rfl | exact Or.inr rfl) (G.pe_callD D__law_gathered (hr.mono (by decide)) pass0 (pa_cons (pv 1) (pa_cons (pv 2) pa_nil))))
    (pss_cons (ps_set (i := 5) nd rfl (by first | exact Or.inl rfl | exact Or.inr rfl) (G.pe_callD D__law_scattered (hr.mono (by decide)) pass0 (pa_cons (pv 3) (pa_cons (pv 2) pa_nil))))
    (pss_cons (ps_set (i := 6) nd rfl (by first | exact Or.inl rfl | exact Or.inr rfl) (pe_callTy (G.call_listK K) (by rfl) M.list (by decide +kernel) (pa_cons (pv 2) pa_nil)))
    (pss_cons (ps_if (PW.pt (pw_or (pt_not (pt_val (G.pe_callD D__law_same (hr.mono (by decide)) pass0 (pa_cons (G.pe_callD D_gather (hr.mono (by decide)) pass0 (pa_cons (pv 1) (pa_cons (pv 6) pa_nil))) (pa_cons (pv 4) pa_nil))))) (pw_or1 (pt_cmpR (G.op_neDK K hr.units) (pv 6) (pv 2) (nomark _))))) (pss_one (ps_ret pe_bl)) pss_nil)
    (pss_cons (ps_if (PW.pt (pw_or (pt_not (pt_val (G.pe_callD D__law_same (hr.mono (by decide)) pass0 (pa_cons (G.pe_callD D_scatter (hr.mono (by decide)) pass0 (pa_cons (pv 3) (pa_cons (pv 6) pa_nil))) (pa_cons (pv 5) pa_nil))))) (pw_or1 (pt_cmpR (G.op_neDK K hr.units) (pv 6) (pv 2) (nomark _))))) (pss_one (ps_ret pe_bl)) pss_nil)
    (pss_cons (ps_if (pt_not (pt_val (G.pe_callD D__law_same (hr.mono (by decide)) pass0 (pa_cons (G.pe_callD D_gather (hr.mono (by decide)) pass0 (pa_cons (pv 5) (pa_cons (pe_callTy (G.call_listK K) (by rfl) M.list (by decide +kernel) (pa_cons (pv 2) pa_nil)) pa_nil))) (pa_cons (pe_op G.op_andN (pv 3) (pe_op op_sub (pe_op G.op_shlM pe_int (pe_callB (G.call_lenK K) (by rfl) M.len PySem.boot_len (pa_cons (pv 2) pa_nil))) pe_int)) pa_nil))))) (pss_one (ps_ret pe_bl)) pss_nil)
    (pss_one (ps_ret (G.pe_callD D__law_same (hr.mono (by decide)) pass0 (pa_cons (G.pe_callD D_scatter (hr.mono (by decide)) pass0 (pa_cons (pv 4) (pa_cons (pe_callTy (G.call_listK K) (by rfl) M.list (by decide +kernel) (pa_cons (pv 2) pa_nil)) pa_nil))) (pa_cons (pe_op G.op_andN (pv 1) (G.pe_callD D__law_made (hr.mono (by decide)) pass0 (pa_cons (pv 2) pa_nil))) pa_nil)))))))))))), ?_⟩
  have hw2 : ∀ w ∈ l, w ≤ 1000000 := fun w h => by have := hw w h; omega
  have hm : (if (300 : Int) < (l.length : Int) + 2 then (300 : Int) else (l.length : Int) + 2) = ((min (l.length + 2) 300 : Nat) : Int) := by split <;> omega
  refine ⟨_, rfl, _, rfl, a, _, rfl, .inl (sq_lst ha), _, _, rfl, rfl, _, _, rfl, ?_⟩
  dsimp only
  rw [nv_len, hm]
  refine ⟨p, _, rfl, hp, by omega, fun r H1 hr l1 => ?_⟩
  have ha1 := l1.get hne ha
  refine ⟨_, rfl, _, rfl, m, a, l, rfl, sq_lst ha1, by omega, ?_⟩
  refine ⟨_, rfl, _, rfl, r, a, l, rfl, sq_lst ha1, by omega, has, hw2, ?_⟩
  refine ⟨_, rfl, a, _, rfl, .inl (sq_lst ha1), fun h nh => ?_⟩
  have l2 := l1.new (o := .lst (nv l)) nh
  have hh : (upd H1 h (.lst (nv l))) h = some (.lst (nv l)) := upd_same
  generalize upd H1 h (.lst (nv l)) = H2 at *
  have ha2 := l2.get hne ha
  refine ⟨_, rfl, _, rfl, m, h, l, rfl, sq_lst hh, by omega, fun H3 s3 => ⟨_, rfl, _, _, .int (gatF m l : Nat), rfl, is_int _, is_int _, by simp [Dt.size], fun H4 s4 => ⟨true, rfl, iteF ?_⟩⟩⟩
  have s34 := s3.trans s4
  refine ⟨_, rfl, _, rfl, ne_nats (sq_lst (s34 _ _ hh)) (sq_lst (s34 _ _ ha2)) ⟨_, rfl, iteF ?_⟩⟩
  refine ⟨_, rfl, _, rfl, r, h, l, rfl, sq_lst (s34 _ _ hh), hw2, fun H5 s5 => ⟨_, rfl, _, _, .int (scaF r l : Nat), rfl, is_int _, is_int _, by simp [Dt.size], fun H6 s6 => ⟨true, rfl, iteF ?_⟩⟩⟩
  have s36 := s34.trans (s5.trans s6)
  refine ⟨_, rfl, _, rfl, ne_nats (sq_lst (s36 _ _ hh)) (sq_lst (s36 _ _ ha2)) ⟨_, rfl, iteF ?_⟩⟩
  refine ⟨_, rfl, _, rfl, a, _, rfl, .inl (sq_lst (s36 _ _ ha2)), fun h2 nh2 => ⟨scaF r l, h2, l, rfl, sq_lst upd_same, by omega, fun H7 s7 => ?_⟩⟩
  have s37 := s36.trans ((same_new nh2).trans s7)
  refine ⟨_, rfl, _, rfl, a, _, rfl, .inl (sq_lst (s37 _ _ ha2)), 1, l.length, rfl, congrArg V.int (by rw [nv_len]), ⟨by omega, by decide⟩, _, _, rfl, rfl, r, 1 <<< l.length - 1, rfl, congrArg V.int ?_, _, _, .int (r &&& (1 <<< l.length - 1) : Nat), rfl, ?_, is_int _, by simp [Dt.size], fun H8 s8 => ⟨true, rfl, iteF ?_⟩⟩
  · have := Nat.two_pow_pos l.length
    show ((1 <<< l.length : Nat) : Int) - 1 = ((1 <<< l.length - 1 : Nat) : Int)
    rw [Nat.one_shiftLeft]; omega
  · rw [gat_sca has]; exact is_int _
  have s38 := s37.trans s8
  refine ⟨_, rfl, _, rfl, a, _, rfl, .inl (sq_lst (s38 _ _ ha2)), fun h3 nh3 => ⟨gatF m l, h3, l, rfl, sq_lst upd_same, hw2, fun H9 s9 => ?_⟩⟩
  have s39 := s38.trans ((same_new nh3).trans s9)
  refine ⟨_, rfl, _, rfl, a, l, rfl, sq_lst (s39 _ _ ha2), hw2, m, maskL l, rfl, rfl, _, _, .int (m &&& maskL l : Nat), rfl, ?_, is_int _, by simp [Dt.size], fun H10 s10 => q _ (l2.same (s39.trans s10))⟩
  rw [sca_gat]; exact is_int _
/-- _law_told(mask): the list of all subsets, or the refusal, as a tuple -/
def sp__law_told (_K : PySem.W.Frag) : Sp := fun vs H Q _ => ∃ (m : Nat), vs = [.int m] ∧ m < 2 ^ 100000 ∧
  (12 < popc m → ∀ (H' : Hp) (p : Addr), Same H H' → H' p = some (.tup [.str "many", .str "wires", .int 12]) → Q (.ref p) H') ∧
  (popc m ≤ 12 → ∀ (H' : Hp) (p a : Addr), Same H H' → H a = none → H' a = some (.lst (nv (subsL (wl m)))) → H' p = some (.tup [.str "list", .ref a]) → Q (.ref p) H')
abbrev s__law_told : Stmt := topS 30
theorem sc__law_told : FnScope ["mask", "told", "e"] ["mask"] (defScope s__law_told) := ⟨rfl, rfl, rfl, by decide +kernel, rfl, by decide +kernel, by decide +kernel⟩
/-- slots: 0 mask 1 told 2 e -/
theorem dn__law_told (M : Mg mg) (C : Cg K mg) (g : Fg K mg "_law_told" s__law_told) (D_subsets_of : Dn P w K mg base (L2.CX P w) "subsets_of" 3 ["mask"] (sp_subsets_of K)) : Dn P w K mg base CX0 "_law_told" 4 ["mask"] (sp__law_told K) := by
  refine dn_of g sc__law_told (fun vs H Q E h => by unfold sp__law_told at h; (repeat (obtain ⟨_, h⟩ := h)); subst_vars; rfl) (fun _ _ _ _ _ _ us hl => match us, hl with | [_], _ => rfl) (fun f cdv A outer s H vs Q E hr h => ?_)
  obtain ⟨m, rfl, hm, q1, q2⟩ := h
  have nd := sc__law_told.nd
  refine ⟨_, (pss_cons (ps_try_as (i := 2) rfl rfl nd rfl rfl ⟨rfl, by decide, Or.inl C.e_BusError.g⟩ takes0 (fun W pn xe tk po => (pss_one (ps_set (i := 1) nd rfl (by first | exact Or.inl rfl | exact Or.inr rfl) (G.pe_callDS D_subsets_of (hr.mono (by decide)) (fun σ => passAt tk σ) (pa_cons (pv 0) pa_nil))))) (fun a oe cls d pn hz hf => (pss_cons (ps_if (PW.pt (pw_and (pt_val (pe_callB (G.call_isX hz hf) (by rfl) M.isinstance (by decide +kernel) (pa_cons (pv 2) (pa_cons (pe_glob (v := .ref (G.clsA K "TooMany")) rfl C.e_TooMany.g rfl) pa_nil)))) (pw_and (pt_val (pe_callB (G.call_isX hz hf) (by rfl) M.isinstance (by decide +kernel) (pa_cons (pv 2) (pa_cons (pe_bltn (v := .ty "ValueError") (by rfl) M.ValueError (by decide +kernel) rfl) pa_nil)))) (pw_and1 (pt_not (pt_val (pe_callB (G.call_isX hz hf) (by rfl) M.isinstance (by decide +kernel) (pa_cons (pv 2) (pa_cons (pe_glob (v := .ref (G.clsA K "BadWord")) rfl C.e_BadWord.g rfl) pa_nil))))))))) (pss_one (ps_ret (pe_tup (pa_cons pe_str (pa_cons (G.pe_xfA hz hf (pv 2)) (pa_cons (G.pe_xfA hz hf (pv 2)) pa_nil)))))) pss_nil)
    (pss_one (ps_ret (pe_tup (pa_cons pe_str (pa_cons pe_str (pa_cons pe_int pa_nil)))))))))
    (pss_one (ps_ret (pe_tup (pa_cons pe_str (pa_cons (pv 1) pa_nil)))))), ?_⟩
  refine ⟨_, rfl, m, rfl, hm, fun hp d hd => ⟨true, C.e_TooMany.exm C.e_BusError, fun _ a ha => ?_, fun h => nomatch h⟩, fun hp H' p sm np hl => ?_⟩
  · have hx : (upd H d (xdMany "wires" 12)) d = some (xdMany "wires" 12) := upd_same
    have sm : Same H (upd H d (xdMany "wires" 12)) := same_new hd
    generalize upd H d (xdMany "wires" 12) = H1 at *
    refine ⟨_, rfl, _, d, _, _, _, true, rfl, C.e_TooMany.exc, rfl, hx, rfl, fun u h => h, C.e_TooMany.kitS, _, rfl, iteT ?_⟩
    refine ⟨_, rfl, _, d, _, _, _, true, rfl, C.e_TooMany.exc, rfl, hx, rfl, fun u h => h, C.e_TooMany.kitV, _, rfl, iteT ?_⟩
    refine ⟨_, rfl, _, d, _, _, _, false, rfl, C.e_TooMany.exc, rfl, hx, rfl, fun u h => h, C.e_BadWord.kit C.no_TooMany_BadWord, _, rfl, iteT ?_⟩
    refine ⟨_, rfl, rfl, _, d, _, .str "wires", rfl, C.e_TooMany.xf, C.no_TooMany_what, rfl, hx, rfl, ?_⟩
    refine ⟨_, rfl, rfl, _, d, _, .int 12, rfl, C.e_TooMany.xf, C.no_TooMany_limit, rfl, hx, rfl, sz (by simp), fun t nt => ?_⟩
    exact q1 hp _ t (sm.new nt) upd_same
  · refine ⟨_, rfl, sz (by simp), fun t nt => ?_⟩
    exact q2 hp _ t p (sm.new nt) np (by rw [upd_ne (ne_of_none hl nt)]; exact hl) upd_same
def sp__law_listed_subsets (_K : PySem.W.Frag) : Sp := fun vs H Q _ => ∃ (a : Addr) (l : List Nat) (s o : Nat), vs = [.ref a, .int s, .int o] ∧ H a = some (.lst (nv l)) ∧ Asc l ∧ l.length = 13 ∧ s ≤ 12 ∧ o < 2 ^ 400 ∧ (∀ w ∈ l, w ≤ 390) ∧ ∀ H', Same H H' → Q (.bl true) H'
theorem subsL_lt {b : Nat} : ∀ ws : List Nat, (∀ w ∈ ws, w < b) → ∀ p ∈ subsL ws, p < 2 ^ b := by
  refine G.snocInd (fun _ p hp => ?_) fun l w ih h p hp => ?_
  · have : p = 0 := by simpa [subsL] using hp
    subst this; exact Nat.two_pow_pos b
  · have ih2 := ih fun x hx => h x (by simp [hx])
    rw [subsL_snoc, List.mem_append, List.mem_map] at hp
    rcases hp with hp | ⟨q, hq, rfl⟩
    · exact ih2 p hp
    · exact Nat.or_lt_two_pow (ih2 q hq) (lt_shl (h w (by simp)))
abbrev s__law_listed_subsets : Stmt := topS 31
theorem sc__law_listed_subsets : FnScope ["spread", "size", "over", "due", "wire", "part", "again", "told", "row", "mask"] ["spread", "size", "over"] (defScope s__law_listed_subsets) := ⟨rfl, rfl, rfl, by decide +kernel, rfl, by decide +kernel, by decide +kernel⟩
/-- slots: 0 spread 1 size 2 over 3 due 4 wire 5 part 6 again 7 told 8 row 9 mask -/
theorem dn__law_listed_subsets (M : Mg mg) (C : Cg K mg) (g : Fg K mg "_law_listed_subsets" s__law_listed_subsets) (D__law_told : Dn P w K mg base CX0 "_law_told" 4 ["mask"] (sp__law_told K)) (D__law_made : Dn P w K mg base CX0 "_law_made" 1 ["wires"] (sp__law_made K)) (D__law_same : Dn P w K mg base CX0 "_law_same" 1 ["told", "due"] (sp__law_same K)) : Dn P w K mg base CX0 "_law_listed_subsets" 5 ["spread", "size", "over"] (sp__law_listed_subsets K) := by
  refine dn_of g sc__law_listed_subsets (fun vs H Q E h => by unfold sp__law_listed_subsets at h; (repeat (obtain ⟨_, h⟩ := h)); subst_vars; rfl) (fun _ _ _ _ _ _ us hl => match us, hl with | [_, _, _], _ => rfl) (fun f cdv A outer s H vs Q E hr h => ?_)
  obtain ⟨a, l, s, o, rfl, ha, has, hl, hs, ho, hw, q⟩ := h
  have nd := sc__law_listed_subsets.nd
  refine ⟨_, (pss_cons (ps_set (i := 3) nd rfl (by first | exact Or.inl rfl | exact Or.inr rfl) (pe_lst (pa_cons pe_int pa_nil)))
    (pss_cons (ps_for PassesOwn.never rfl (G.pi_listK K (pe_slice (G.sl_listK K) (pv 0) po_none (po_some (pv 1)))) (pg_name (i := 4) nd rfl (by first | exact Or.inl rfl | exact Or.inr rfl)) (pss_one (ps_set (i := 3) nd rfl (by first | exact Or.inl rfl | exact Or.inr rfl) (pe_op op_cat (pv 3) (pe_lc (own := [("part", 5)]) (g := (gName 5)) (tt := tYes) rfl nd (G.pi_listK K (pv 3)) (blkOk_by (by kernel_rfl)) (fun _ _ _ _ _ => (pg_name (i := 5) nd rfl (by first | exact Or.inl rfl | exact Or.inr rfl))) (fun _ _ _ _ _ => pts_nil) (fun _ _ _ _ _ => (pe_op op_add (pv 5) (pe_op G.op_shlM pe_int (pv 4)))))))))
    (pss_cons (ps_for PassesOwn.never rfl (pi_range1 rfl M.range (pa_cons pe_int pa_nil)) (pg_name (i := 6) nd rfl (by first | exact Or.inl rfl | exact Or.inr rfl)) (pss_cons (ps_set (i := 7) nd rfl (by first | exact Or.inl rfl | exact Or.inr rfl) (G.pe_callD D__law_told (hr.mono (by decide)) pass0 (pa_cons (G.pe_callD D__law_made (hr.mono (by decide)) pass0 (pa_cons (pe_slice (G.sl_listK K) (pv 0) po_none (po_some (pv 1))) pa_nil)) pa_nil)))
    (pss_cons (ps_if (pt_not (pt_val (G.pe_callD D__law_same (hr.mono (by decide)) pass0 (pa_cons (pv 7) (pa_cons (pe_tup (pa_cons pe_str (pa_cons (pv 3) pa_nil))) pa_nil))))) (pss_one (ps_ret pe_bl)) pss_nil)
    (pss_cons (ps_set (i := 8) nd rfl (by first | exact Or.inl rfl | exact Or.inr rfl) (pe_ix (G.ix_tupK K) (pv 7) pe_int (fun _ _ => rfl)))
    (pss_cons (ps_expr (pe_bm PySem.F.plainAttrs_list PySem.F.slot_list_append PySem.F.type_list_append mt_append (pv 8) (pa_cons pe_int pa_nil)))
    (pss_one (ps_asg (pe_un un_neg pe_int) (pg_sub (pv 8) pe_int set_list))))))))
    (pss_cons (ps_for PassesOwn.never rfl (G.pi_listK K (pe_lst (pa_cons (G.pe_callD D__law_made (hr.mono (by decide)) pass0 (pa_cons (pv 0) pa_nil)) (pa_cons (pe_op G.op_orN (G.pe_callD D__law_made (hr.mono (by decide)) pass0 (pa_cons (pv 0) pa_nil)) (pv 2)) pa_nil)))) (pg_name (i := 9) nd rfl (by first | exact Or.inl rfl | exact Or.inr rfl)) (pss_one (ps_if (pt_not (pt_val (G.pe_callD D__law_same (hr.mono (by decide)) pass0 (pa_cons (G.pe_callD D__law_told (hr.mono (by decide)) pass0 (pa_cons (pv 9) pa_nil)) (pa_cons (pe_tup (pa_cons pe_str (pa_cons pe_str (pa_cons pe_int pa_nil)))) pa_nil))))) (pss_one (ps_ret pe_bl)) pss_nil)))
    (pss_one (ps_ret pe_bl)))))), ?_⟩
  have hw2 : ∀ w ∈ l, w ≤ 1000000 := fun w h => by have := hw w h; omega
  have ht2 : ∀ w ∈ l.take s, w ≤ 1000000 := fun w h => hw2 w (List.mem_of_mem_take h)
  have hta : Asc (l.take s) := List.Pairwise.sublist (List.take_sublist _ _) has
  have htl : (l.take s).length = s := by rw [List.length_take]; omega
  have hcut : cutV (nv l) none (some (s : Int)) = nv (l.take s) := by rw [cut_to (by rw [nv_len]; omega), nv_take]
  have hM : maskL l < 2 ^ 400 := maskL_lt fun w h => by have := hw w h; omega
  have hMt : maskL (l.take s) < 2 ^ 400 := maskL_lt fun w h => by have := hw w (List.mem_of_mem_take h); omega
  have big : ∀ {x : Nat}, x < 2 ^ 400 → x < 2 ^ 100000 := fun h => Nat.lt_of_lt_of_le h (Nat.pow_le_pow_right (by decide) (by decide))
  have hlen : ∀ ws : List Nat, ws.length ≤ 12 → (subsL ws).length ≤ 4096 := fun ws h => by
    rw [subsL_len]
    exact Nat.le_trans (Nat.pow_le_pow_right (by decide) h) (by decide)
  refine ⟨sz (by simp), fun o0 no0 => ?_⟩
  have s0 := same_new (o := .lst [V.int 0]) no0
  have e0 : (upd H o0 (.lst [V.int 0])) o0 = some (.lst (nv (subsL ((l.take s).take 0)))) := upd_same
  generalize upd H o0 (.lst [V.int 0]) = H0 at *
  refine ⟨_, rfl, _, rfl, s, rfl, a, _, rfl, sq_lst (s0 _ _ ha), fun c nc => ?_⟩
  rw [hcut]
  have s1 := s0.new (o := .lst (nv (l.take s))) nc
  have ec : (upd H0 c (.lst (nv (l.take s)))) c = some (.lst (nv (l.take s))) := upd_same
  have e1 := same_new (o := .lst (nv (l.take s))) nc _ _ e0
  generalize upd H0 c (.lst (nv (l.take s))) = H1 at *
  refine ⟨c, rfl, ⟨_, sq_lst ec⟩, for_list (xs := nv (l.take s)) (fun i σ H' => Same H1 H' ∧ ∃ (d : Addr) (v4 v5 : Option V), H' d = some (.lst (nv (subsL ((l.take s).take i)))) ∧ σ = [some (.ref a), some (.int s), some (.int o), some (.ref d), v4, v5, none, none, none, none]) ⟨Same.refl _, o0, none, none, e1, rfl⟩ (fun i σ H' _ z => sq_lst (z.1 _ _ ec)) ?_ ?_⟩
  · rintro i x σ H' hx ⟨s2, d, v4, v5, hd, rfl⟩
    obtain ⟨n, hn, rfl⟩ := nv_at hx
    have hi : i < (l.take s).length := (List.getElem?_eq_some_iff.mp hn).1
    have hL := hlen ((l.take s).take i) (by rw [List.length_take]; omega)
    have hlt := subsL_lt ((l.take s).take i) (asc_take hta hn)
    refine ⟨_, rfl, _, rfl, d, rfl, ⟨_, sq_lst hd⟩, fun D nD => lc_list (K := K) (a := d) (xs := nv (subsL ((l.take s).take i))) (fun j H2 => Same H' H2 ∧ H2 D = some (.lst (nv (((subsL ((l.take s).take i)).take j).map fun p => p ||| 1 <<< n)))) ⟨same_new nD, upd_same⟩ (fun j H2 _ ⟨s3, _⟩ => sq_lst (s3 _ _ hd)) ?_ ?_⟩
    · rintro j y H2 hy ⟨s3, hD⟩
      obtain ⟨p, hp, rfl⟩ := nv_at hy
      have hj : j < (subsL ((l.take s).take i)).length := (List.getElem?_eq_some_iff.mp hp).1
      refine ⟨rfl, _, rfl, _, rfl, 1, n, rfl, rfl, ⟨ht2 n (List.mem_of_getElem? hn), by decide⟩, p, 1 <<< n, rfl, rfl, _, hD, szl (by rw [nv_len, List.length_map, List.length_take]; omega), Same.mut s3 nD, ?_⟩
      rw [upd_same, take_more hp, List.map_append, nv_app, List.map_cons, List.map_nil, ← add_or (hlt p (List.mem_of_getElem? hp))]; rfl
    · rintro H2 ⟨s3, hD⟩
      rw [nv_len, List.take_length] at hD
      refine ⟨d, D, _, _, rfl, rfl, s3 _ _ hd, hD, sz (by rw [nv_len, nv_len, List.length_map]; omega), fun p np => ?_⟩
      refine ⟨(s2.trans s3).new np, p, _, _, ?_, rfl⟩
      rw [upd_same, take_more hn, subsL_snoc, nv_app]
  rintro σ H2 ⟨s2, d, v4, v5, hd, rfl⟩
  rw [nv_len, List.take_length] at hd
  have hLs := hlen (l.take s) (by omega)
  refine ⟨_, rfl, by omega, by omega, for_range (lo := 0) (n := 2) (fun i σ H' => Same H2 H' ∧ ∃ v6 v7 v8, σ = [some (.ref a), some (.int s), some (.int o), some (.ref d), v4, v5, v6, v7, v8, none]) ⟨Same.refl _, _, _, _, rfl⟩ ?_ ?_⟩
  · rintro i σ H' hi ⟨s3, v6, v7, v8, rfl⟩
    have s3' := s1.trans (s2.trans s3)
    refine ⟨_, rfl, _, rfl, s, rfl, a, _, rfl, sq_lst (s3' _ _ ha), fun c nc => ?_⟩
    rw [hcut]
    refine ⟨c, l.take s, rfl, sq_lst upd_same, ht2, maskL (l.take s), rfl, big hMt, fun h => ?_, fun h H4 p r sm nr hr hp => ?_⟩
    · rw [popc_maskL hta] at h; omega
    rw [wl_maskL hta] at hr
    have s4 := (same_new (o := .lst (nv (l.take s))) nc).trans sm
    have hd4 := s4 _ _ (s3 _ _ hd)
    have nr' : H' r = none := Same.none (same_new nc) nr
    refine ⟨_, rfl, _, rfl, sz (by simp), fun t nt => ⟨_, _, .tup [.str "list", .lst (G.nd (subsL (l.take s)))], rfl, ?_, ?_, ?_, fun H5 s5 => ⟨true, rfl, iteF ?_⟩⟩⟩
    · exact is_two (same_new nt _ _ hp) (is_str _) (is_nv (same_new nt _ _ hr))
    · exact is_two upd_same (is_str _) (is_nv (same_new nt _ _ hd4))
    · have := size_nd (subsL (l.take s))
      simp only [Dt.size, sizeL] at this ⊢
      omega
    have s45 := (same_new (o := .tup [V.str "list", V.ref d]) nt).trans s5
    have hr5 := s45 _ _ hr
    refine ⟨_, rfl, p, _, 1, .ref r, rfl, rfl, sq_tup (s45 _ _ hp), rfl, ?_⟩
    refine ⟨_, rfl, .inl ⟨rfl, _, sq_lst hr5⟩, r, _, _, rfl, rfl, hr5, szl (by rw [nv_len]; omega), ?_⟩
    refine ⟨_, rfl, _, rfl, r, _, 0, 0, rfl, rfl, upd_same, ?_, ?_⟩
    · unfold ixN
      rw [if_pos (by omega), if_pos (by rw [List.length_append]; simp)]; rfl
    · exact ⟨s3.trans (Same.mut (Same.mut (s4.trans s45) nr') nr'), _, _, _, rfl⟩
  rintro σ H3 ⟨s3, v6, v7, v8, rfl⟩
  have s13 := s1.trans (s2.trans s3)
  have ha3 := s13 _ _ ha
  refine ⟨_, rfl, a, l, rfl, sq_lst ha3, hw2, _, rfl, a, l, rfl, sq_lst ha3, hw2, _, rfl, maskL l, o, rfl, rfl, sz (by simp), fun lt nlt => ?_⟩
  have s14 := s13.new (o := .lst [V.int (maskL l : Nat), V.int (maskL l ||| o : Nat)]) nlt
  have hlt : (upd H3 lt (.lst [V.int (maskL l : Nat), V.int (maskL l ||| o : Nat)])) lt = some (.lst (nv [maskL l, maskL l ||| o])) := upd_same
  generalize upd H3 lt (.lst [V.int (maskL l : Nat), V.int (maskL l ||| o : Nat)]) = H4 at *
  refine ⟨lt, rfl, ⟨_, sq_lst hlt⟩, for_list (xs := nv [maskL l, maskL l ||| o]) (fun i σ H' => Same H4 H' ∧ ∃ v9, σ = [some (.ref a), some (.int s), some (.int o), some (.ref d), v4, v5, v6, v7, v8, v9]) ⟨Same.refl _, _, rfl⟩ (fun i σ H' _ z => sq_lst (z.1 _ _ hlt)) ?_ ?_⟩
  · rintro i x σ H' hx ⟨s5, v9, rfl⟩
    obtain ⟨x, hn, rfl⟩ := nv_at hx
    have hx2 : x < 2 ^ 400 ∧ 13 ≤ popc x := by
      have := List.mem_of_getElem? hn
      have h13 := popc_maskL has
      simp only [List.mem_cons, List.not_mem_nil, or_false] at this
      rcases this with rfl | rfl
      · exact ⟨hM, by omega⟩
      · exact ⟨Nat.or_lt_two_pow hM ho, by have := popc_or (maskL l) o; omega⟩
    refine ⟨_, rfl, x, rfl, big hx2.1, fun _ H6 p s6 hp => ⟨sz (by simp), fun t nt => ⟨_, _, .tup [.str "many", .str "wires", .int 12], rfl, is_three (same_new nt _ _ hp) (is_str _) (is_str _) (is_int _), is_three upd_same (is_str _) (is_str _) (is_int _), by simp [Dt.size, sizeL], fun H7 s7 => ⟨true, rfl, iteF ?_⟩⟩⟩, fun h => by omega⟩
    exact ⟨s5.trans (s6.trans ((same_new nt).trans s7)), _, rfl⟩
  · rintro σ H5 ⟨s5, v9, rfl⟩
    exact q H5 (s14.trans s5)
def sp_law (K : PySem.W.Frag) : Sp := fun vs H Q _ => ∃ (a : Addr) (ns : List Int), vs = [.ref a] ∧ SqL K H a (ns.map V.int) ∧ ns.length ≤ 63 ∧ ∀ H', Q (.bl true) H'
theorem wl_lt {m b : Nat} (h : m < 2 ^ b) : ∀ w ∈ wl m, w < b := fun w hw => by
  have h1 : m.testBit w = true := mem_wl.mp hw
  by_cases c : w < b
  · exact c
  · rw [Nat.testBit_lt_two_pow (Nat.lt_of_lt_of_le h (Nat.pow_le_pow_right (by decide) (by omega)))] at h1
    cases h1
theorem wl_le {m b : Nat} (h : m < 2 ^ b) : (wl m).length ≤ b := Nat.le_trans (bitsL_len_le _ _) (bl_le h)
abbrev s_law : Stmt := topS 32
theorem sc_law : FnScope ["script", "pool", "wires", "kind", "size", "mask", "other"] ["script"] (defScope s_law) := ⟨rfl, rfl, rfl, by decide +kernel, rfl, by decide +kernel, by decide +kernel⟩
/-- slots: 0 script 1 pool 2 wires 3 kind 4 size 5 mask 6 other -/
theorem ok_law (M : Mg mg) (C : Cg K mg) {f : Addr} {fd : FuncData} (F : Fun K "law" "law" s_law f fd) (D__law_pool : Dn P w K mg base CX0 "_law_pool" 1 ["script", "count"] (sp__law_pool K)) (D__law_take : Dn P w K mg base CX0 "_law_take" 1 ["pool", "limit"] (sp__law_take K)) (D__law_mask : Dn P w K mg base CX0 "_law_mask" 2 ["pool", "wires"] (sp__law_mask K)) (D__law_balls : Dn P w K mg base CX0 "_law_balls" 2 ["pool", "wires"] (sp__law_balls K)) (D__law_listed_subsets : Dn P w K mg base CX0 "_law_listed_subsets" 5 ["spread", "size", "over"] (sp__law_listed_subsets K)) (D__law_counted : Dn P w K mg base CX0 "_law_counted" 3 ["pool", "mask", "other"] (sp__law_counted K)) (D__law_spread : Dn P w K mg base CX0 "_law_spread" 2 ["pool", "count"] (sp__law_spread K)) (D__law_renumbered : Dn P w K mg base CX0 "_law_renumbered" 3 ["pool", "mask", "places"] (sp__law_renumbered K)) (D__law_wires : Dn P w K mg base CX0 "_law_wires" 1 ["mask"] (sp__law_wires K)) : FnOk P w K mg base CX0 6 f fd ["script"] (sp_law K) := by
  refine F.ok sc_law (fun vs H Q E h => by unfold sp_law at h; (repeat (obtain ⟨_, h⟩ := h)); subst_vars; rfl) (fun cdv A outer s H vs Q E hr h => ?_)
  obtain ⟨a, ns, rfl, hS, hlen, q⟩ := h
  have nd := sc_law.nd
  refine ⟨_, (pss_cons (ps_set (i := 1) nd rfl (by first | exact Or.inl rfl | exact Or.inr rfl) (G.pe_callD D__law_pool (hr.mono (by decide)) pass0 (pa_cons (pv 0) (pa_cons pe_int pa_nil))))
    (pss_cons (ps_set (i := 2) nd rfl (by first | exact Or.inl rfl | exact Or.inr rfl) (G.pe_callD D__law_take (hr.mono (by decide)) pass0 (pa_cons (pv 1) (pa_cons pe_int pa_nil))))
    (Evl.pss_cut (ps_if (pt_cmpR op_eq (G.pe_callD D__law_take (hr.mono (by decide)) pass0 (pa_cons (pv 1) (pa_cons pe_int pa_nil))) pe_int (nomark _)) (pss_one (ps_set (i := 2) nd rfl (by first | exact Or.inl rfl | exact Or.inr rfl) (pe_op op_add pe_int (G.pe_callD D__law_take (hr.mono (by decide)) pass0 (pa_cons (pv 1) (pa_cons pe_int pa_nil)))))) pss_nil)
    (pss_cons (ps_set (i := 3) nd rfl (by first | exact Or.inl rfl | exact Or.inr rfl) (G.pe_callD D__law_take (hr.mono (by decide)) pass0 (pa_cons (pv 1) (pa_cons pe_int pa_nil))))
    (pss_cons (ps_set (i := 4) nd rfl (by first | exact Or.inl rfl | exact Or.inr rfl) (G.pe_callD D__law_take (hr.mono (by decide)) pass0 (pa_cons (pv 1) (pa_cons pe_int pa_nil))))
    (Evl.pss_cut (ps_if (pt_cmpR op_eq (G.pe_callD D__law_take (hr.mono (by decide)) pass0 (pa_cons (pv 1) (pa_cons pe_int pa_nil))) pe_int (nomark _)) (pss_one (ps_set (i := 4) nd rfl (by first | exact Or.inl rfl | exact Or.inr rfl) pe_int)) pss_nil)
    (pss_cons (ps_set (i := 5) nd rfl (by first | exact Or.inl rfl | exact Or.inr rfl) (G.pe_callD D__law_mask (hr.mono (by decide)) pass0 (pa_cons (pv 1) (pa_cons (pv 2) pa_nil))))
    (pss_cons (ps_set (i := 6) nd rfl (by first | exact Or.inl rfl | exact Or.inr rfl) (G.pe_callD D__law_mask (hr.mono (by decide)) pass0 (pa_cons (pv 1) (pa_cons (pv 2) pa_nil))))
    (Evl.pss_cut (ps_if (pt_cmpR op_eq (pv 3) pe_int (nomark _)) (pss_one (ps_set (i := 6) nd rfl (by first | exact Or.inl rfl | exact Or.inr rfl) (pe_op G.op_andN (pv 6) (pv 5)))) pss_nil)
    (Evl.pss_cut (ps_if (pt_cmpR op_eq (pv 3) pe_int (nomark _)) (pss_one (ps_set (i := 6) nd rfl (by first | exact Or.inl rfl | exact Or.inr rfl) (pe_op G.op_orN (pv 6) (pv 5)))) pss_nil)
    (Evl.pss_cut (ps_if (pt_cmpR op_eq (pv 3) pe_int (nomark _)) (pss_one (ps_set (i := 6) nd rfl (by first | exact Or.inl rfl | exact Or.inr rfl) (pv 5))) pss_nil)
    (pss_cons (ps_if (PW.pt (pw_or (pt_not (pt_val (G.pe_callD D__law_counted (hr.mono (by decide)) pass0 (pa_cons (pv 1) (pa_cons (pv 5) (pa_cons (pv 6) pa_nil)))))) (pw_or1 (pt_not (pt_val (G.pe_callD D__law_counted (hr.mono (by decide)) pass0 (pa_cons (pv 1) (pa_cons (pv 6) (pa_cons (pv 5) pa_nil))))))))) (pss_one (ps_ret pe_bl)) pss_nil)
    (pss_cons (ps_if (pt_not (pt_val (G.pe_callD D__law_listed_subsets (hr.mono (by decide)) pass0 (pa_cons (G.pe_callD D__law_spread (hr.mono (by decide)) pass0 (pa_cons (pv 1) (pa_cons pe_int pa_nil))) (pa_cons (pv 4) (pa_cons (pv 6) pa_nil)))))) (pss_one (ps_ret pe_bl)) pss_nil)
    (pss_cons (ps_if (PW.pt (pw_or (pt_not (pt_val (G.pe_callD D__law_renumbered (hr.mono (by decide)) pass0 (pa_cons (pv 1) (pa_cons (pv 5) (pa_cons (G.pe_callD D__law_wires (hr.mono (by decide)) pass0 (pa_cons (pv 6) pa_nil)) pa_nil)))))) (pw_or1 (pt_not (pt_val (G.pe_callD D__law_renumbered (hr.mono (by decide)) pass0 (pa_cons (pv 1) (pa_cons (pv 6) (pa_cons (G.pe_callD D__law_wires (hr.mono (by decide)) pass0 (pa_cons (pv 5) pa_nil)) pa_nil))))))))) (pss_one (ps_ret pe_bl)) pss_nil)
    (pss_one (ps_ret (G.pe_callD D__law_balls (hr.mono (by decide)) pass0 (pa_cons (pv 1) (pa_cons (pv 2) pa_nil))))))))))))))))))), ?_⟩
  have b4 : ∀ {x w : Nat}, w < 301 → x < 2 ^ w → x < 2 ^ 400 := fun hw h => Nat.lt_of_lt_of_le h (Nat.pow_le_pow_right (by decide) (by omega))
  have b5 : ∀ {x : Nat}, x < 2 ^ 400 → x < 2 ^ 100000 := fun h => Nat.lt_of_lt_of_le h (Nat.pow_le_pow_right (by decide) (by decide))
  refine ⟨_, rfl, a, ns, 300, rfl, hS, by omega, by omega, fun H1 p ds _ _ hp => ?_⟩
  have hp1 : PoolAt H1 p := ⟨ds, hp⟩
  refine ⟨_, rfl, p, 13, rfl, hp1, by omega, fun r1 ns1 h0 h1 => ?_⟩
  obtain ⟨w0, rfl⟩ := nat_ex h0
  have l1 := (Pl.refl hp1).draw ns1
  generalize upd H1 p (.lst (ns1.map V.int)) = H2 at l1 ⊢
  refine ⟨fun σ H' => PoolAt H' p ∧ ∃ w : Nat, w < 301 ∧ σ = [some (.ref a), some (.ref p), some (.int w), none, none, none, none], ?_, ?_⟩
  · refine ⟨_, rfl, p, 3, rfl, l1.at_, by omega, fun r ns2 g0 g1 => ⟨rfl, _, rfl, ite2i (fun e => ?_) (fun e => ?_)⟩⟩
    · refine ⟨_, rfl, p, 288, rfl, (l1.draw ns2).at_, by omega, fun r3 ns3 j0 j1 => ?_⟩
      obtain ⟨w1, rfl⟩ := nat_ex j0
      exact ⟨_, _, rfl, rfl, ((l1.draw ns2).draw ns3).at_, 13 + w1, by omega, rfl⟩
    · exact ⟨(l1.draw ns2).at_, w0, by omega, rfl⟩
  rintro σ H3 ⟨hp3, w, hw, rfl⟩
  refine ⟨_, rfl, p, 4, rfl, hp3, by omega, fun kind ns4 k0 k1 => ?_⟩
  have l4 := (Pl.refl hp3).draw ns4
  generalize upd H3 p (.lst (ns4.map V.int)) = H4 at l4 ⊢
  refine ⟨_, rfl, p, 9, rfl, l4.at_, by omega, fun size ns5 j0 j1 => ?_⟩
  obtain ⟨s0, rfl⟩ := nat_ex j0
  have l5 := l4.draw ns5
  generalize upd H4 p (.lst (ns5.map V.int)) = H5 at l5 ⊢
  refine ⟨fun σ H' => PoolAt H' p ∧ ∃ s : Nat, s ≤ 12 ∧ σ = [some (.ref a), some (.ref p), some (.int w), some (.int kind), some (.int s), none, none], ?_, ?_⟩
  · refine ⟨_, rfl, p, 4, rfl, l5.at_, by omega, fun r ns6 g0 g1 => ⟨rfl, _, rfl, ite2i (fun e => ?_) (fun e => ?_)⟩⟩
    · exact ⟨(l5.draw ns6).at_, 12, by omega, rfl⟩
    · exact ⟨(l5.draw ns6).at_, s0, by omega, rfl⟩
  rintro σ H6 ⟨hp6, s, hs, rfl⟩
  refine ⟨_, rfl, _, rfl, p, w, rfl, hp6, by omega, fun m H7 hm l7 => ?_⟩
  refine ⟨_, rfl, _, rfl, p, w, rfl, l7.at_, by omega, fun o H8 ho l8 => ?_⟩
  refine ⟨fun σ H' => H' = H8 ∧ ∃ o : Nat, o < 2 ^ w ∧ σ = [some (.ref a), some (.ref p), some (.int w), some (.int kind), some (.int s), some (.int m), some (.int o)], ?_, ?_⟩
  · refine ⟨_, rfl, rfl, _, rfl, ite2i (fun e => ?_) (fun e => ?_)⟩
    · exact ⟨_, rfl, _, rfl, o, m, rfl, rfl, rfl, o &&& m, Nat.lt_of_le_of_lt Nat.and_le_left ho, rfl⟩
    · exact ⟨rfl, o, ho, rfl⟩
  rintro σ H' ⟨rfl, o1, ho1, rfl⟩
  refine ⟨fun σ H'' => H'' = H' ∧ ∃ o : Nat, o < 2 ^ w ∧ σ = [some (.ref a), some (.ref p), some (.int w), some (.int kind), some (.int s), some (.int m), some (.int o)], ?_, ?_⟩
  · refine ⟨_, rfl, rfl, _, rfl, ite2i (fun e => ?_) (fun e => ?_)⟩
    · exact ⟨_, rfl, _, rfl, o1, m, rfl, rfl, rfl, o1 ||| m, Nat.or_lt_two_pow ho1 hm, rfl⟩
    · exact ⟨rfl, o1, ho1, rfl⟩
  rintro σ H'' ⟨rfl, o2, ho2, rfl⟩
  refine ⟨fun σ H' => H' = H'' ∧ ∃ o : Nat, o < 2 ^ w ∧ σ = [some (.ref a), some (.ref p), some (.int w), some (.int kind), some (.int s), some (.int m), some (.int o)], ?_, ?_⟩
  · refine ⟨_, rfl, rfl, _, rfl, ite2i (fun e => ?_) (fun e => ?_)⟩
    · exact ⟨_, rfl, rfl, m, hm, rfl⟩
    · exact ⟨rfl, o2, ho2, rfl⟩
  rintro σ H9 ⟨rfl, o, ho', rfl⟩
  have hm4 := b4 hw hm
  have ho4 := b4 hw ho'
  have wm := wl_lt hm4
  have wo := wl_lt ho4
  refine ⟨_, rfl, _, rfl, _, rfl, p, m, o, rfl, l8.at_, hm4, fun H10 l10 => ⟨true, rfl, iteF ?_⟩⟩
  refine ⟨_, rfl, _, rfl, _, rfl, p, o, m, rfl, l10.at_, ho4, fun H11 l11 => ⟨true, rfl, iteF ?_⟩⟩
  refine ⟨_, rfl, p, 13, rfl, l11.at_, by omega, fun H12 b l l12 nb nbp hb has hl hlw => ⟨_, rfl, _, rfl, b, l, s, o, rfl, hb, has, hl, hs, ho4, fun w h => by have := hlw w h; omega, fun H13 s13 => ⟨true, rfl, iteF ?_⟩⟩⟩
  have hp13 := (l12.same s13).at_
  refine ⟨_, rfl, _, rfl, _, rfl, o, rfl, b5 ho4, fun H14 c s14 nc hc => ⟨p, c, m, wl o, rfl, ((Pl.refl hp13).same s14).at_, hp13.ne nc, hc, asc_wl o, by have := wl_le ho4; omega, fun w h => by have := wo w h; omega, fun H15 l15 => ⟨true, rfl, iteF ?_⟩⟩⟩
  refine ⟨_, rfl, _, rfl, _, rfl, m, rfl, b5 hm4, fun H16 c2 s16 nc2 hc2 => ⟨p, c2, o, wl m, rfl, ((Pl.refl l15.at_).same s16).at_, l15.at_.ne nc2, hc2, asc_wl m, by have := wl_le hm4; omega, fun w h => by have := wm w h; omega, fun H17 l17 => ⟨true, rfl, iteF ?_⟩⟩⟩
  exact ⟨_, rfl, _, rfl, p, w, rfl, l17.at_, by omega, fun H18 _ => q H18⟩
end
end Lw
namespace Lw
open PySem PySem.Spec PyProof.Rows L2 G
theorem all_mk {l : PySem.W.OpenLaw} {w : World} {K : PySem.W.Frag} {h : Heap} {mg : Str → Option Value} {fa : Addr} (X : K.In h) (G : h.Ns mainGlobals mg) (hfa : mg "law" = some (.ref fa))
    {f0 : Addr} {od0 an0 : Option Addr} {sl0 : Array (Option Value)} {oc0 kV0 dc0 pm0 cd0 ct0 : Value}
    (a0 : PySem.W.nsIn K mainGlobals "size_of" = some (some (.ref f0))) (l0 : K.lookup f0 = some ⟨oc0, od0, .func (PySem.W.fnOf "size_of" "size_of" (defArgs s_size_of) (defBody s_size_of) (defScope s_size_of) .none kV0 dc0 pm0 an0 cd0 ct0), sl0⟩) (c0 : PySem.W.codeIn K cd0 "size_of" = true) (k0 : PySem.W.keepIn K (.ref f0) = true)
    {f1 : Addr} {od1 an1 : Option Addr} {sl1 : Array (Option Value)} {oc1 kV1 dc1 pm1 cd1 ct1 : Value}
    (a1 : PySem.W.nsIn K mainGlobals "wires_of" = some (some (.ref f1))) (l1 : K.lookup f1 = some ⟨oc1, od1, .func (PySem.W.fnOf "wires_of" "wires_of" (defArgs s_wires_of) (defBody s_wires_of) (defScope s_wires_of) .none kV1 dc1 pm1 an1 cd1 ct1), sl1⟩) (c1 : PySem.W.codeIn K cd1 "wires_of" = true) (k1 : PySem.W.keepIn K (.ref f1) = true)
    {f2 : Addr} {od2 an2 : Option Addr} {sl2 : Array (Option Value)} {oc2 kV2 dc2 pm2 cd2 ct2 : Value}
    (a2 : PySem.W.nsIn K mainGlobals "mask_of" = some (some (.ref f2))) (l2 : K.lookup f2 = some ⟨oc2, od2, .func (PySem.W.fnOf "mask_of" "mask_of" (defArgs s_mask_of) (defBody s_mask_of) (defScope s_mask_of) .none kV2 dc2 pm2 an2 cd2 ct2), sl2⟩) (c2 : PySem.W.codeIn K cd2 "mask_of" = true) (k2 : PySem.W.keepIn K (.ref f2) = true)
    {f3 : Addr} {od3 an3 : Option Addr} {sl3 : Array (Option Value)} {oc3 kV3 dc3 pm3 cd3 ct3 : Value}
    (a3 : PySem.W.nsIn K mainGlobals "contains" = some (some (.ref f3))) (l3 : K.lookup f3 = some ⟨oc3, od3, .func (PySem.W.fnOf "contains" "contains" (defArgs s_contains) (defBody s_contains) (defScope s_contains) .none kV3 dc3 pm3 an3 cd3 ct3), sl3⟩) (c3 : PySem.W.codeIn K cd3 "contains" = true) (k3 : PySem.W.keepIn K (.ref f3) = true)
    {f4 : Addr} {od4 an4 : Option Addr} {sl4 : Array (Option Value)} {oc4 kV4 dc4 pm4 cd4 ct4 : Value}
    (a4 : PySem.W.nsIn K mainGlobals "subsets_of" = some (some (.ref f4))) (l4 : K.lookup f4 = some ⟨oc4, od4, .func (PySem.W.fnOf "subsets_of" "subsets_of" (defArgs s_subsets_of) (defBody s_subsets_of) (defScope s_subsets_of) .none kV4 dc4 pm4 an4 cd4 ct4), sl4⟩) (c4 : PySem.W.codeIn K cd4 "subsets_of" = true) (k4 : PySem.W.keepIn K (.ref f4) = true)
    {f5 : Addr} {od5 an5 : Option Addr} {sl5 : Array (Option Value)} {oc5 kV5 dc5 pm5 cd5 ct5 : Value}
    (a5 : PySem.W.nsIn K mainGlobals "ball" = some (some (.ref f5))) (l5 : K.lookup f5 = some ⟨oc5, od5, .func (PySem.W.fnOf "ball" "ball" (defArgs s_ball) (defBody s_ball) (defScope s_ball) .none kV5 dc5 pm5 an5 cd5 ct5), sl5⟩) (c5 : PySem.W.codeIn K cd5 "ball" = true) (k5 : PySem.W.keepIn K (.ref f5) = true)
    {f6 : Addr} {od6 an6 : Option Addr} {sl6 : Array (Option Value)} {oc6 kV6 dc6 pm6 cd6 ct6 : Value}
    (a6 : PySem.W.nsIn K mainGlobals "gather" = some (some (.ref f6))) (l6 : K.lookup f6 = some ⟨oc6, od6, .func (PySem.W.fnOf "gather" "gather" (defArgs s_gather) (defBody s_gather) (defScope s_gather) .none kV6 dc6 pm6 an6 cd6 ct6), sl6⟩) (c6 : PySem.W.codeIn K cd6 "gather" = true) (k6 : PySem.W.keepIn K (.ref f6) = true)
    {f7 : Addr} {od7 an7 : Option Addr} {sl7 : Array (Option Value)} {oc7 kV7 dc7 pm7 cd7 ct7 : Value}
    (a7 : PySem.W.nsIn K mainGlobals "scatter" = some (some (.ref f7))) (l7 : K.lookup f7 = some ⟨oc7, od7, .func (PySem.W.fnOf "scatter" "scatter" (defArgs s_scatter) (defBody s_scatter) (defScope s_scatter) .none kV7 dc7 pm7 an7 cd7 ct7), sl7⟩) (c7 : PySem.W.codeIn K cd7 "scatter" = true) (k7 : PySem.W.keepIn K (.ref f7) = true)
    {f8 : Addr} {od8 an8 : Option Addr} {sl8 : Array (Option Value)} {oc8 kV8 dc8 pm8 cd8 ct8 : Value}
    (a8 : PySem.W.nsIn K mainGlobals "_law_pool" = some (some (.ref f8))) (l8 : K.lookup f8 = some ⟨oc8, od8, .func (PySem.W.fnOf "_law_pool" "_law_pool" (defArgs s__law_pool) (defBody s__law_pool) (defScope s__law_pool) .none kV8 dc8 pm8 an8 cd8 ct8), sl8⟩) (c8 : PySem.W.codeIn K cd8 "_law_pool" = true) (k8 : PySem.W.keepIn K (.ref f8) = true)
    {f9 : Addr} {od9 an9 : Option Addr} {sl9 : Array (Option Value)} {oc9 kV9 dc9 pm9 cd9 ct9 : Value}
    (a9 : PySem.W.nsIn K mainGlobals "_law_take" = some (some (.ref f9))) (l9 : K.lookup f9 = some ⟨oc9, od9, .func (PySem.W.fnOf "_law_take" "_law_take" (defArgs s__law_take) (defBody s__law_take) (defScope s__law_take) .none kV9 dc9 pm9 an9 cd9 ct9), sl9⟩) (c9 : PySem.W.codeIn K cd9 "_law_take" = true) (k9 : PySem.W.keepIn K (.ref f9) = true)
    {f10 : Addr} {od10 an10 : Option Addr} {sl10 : Array (Option Value)} {oc10 kV10 dc10 pm10 cd10 ct10 : Value}
    (a10 : PySem.W.nsIn K mainGlobals "_law_mask" = some (some (.ref f10))) (l10 : K.lookup f10 = some ⟨oc10, od10, .func (PySem.W.fnOf "_law_mask" "_law_mask" (defArgs s__law_mask) (defBody s__law_mask) (defScope s__law_mask) .none kV10 dc10 pm10 an10 cd10 ct10), sl10⟩) (c10 : PySem.W.codeIn K cd10 "_law_mask" = true) (k10 : PySem.W.keepIn K (.ref f10) = true)
    {f11 : Addr} {od11 an11 : Option Addr} {sl11 : Array (Option Value)} {oc11 kV11 dc11 pm11 cd11 ct11 : Value}
    (a11 : PySem.W.nsIn K mainGlobals "_law_same" = some (some (.ref f11))) (l11 : K.lookup f11 = some ⟨oc11, od11, .func (PySem.W.fnOf "_law_same" "_law_same" (defArgs s__law_same) (defBody s__law_same) (defScope s__law_same) .none kV11 dc11 pm11 an11 cd11 ct11), sl11⟩) (c11 : PySem.W.codeIn K cd11 "_law_same" = true) (k11 : PySem.W.keepIn K (.ref f11) = true)
    {f12 : Addr} {od12 an12 : Option Addr} {sl12 : Array (Option Value)} {oc12 kV12 dc12 pm12 cd12 ct12 : Value}
    (a12 : PySem.W.nsIn K mainGlobals "_law_ball" = some (some (.ref f12))) (l12 : K.lookup f12 = some ⟨oc12, od12, .func (PySem.W.fnOf "_law_ball" "_law_ball" (defArgs s__law_ball) (defBody s__law_ball) (defScope s__law_ball) .none kV12 dc12 pm12 an12 cd12 ct12), sl12⟩) (c12 : PySem.W.codeIn K cd12 "_law_ball" = true) (k12 : PySem.W.keepIn K (.ref f12) = true)
    {f13 : Addr} {od13 an13 : Option Addr} {sl13 : Array (Option Value)} {oc13 kV13 dc13 pm13 cd13 ct13 : Value}
    (a13 : PySem.W.nsIn K mainGlobals "_law_wires" = some (some (.ref f13))) (l13 : K.lookup f13 = some ⟨oc13, od13, .func (PySem.W.fnOf "_law_wires" "_law_wires" (defArgs s__law_wires) (defBody s__law_wires) (defScope s__law_wires) .none kV13 dc13 pm13 an13 cd13 ct13), sl13⟩) (c13 : PySem.W.codeIn K cd13 "_law_wires" = true) (k13 : PySem.W.keepIn K (.ref f13) = true)
    {f14 : Addr} {od14 an14 : Option Addr} {sl14 : Array (Option Value)} {oc14 kV14 dc14 pm14 cd14 ct14 : Value}
    (a14 : PySem.W.nsIn K mainGlobals "_law_made" = some (some (.ref f14))) (l14 : K.lookup f14 = some ⟨oc14, od14, .func (PySem.W.fnOf "_law_made" "_law_made" (defArgs s__law_made) (defBody s__law_made) (defScope s__law_made) .none kV14 dc14 pm14 an14 cd14 ct14), sl14⟩) (c14 : PySem.W.codeIn K cd14 "_law_made" = true) (k14 : PySem.W.keepIn K (.ref f14) = true)
    {f15 : Addr} {od15 an15 : Option Addr} {sl15 : Array (Option Value)} {oc15 kV15 dc15 pm15 cd15 ct15 : Value}
    (a15 : PySem.W.nsIn K mainGlobals "_law_gathered" = some (some (.ref f15))) (l15 : K.lookup f15 = some ⟨oc15, od15, .func (PySem.W.fnOf "_law_gathered" "_law_gathered" (defArgs s__law_gathered) (defBody s__law_gathered) (defScope s__law_gathered) .none kV15 dc15 pm15 an15 cd15 ct15), sl15⟩) (c15 : PySem.W.codeIn K cd15 "_law_gathered" = true) (k15 : PySem.W.keepIn K (.ref f15) = true)
    {f16 : Addr} {od16 an16 : Option Addr} {sl16 : Array (Option Value)} {oc16 kV16 dc16 pm16 cd16 ct16 : Value}
    (a16 : PySem.W.nsIn K mainGlobals "_law_scattered" = some (some (.ref f16))) (l16 : K.lookup f16 = some ⟨oc16, od16, .func (PySem.W.fnOf "_law_scattered" "_law_scattered" (defArgs s__law_scattered) (defBody s__law_scattered) (defScope s__law_scattered) .none kV16 dc16 pm16 an16 cd16 ct16), sl16⟩) (c16 : PySem.W.codeIn K cd16 "_law_scattered" = true) (k16 : PySem.W.keepIn K (.ref f16) = true)
    {f17 : Addr} {od17 an17 : Option Addr} {sl17 : Array (Option Value)} {oc17 kV17 dc17 pm17 cd17 ct17 : Value}
    (a17 : PySem.W.nsIn K mainGlobals "_law_listed" = some (some (.ref f17))) (l17 : K.lookup f17 = some ⟨oc17, od17, .func (PySem.W.fnOf "_law_listed" "_law_listed" (defArgs s__law_listed) (defBody s__law_listed) (defScope s__law_listed) .none kV17 dc17 pm17 an17 cd17 ct17), sl17⟩) (c17 : PySem.W.codeIn K cd17 "_law_listed" = true) (k17 : PySem.W.keepIn K (.ref f17) = true)
    {f18 : Addr} {od18 an18 : Option Addr} {sl18 : Array (Option Value)} {oc18 kV18 dc18 pm18 cd18 ct18 : Value}
    (a18 : PySem.W.nsIn K mainGlobals "_law_spread" = some (some (.ref f18))) (l18 : K.lookup f18 = some ⟨oc18, od18, .func (PySem.W.fnOf "_law_spread" "_law_spread" (defArgs s__law_spread) (defBody s__law_spread) (defScope s__law_spread) .none kV18 dc18 pm18 an18 cd18 ct18), sl18⟩) (c18 : PySem.W.codeIn K cd18 "_law_spread" = true) (k18 : PySem.W.keepIn K (.ref f18) = true)
    {f19 : Addr} {od19 an19 : Option Addr} {sl19 : Array (Option Value)} {oc19 kV19 dc19 pm19 cd19 ct19 : Value}
    (a19 : PySem.W.nsIn K mainGlobals "_law_counted" = some (some (.ref f19))) (l19 : K.lookup f19 = some ⟨oc19, od19, .func (PySem.W.fnOf "_law_counted" "_law_counted" (defArgs s__law_counted) (defBody s__law_counted) (defScope s__law_counted) .none kV19 dc19 pm19 an19 cd19 ct19), sl19⟩) (c19 : PySem.W.codeIn K cd19 "_law_counted" = true) (k19 : PySem.W.keepIn K (.ref f19) = true)
    {f20 : Addr} {od20 an20 : Option Addr} {sl20 : Array (Option Value)} {oc20 kV20 dc20 pm20 cd20 ct20 : Value}
    (a20 : PySem.W.nsIn K mainGlobals "_law_balls" = some (some (.ref f20))) (l20 : K.lookup f20 = some ⟨oc20, od20, .func (PySem.W.fnOf "_law_balls" "_law_balls" (defArgs s__law_balls) (defBody s__law_balls) (defScope s__law_balls) .none kV20 dc20 pm20 an20 cd20 ct20), sl20⟩) (c20 : PySem.W.codeIn K cd20 "_law_balls" = true) (k20 : PySem.W.keepIn K (.ref f20) = true)
    {f21 : Addr} {od21 an21 : Option Addr} {sl21 : Array (Option Value)} {oc21 kV21 dc21 pm21 cd21 ct21 : Value}
    (a21 : PySem.W.nsIn K mainGlobals "_law_renumbered" = some (some (.ref f21))) (l21 : K.lookup f21 = some ⟨oc21, od21, .func (PySem.W.fnOf "_law_renumbered" "_law_renumbered" (defArgs s__law_renumbered) (defBody s__law_renumbered) (defScope s__law_renumbered) .none kV21 dc21 pm21 an21 cd21 ct21), sl21⟩) (c21 : PySem.W.codeIn K cd21 "_law_renumbered" = true) (k21 : PySem.W.keepIn K (.ref f21) = true)
    {f22 : Addr} {od22 an22 : Option Addr} {sl22 : Array (Option Value)} {oc22 kV22 dc22 pm22 cd22 ct22 : Value}
    (a22 : PySem.W.nsIn K mainGlobals "_law_told" = some (some (.ref f22))) (l22 : K.lookup f22 = some ⟨oc22, od22, .func (PySem.W.fnOf "_law_told" "_law_told" (defArgs s__law_told) (defBody s__law_told) (defScope s__law_told) .none kV22 dc22 pm22 an22 cd22 ct22), sl22⟩) (c22 : PySem.W.codeIn K cd22 "_law_told" = true) (k22 : PySem.W.keepIn K (.ref f22) = true)
    {f23 : Addr} {od23 an23 : Option Addr} {sl23 : Array (Option Value)} {oc23 kV23 dc23 pm23 cd23 ct23 : Value}
    (a23 : PySem.W.nsIn K mainGlobals "_law_listed_subsets" = some (some (.ref f23))) (l23 : K.lookup f23 = some ⟨oc23, od23, .func (PySem.W.fnOf "_law_listed_subsets" "_law_listed_subsets" (defArgs s__law_listed_subsets) (defBody s__law_listed_subsets) (defScope s__law_listed_subsets) .none kV23 dc23 pm23 an23 cd23 ct23), sl23⟩) (c23 : PySem.W.codeIn K cd23 "_law_listed_subsets" = true) (k23 : PySem.W.keepIn K (.ref f23) = true)
    {f24 : Addr} {od24 an24 : Option Addr} {sl24 : Array (Option Value)} {oc24 kV24 dc24 pm24 cd24 ct24 : Value}
    (a24 : PySem.W.nsIn K mainGlobals "law" = some (some (.ref f24))) (l24 : K.lookup f24 = some ⟨oc24, od24, .func (PySem.W.fnOf "law" "law" (defArgs s_law) (defBody s_law) (defScope s_law) .none kV24 dc24 pm24 an24 cd24 ct24), sl24⟩) (c24 : PySem.W.codeIn K cd24 "law" = true) (k24 : PySem.W.keepIn K (.ref f24) = true)
    (z_ValueError : PySem.W.nsIn K mainGlobals "ValueError" = some none)
    (z_bool : PySem.W.nsIn K mainGlobals "bool" = some none)
    (z_enumerate : PySem.W.nsIn K mainGlobals "enumerate" = some none)
    (z_int : PySem.W.nsIn K mainGlobals "int" = some none)
    (z_isinstance : PySem.W.nsIn K mainGlobals "isinstance" = some none)
    (z_len : PySem.W.nsIn K mainGlobals "len" = some none)
    (z_list : PySem.W.nsIn K mainGlobals "list" = some none)
    (z_min : PySem.W.nsIn K mainGlobals "min" = some none)
    (z_range : PySem.W.nsIn K mainGlobals "range" = some none)
    (z_sorted : PySem.W.nsIn K mainGlobals "sorted" = some none)
    (z_str : PySem.W.nsIn K mainGlobals "str" = some none)
    (z_sum : PySem.W.nsIn K mainGlobals "sum" = some none)
    (z_tuple : PySem.W.nsIn K mainGlobals "tuple" = some none)
    (y_comb : PySem.W.nsIn K mainGlobals "comb" = some (some (.builtin "math.comb")))
    {t_SUBSET_WIRES : Tok} (q_SUBSET_WIRES : PySem.W.nsIn K mainGlobals "SUBSET_WIRES" = some (some (.int 12 t_SUBSET_WIRES)))
    (sn : PySem.W.specialIn K (.builtin "object.__class__") "__get__" = some (some (.builtin "getset_descriptor.__get__"))) (stk : PySem.W.takesIn K (.builtin "object.__class__") = some true)
    {C_BusError : Addr} (ea_BusError : PySem.W.nsIn K mainGlobals "BusError" = some (some (.ref C_BusError))) (eb_BusError : PySem.W.findIn K (.ref C_BusError) "__getattribute__" = some (some (.builtin "BaseException.__getattribute__"))) (ec_BusError : PySem.W.findIn K (.ref C_BusError) "__getattr__" = some none)
    (ed_BusError : PySem.W.subIn K (.ref C_BusError) (.type "BaseException") = some true) (ee_BusError : PySem.W.hasDictIn K C_BusError = true) (ef_BusError : PySem.W.findIn K (.ref C_BusError) "__class__" = some (some (.builtin "object.__class__"))) (eg_BusError : PySem.W.mroIn K C_BusError (.type "object") = some true)
    (eh_BusError : PySem.W.isClsIn K C_BusError = true) (ei_BusError : PySem.W.typeIn K (.ref C_BusError) = some (.type "type")) (ej_BusError : PySem.W.subIn K (.ref C_BusError) (.ref C_BusError) = some true) (ek_BusError : PySem.W.subIn K (.ref C_BusError) (.type "ValueError") = some true) (el_BusError : PySem.W.subIn K (.ref C_BusError) (.ref C_BusError) = some true)
    {C_BadWord : Addr} (ea_BadWord : PySem.W.nsIn K mainGlobals "BadWord" = some (some (.ref C_BadWord))) (eb_BadWord : PySem.W.findIn K (.ref C_BadWord) "__getattribute__" = some (some (.builtin "BaseException.__getattribute__"))) (ec_BadWord : PySem.W.findIn K (.ref C_BadWord) "__getattr__" = some none)
    (ed_BadWord : PySem.W.subIn K (.ref C_BadWord) (.type "BaseException") = some true) (ee_BadWord : PySem.W.hasDictIn K C_BadWord = true) (ef_BadWord : PySem.W.findIn K (.ref C_BadWord) "__class__" = some (some (.builtin "object.__class__"))) (eg_BadWord : PySem.W.mroIn K C_BadWord (.type "object") = some true)
    (eh_BadWord : PySem.W.isClsIn K C_BadWord = true) (ei_BadWord : PySem.W.typeIn K (.ref C_BadWord) = some (.type "type")) (ej_BadWord : PySem.W.subIn K (.ref C_BadWord) (.ref C_BusError) = some true) (ek_BadWord : PySem.W.subIn K (.ref C_BadWord) (.type "ValueError") = some true) (el_BadWord : PySem.W.subIn K (.ref C_BadWord) (.ref C_BadWord) = some true)
    {C_TooMany : Addr} (ea_TooMany : PySem.W.nsIn K mainGlobals "TooMany" = some (some (.ref C_TooMany))) (eb_TooMany : PySem.W.findIn K (.ref C_TooMany) "__getattribute__" = some (some (.builtin "BaseException.__getattribute__"))) (ec_TooMany : PySem.W.findIn K (.ref C_TooMany) "__getattr__" = some none)
    (ed_TooMany : PySem.W.subIn K (.ref C_TooMany) (.type "BaseException") = some true) (ee_TooMany : PySem.W.hasDictIn K C_TooMany = true) (ef_TooMany : PySem.W.findIn K (.ref C_TooMany) "__class__" = some (some (.builtin "object.__class__"))) (eg_TooMany : PySem.W.mroIn K C_TooMany (.type "object") = some true)
    (eh_TooMany : PySem.W.isClsIn K C_TooMany = true) (ei_TooMany : PySem.W.typeIn K (.ref C_TooMany) = some (.type "type")) (ej_TooMany : PySem.W.subIn K (.ref C_TooMany) (.ref C_BusError) = some true) (ek_TooMany : PySem.W.subIn K (.ref C_TooMany) (.type "ValueError") = some true) (el_TooMany : PySem.W.subIn K (.ref C_TooMany) (.ref C_TooMany) = some true)
    (no_TooMany_BadWord : PySem.W.subIn K (.ref C_TooMany) (.ref C_BadWord) = some false)
    (opq : PySem.W.nsIn K PySem.cStatics "thirdparty.any" = some none) (z_super : PySem.W.nsIn K mainGlobals "super" = some none) (fB : PySem.W.findIn K (.ref C_BusError) "__init__" = some (some (.builtin "ValueError.__init__")))
    {nmB qB : Str} {NB : Addr} {bsB : List Value} {snB : List Str} {subB : List Value} {abB : Bool} {colB : Option Bool} {ddB : Option Addr} {mB0 mB1 mB2 mB3 mB5 : Option Value}
    (xLB : K.lookup C_BusError = some (excClassObj nmB qB C_BusError NB bsB [.type "ValueError", .type "Exception", .type "BaseException", .type "object"] true snB subB abB colB ddB mB0 mB1 mB2 mB3 mB5 "ValueError.__new__"))
    {nm_TooMany q_TooMany : Str} {N_TooMany : Addr} {bs_TooMany : List Value} {sn_TooMany : List Str} {sub_TooMany : List Value} {ab_TooMany : Bool} {col_TooMany : Option Bool} {dd_TooMany : Option Addr} {m0_TooMany m1_TooMany m2_TooMany m3_TooMany m5_TooMany : Option Value}
    (xa_TooMany : K.lookup C_TooMany = some (excClassObj nm_TooMany q_TooMany C_TooMany N_TooMany bs_TooMany [.ref C_BusError, .type "ValueError", .type "Exception", .type "BaseException", .type "object"] true sn_TooMany sub_TooMany ab_TooMany col_TooMany dd_TooMany m0_TooMany m1_TooMany m2_TooMany m3_TooMany m5_TooMany "ValueError.__new__"))
    (xb_TooMany : PySem.W.findIn K (.ref C_TooMany) "__setattr__" = some (some (.builtin "object.__setattr__"))) (xc_TooMany : PySem.W.keepIn K (.ref C_TooMany) = true) {I_TooMany : Addr} (xd_TooMany' : PySem.W.findIn K (.ref C_TooMany) "__init__" = some (some (.ref I_TooMany))) (xe_TooMany : PySem.W.typeIn K (.ref I_TooMany) = some (.type "function"))
    {oc_TooMany kV_TooMany dc_TooMany pm_TooMany ct_TooMany : Value} {od_TooMany an_TooMany : Option Addr} {sl_TooMany : Array (Option Value)} {cda_TooMany cc_TooMany : Addr}
    (xf_TooMany : K.lookup I_TooMany = some ⟨oc_TooMany, od_TooMany, .func (PySem.W.fnX "__init__" "TooMany.__init__" (defArgs s_TooMany) (defBody s_TooMany) (defScope s_TooMany) [("__class__", cc_TooMany)] .none kV_TooMany dc_TooMany pm_TooMany an_TooMany (.ref cda_TooMany) ct_TooMany), sl_TooMany⟩) (xg_TooMany : PySem.W.codeIn K (.ref cda_TooMany) "TooMany.__init__" = true)
    {ccl_TooMany v0_TooMany v1_TooMany : Value} {cdd_TooMany : Option Addr} {vr_TooMany : List Value} {ccs_TooMany : Array (Option Value)} {file_TooMany : Str} {tf_TooMany : Tok} (xh_TooMany : K.lookup cda_TooMany = some ⟨ccl_TooMany, cdd_TooMany, .fields ⟨v0_TooMany :: v1_TooMany :: .str file_TooMany tf_TooMany :: vr_TooMany⟩, ccs_TooMany⟩) (xi_TooMany : ((l.prog.main.file : Str) == file_TooMany) = true)
    {cl_TooMany : Value} {cld_TooMany : Option Addr} {csl_TooMany : Array (Option Value)} (xj_TooMany : K.lookup cc_TooMany = some ⟨cl_TooMany, cld_TooMany, .cell (some (.ref C_TooMany)), csl_TooMany⟩)
    (xn_TooMany_what : PySem.W.findIn K (.ref C_TooMany) "what" = some none)
    (xn_TooMany_limit : PySem.W.findIn K (.ref C_TooMany) "limit" = some none)
    (ntop : (l.prog.main.scope.names.lookup ("super" : Str)).isSome = false)
    : ∃ fd : FuncData, (∀ (s : Shared) (v : Value), BindsTo s fd ⟨[v], []⟩ [("script", v)]) ∧ ∀ base : Heap, K.In base → base.Ns mainGlobals mg → FnOk l.prog w K mg base CX0 6 fa fd ["script"] (sp_law K) := by
  have e := hfa.symm.trans (PySem.W.mg_of X G a24)
  cases e
  have M : Mg mg := { ValueError := PySem.W.mg_none_of X G z_ValueError, bool := PySem.W.mg_none_of X G z_bool, enumerate := PySem.W.mg_none_of X G z_enumerate, int := PySem.W.mg_none_of X G z_int, isinstance := PySem.W.mg_none_of X G z_isinstance, len := PySem.W.mg_none_of X G z_len, list := PySem.W.mg_none_of X G z_list, min := PySem.W.mg_none_of X G z_min, range := PySem.W.mg_none_of X G z_range, sorted := PySem.W.mg_none_of X G z_sorted, str := PySem.W.mg_none_of X G z_str, sum := PySem.W.mg_none_of X G z_sum, tuple := PySem.W.mg_none_of X G z_tuple, comb := PySem.W.mg_of X G y_comb }
  have k_BusError : clsA K "BusError" = C_BusError := clsA_of ea_BusError
  have k_BadWord : clsA K "BadWord" = C_BadWord := clsA_of ea_BadWord
  have k_TooMany : clsA K "TooMany" = C_TooMany := clsA_of ea_TooMany
  have E_BusError : ExF K mg "BusError" := by
    refine ⟨?_, ?_, ?_, ?_, ?_, ?_, ?_, ?_⟩ <;> rw [k_BusError] <;> (try rw [k_BusError])
    · exact PySem.W.mg_of X G ea_BusError
    · exact ⟨eb_BusError, ec_BusError, ed_BusError, ee_BusError⟩
    · exact ⟨eb_BusError, ec_BusError, ed_BusError, ee_BusError, ef_BusError, sn, stk, eg_BusError⟩
    · exact eh_BusError
    · exact ei_BusError
    · exact ej_BusError
    · exact ek_BusError
    · exact el_BusError
  have E_BadWord : ExF K mg "BadWord" := by
    refine ⟨?_, ?_, ?_, ?_, ?_, ?_, ?_, ?_⟩ <;> rw [k_BadWord] <;> (try rw [k_BusError])
    · exact PySem.W.mg_of X G ea_BadWord
    · exact ⟨eb_BadWord, ec_BadWord, ed_BadWord, ee_BadWord⟩
    · exact ⟨eb_BadWord, ec_BadWord, ed_BadWord, ee_BadWord, ef_BadWord, sn, stk, eg_BadWord⟩
    · exact eh_BadWord
    · exact ei_BadWord
    · exact ej_BadWord
    · exact ek_BadWord
    · exact el_BadWord
  have E_TooMany : ExF K mg "TooMany" := by
    refine ⟨?_, ?_, ?_, ?_, ?_, ?_, ?_, ?_⟩ <;> rw [k_TooMany] <;> (try rw [k_BusError])
    · exact PySem.W.mg_of X G ea_TooMany
    · exact ⟨eb_TooMany, ec_TooMany, ed_TooMany, ee_TooMany⟩
    · exact ⟨eb_TooMany, ec_TooMany, ed_TooMany, ee_TooMany, ef_TooMany, sn, stk, eg_TooMany⟩
    · exact eh_TooMany
    · exact ei_TooMany
    · exact ej_TooMany
    · exact ek_TooMany
    · exact el_TooMany
  have C : Cg K mg := { e_BusError := E_BusError, e_BadWord := E_BadWord, e_TooMany := E_TooMany, no_TooMany_BadWord := by rw [k_TooMany, k_BadWord]; exact no_TooMany_BadWord, no_TooMany_what := by rw [k_TooMany]; exact xn_TooMany_what, no_TooMany_limit := by rw [k_TooMany]; exact xn_TooMany_limit, c_SUBSET_WIRES := ⟨_, PySem.W.mg_of X G q_SUBSET_WIRES⟩ }
  have T_TooMany : ExI l.prog K mg (clsA K "TooMany") s_TooMany "TooMany.__init__" I_TooMany (PySem.W.fnX "__init__" "TooMany.__init__" (defArgs s_TooMany) (defBody s_TooMany) (defScope s_TooMany) [("__class__", cc_TooMany)] .none kV_TooMany dc_TooMany pm_TooMany an_TooMany (.ref cda_TooMany) ct_TooMany) := by
    rw [k_TooMany]
    exact { oex := ⟨⟨_, _, _, _, _, _, _, _, _, _, _, _, _, _, _, xa_TooMany, rfl⟩, xb_TooMany, ed_TooMany, ei_TooMany, xc_TooMany⟩, iC := xd_TooMany', tI := xe_TooMany, fn := ⟨_, _, _, _, _, _, _, _, _, _, rfl, xf_TooMany, xg_TooMany, ⟨_, _, _, _, _, _, xh_TooMany, rfl, xi_TooMany⟩, _, _, _, xj_TooMany⟩, cd := eh_TooMany, sub := el_TooMany, sup := sup_of xa_TooMany xLB fB, subV := ek_TooMany, opq := opq, nsup := PySem.W.mg_none_of X G z_super, ntop := ntop }
  have G0 : Fg K mg "size_of" s_size_of := fg_of X G a0 l0 c0 k0
  have G1 : Fg K mg "wires_of" s_wires_of := fg_of X G a1 l1 c1 k1
  have G2 : Fg K mg "mask_of" s_mask_of := fg_of X G a2 l2 c2 k2
  have G3 : Fg K mg "contains" s_contains := fg_of X G a3 l3 c3 k3
  have G4 : Fg K mg "subsets_of" s_subsets_of := fg_of X G a4 l4 c4 k4
  have G5 : Fg K mg "ball" s_ball := fg_of X G a5 l5 c5 k5
  have G6 : Fg K mg "gather" s_gather := fg_of X G a6 l6 c6 k6
  have G7 : Fg K mg "scatter" s_scatter := fg_of X G a7 l7 c7 k7
  have G8 : Fg K mg "_law_pool" s__law_pool := fg_of X G a8 l8 c8 k8
  have G9 : Fg K mg "_law_take" s__law_take := fg_of X G a9 l9 c9 k9
  have G10 : Fg K mg "_law_mask" s__law_mask := fg_of X G a10 l10 c10 k10
  have G11 : Fg K mg "_law_same" s__law_same := fg_of X G a11 l11 c11 k11
  have G12 : Fg K mg "_law_ball" s__law_ball := fg_of X G a12 l12 c12 k12
  have G13 : Fg K mg "_law_wires" s__law_wires := fg_of X G a13 l13 c13 k13
  have G14 : Fg K mg "_law_made" s__law_made := fg_of X G a14 l14 c14 k14
  have G15 : Fg K mg "_law_gathered" s__law_gathered := fg_of X G a15 l15 c15 k15
  have G16 : Fg K mg "_law_scattered" s__law_scattered := fg_of X G a16 l16 c16 k16
  have G17 : Fg K mg "_law_listed" s__law_listed := fg_of X G a17 l17 c17 k17
  have G18 : Fg K mg "_law_spread" s__law_spread := fg_of X G a18 l18 c18 k18
  have G19 : Fg K mg "_law_counted" s__law_counted := fg_of X G a19 l19 c19 k19
  have G20 : Fg K mg "_law_balls" s__law_balls := fg_of X G a20 l20 c20 k20
  have G21 : Fg K mg "_law_renumbered" s__law_renumbered := fg_of X G a21 l21 c21 k21
  have G22 : Fg K mg "_law_told" s__law_told := fg_of X G a22 l22 c22 k22
  have G23 : Fg K mg "_law_listed_subsets" s__law_listed_subsets := fg_of X G a23 l23 c23 k23
  have G24 : Fg K mg "law" s_law := fg_of X G a24 l24 c24 k24
  refine ⟨PySem.W.fnOf "law" "law" (defArgs s_law) (defBody s_law) (defScope s_law) .none kV24 dc24 pm24 an24 cd24 ct24, fun s v => .of_eq rfl, fun base hK hN => ?_⟩
  have X_TooMany := xd_TooMany (P := l.prog) (w := w) (base := base) M E_TooMany.g T_TooMany (by rw [k_TooMany]; exact xn_TooMany_what) (by rw [k_TooMany]; exact xn_TooMany_limit)
  have D_size_of := dn_size_of (P := l.prog) (w := w) (base := base) M C G0
  have D_wires_of := dn_wires_of (P := l.prog) (w := w) (base := base) M C G1
  have D_mask_of := dn_mask_of (P := l.prog) (w := w) (base := base) M C G2
  have D_contains := dn_contains (P := l.prog) (w := w) (base := base) M C G3
  have D_subsets_of := dn_subsets_of (P := l.prog) (w := w) (base := base) M C G4 D_wires_of D_size_of X_TooMany
  have D_ball := dn_ball (P := l.prog) (w := w) (base := base) M C G5
  have D_gather := dn_gather (P := l.prog) (w := w) (base := base) M C G6
  have D_scatter := dn_scatter (P := l.prog) (w := w) (base := base) M C G7
  have D__law_pool := dn__law_pool (P := l.prog) (w := w) (base := base) M C G8
  have D__law_take := dn__law_take (P := l.prog) (w := w) (base := base) M C G9
  have D__law_mask := dn__law_mask (P := l.prog) (w := w) (base := base) M C G10 D__law_take
  have D__law_same := dn__law_same (P := l.prog) (w := w) (base := base) M C G11
  have D__law_ball := dn__law_ball (P := l.prog) (w := w) (base := base) M C G12
  have D__law_wires := dn__law_wires (P := l.prog) (w := w) (base := base) M C G13
  have D__law_made := dn__law_made (P := l.prog) (w := w) (base := base) M C G14
  have D__law_gathered := dn__law_gathered (P := l.prog) (w := w) (base := base) M C G15
  have D__law_scattered := dn__law_scattered (P := l.prog) (w := w) (base := base) M C G16
  have D__law_listed := dn__law_listed (P := l.prog) (w := w) (base := base) M C G17 D__law_take
  have D__law_spread := dn__law_spread (P := l.prog) (w := w) (base := base) M C G18 D__law_take
  have D__law_counted := dn__law_counted (P := l.prog) (w := w) (base := base) M C G19 D__law_wires D_wires_of D__law_same D__law_take D__law_listed D__law_made D_size_of D_contains D_mask_of
  have D__law_balls := dn__law_balls (P := l.prog) (w := w) (base := base) M C G20 D__law_take D__law_same D_ball D__law_ball
  have D__law_renumbered := dn__law_renumbered (P := l.prog) (w := w) (base := base) M C G21 D__law_mask D__law_gathered D__law_scattered D__law_same D_scatter D_gather D__law_made
  have D__law_told := dn__law_told (P := l.prog) (w := w) (base := base) M C G22 D_subsets_of
  have D__law_listed_subsets := dn__law_listed_subsets (P := l.prog) (w := w) (base := base) M C G23 D__law_told D__law_made D__law_same
  exact ok_law (P := l.prog) (w := w) (base := base) M C (fun_mk l24 c24 k24) D__law_pool D__law_take D__law_mask D__law_balls D__law_listed_subsets D__law_counted D__law_spread D__law_renumbered D__law_wires
end Lw
open PySem PySem.W PyProof.Rows
set_option maxHeartbeats 0 in
theorem PySem.Challenge.cw_fewturnatonce_k13_sets_and_numbers_holds : PySem.Challenge.rw_fewturnatonce_k13_sets_and_numbers.Holds := by
  w_on; o_law; k_head; (case hw => w_witness2)
  k_fill
  refine L2.walk_of (l := PySem.Challenge.rw_fewturnatonce_k13_sets_and_numbers) (n := 63) (k := 6) (x := "script") (CX := fun _ => L2.CX0) (sp := fun w => Lw.sp_law _) rfl (by decide) rfl ⟨rfl, by decide, by decide⟩ (fun w h Y => PySem.W.kIn_of Y) ?F (fun _ _ a ns hl _ hS => ⟨a, ns, rfl, hS, hl, fun _ => rfl⟩) (fun _ _ _ _ _ h => h)
  case F =>
    intro w mg fa h KX G hmg
    refine' Lw.all_mk KX G hmg ?a0 ?l0 ?c0 ?k0 ?a1 ?l1 ?c1 ?k1 ?a2 ?l2 ?c2 ?k2 ?a3 ?l3 ?c3 ?k3 ?a4 ?l4 ?c4 ?k4 ?a5 ?l5 ?c5 ?k5 ?a6 ?l6 ?c6 ?k6 ?a7 ?l7 ?c7 ?k7 ?a8 ?l8 ?c8 ?k8 ?a9 ?l9 ?c9 ?k9 ?a10 ?l10 ?c10 ?k10 ?a11 ?l11 ?c11 ?k11 ?a12 ?l12 ?c12 ?k12 ?a13 ?l13 ?c13 ?k13 ?a14 ?l14 ?c14 ?k14 ?a15 ?l15 ?c15 ?k15 ?a16 ?l16 ?c16 ?k16 ?a17 ?l17 ?c17 ?k17 ?a18 ?l18 ?c18 ?k18 ?a19 ?l19 ?c19 ?k19 ?a20 ?l20 ?c20 ?k20 ?a21 ?l21 ?c21 ?k21 ?a22 ?l22 ?c22 ?k22 ?a23 ?l23 ?c23 ?k23 ?a24 ?l24 ?c24 ?k24 ?z_ValueError ?z_bool ?z_enumerate ?z_int ?z_isinstance ?z_len ?z_list ?z_min ?z_range ?z_sorted ?z_str ?z_sum ?z_tuple ?y_comb ?q_SUBSET_WIRES ?sn ?stk ?ea_BusError ?eb_BusError ?ec_BusError ?ed_BusError ?ee_BusError ?ef_BusError ?eg_BusError ?eh_BusError ?ei_BusError ?ej_BusError ?ek_BusError ?el_BusError ?ea_BadWord ?eb_BadWord ?ec_BadWord ?ed_BadWord ?ee_BadWord ?ef_BadWord ?eg_BadWord ?eh_BadWord ?ei_BadWord ?ej_BadWord ?ek_BadWord ?el_BadWord ?ea_TooMany ?eb_TooMany ?ec_TooMany ?ed_TooMany ?ee_TooMany ?ef_TooMany ?eg_TooMany ?eh_TooMany ?ei_TooMany ?ej_TooMany ?ek_TooMany ?el_TooMany ?no_TooMany_BadWord ?opq ?z_super ?fB ?xLB ?xa_TooMany ?xb_TooMany ?xc_TooMany ?xd_TooMany' ?xe_TooMany ?xf_TooMany ?xg_TooMany ?xh_TooMany ?xi_TooMany ?xj_TooMany ?xn_TooMany_what ?xn_TooMany_limit ?ntop
    (case a0 => k_is)
    (case l0 => k_is)
    (case c0 => k_is)
    (case k0 => k_is)
    (case a1 => k_is)
    (case l1 => k_is)
    (case c1 => k_is)
    (case k1 => k_is)
    (case a2 => k_is)
    (case l2 => k_is)
    (case c2 => k_is)
    (case k2 => k_is)
    (case a3 => k_is)
    (case l3 => k_is)
    (case c3 => k_is)
    (case k3 => k_is)
    (case a4 => k_is)
    (case l4 => k_is)
    (case c4 => k_is)
    (case k4 => k_is)
    (case a5 => k_is)
    (case l5 => k_is)
    (case c5 => k_is)
    (case k5 => k_is)
    (case a6 => k_is)
    (case l6 => k_is)
    (case c6 => k_is)
    (case k6 => k_is)
    (case a7 => k_is)
    (case l7 => k_is)
    (case c7 => k_is)
    (case k7 => k_is)
    (case a8 => k_is)
    (case l8 => k_is)
    (case c8 => k_is)
    (case k8 => k_is)
    (case a9 => k_is)
    (case l9 => k_is)
    (case c9 => k_is)
    (case k9 => k_is)
    (case a10 => k_is)
    (case l10 => k_is)
    (case c10 => k_is)
    (case k10 => k_is)
    (case a11 => k_is)
    (case l11 => k_is)
    (case c11 => k_is)
    (case k11 => k_is)
    (case a12 => k_is)
    (case l12 => k_is)
    (case c12 => k_is)
    (case k12 => k_is)
    (case a13 => k_is)
    (case l13 => k_is)
    (case c13 => k_is)
    (case k13 => k_is)
    (case a14 => k_is)
    (case l14 => k_is)
    (case c14 => k_is)
    (case k14 => k_is)
    (case a15 => k_is)
    (case l15 => k_is)
    (case c15 => k_is)
    (case k15 => k_is)
    (case a16 => k_is)
    (case l16 => k_is)
    (case c16 => k_is)
    (case k16 => k_is)
    (case a17 => k_is)
    (case l17 => k_is)
    (case c17 => k_is)
    (case k17 => k_is)
    (case a18 => k_is)
    (case l18 => k_is)
    (case c18 => k_is)
    (case k18 => k_is)
    (case a19 => k_is)
    (case l19 => k_is)
    (case c19 => k_is)
    (case k19 => k_is)
    (case a20 => k_is)
    (case l20 => k_is)
    (case c20 => k_is)
    (case k20 => k_is)
    (case a21 => k_is)
    (case l21 => k_is)
    (case c21 => k_is)
    (case k21 => k_is)
    (case a22 => k_is)
    (case l22 => k_is)
    (case c22 => k_is)
    (case k22 => k_is)
    (case a23 => k_is)
    (case l23 => k_is)
    (case c23 => k_is)
    (case k23 => k_is)
    (case a24 => k_is)
    (case l24 => k_is)
    (case c24 => k_is)
    (case k24 => k_is)
    (case z_ValueError => k_is)
    (case z_bool => k_is)
    (case z_enumerate => k_is)
    (case z_int => k_is)
    (case z_isinstance => k_is)
    (case z_len => k_is)
    (case z_list => k_is)
    (case z_min => k_is)
    (case z_range => k_is)
    (case z_sorted => k_is)
    (case z_str => k_is)
    (case z_sum => k_is)
    (case z_tuple => k_is)
    (case y_comb => k_is)
    (case q_SUBSET_WIRES => k_is)
    (case sn => k_is)
    (case stk => k_is)
    (case ea_BusError => k_is)
    (case eb_BusError => k_is)
    (case ec_BusError => k_is)
    (case ed_BusError => k_is)
    (case ee_BusError => k_is)
    (case ef_BusError => k_is)
    (case eg_BusError => k_is)
    (case eh_BusError => k_is)
    (case ei_BusError => k_is)
    (case ej_BusError => k_is)
    (case ek_BusError => k_is)
    (case el_BusError => k_is)
    (case ea_BadWord => k_is)
    (case eb_BadWord => k_is)
    (case ec_BadWord => k_is)
    (case ed_BadWord => k_is)
    (case ee_BadWord => k_is)
    (case ef_BadWord => k_is)
    (case eg_BadWord => k_is)
    (case eh_BadWord => k_is)
    (case ei_BadWord => k_is)
    (case ej_BadWord => k_is)
    (case ek_BadWord => k_is)
    (case el_BadWord => k_is)
    (case ea_TooMany => k_is)
    (case eb_TooMany => k_is)
    (case ec_TooMany => k_is)
    (case ed_TooMany => k_is)
    (case ee_TooMany => k_is)
    (case ef_TooMany => k_is)
    (case eg_TooMany => k_is)
    (case eh_TooMany => k_is)
    (case ei_TooMany => k_is)
    (case ej_TooMany => k_is)
    (case ek_TooMany => k_is)
    (case el_TooMany => k_is)
    (case no_TooMany_BadWord => k_is)
    (case opq => k_is)
    (case z_super => k_is)
    (case fB => k_is)
    (case xLB => k_is)
    (case xa_TooMany => k_is)
    (case xb_TooMany => k_is)
    (case xc_TooMany => k_is)
    (case xd_TooMany' => k_is)
    (case xe_TooMany => k_is)
    (case xf_TooMany => k_is)
    (case xg_TooMany => k_is)
    (case xh_TooMany => k_is)
    (case xi_TooMany => decide +kernel)
    (case xj_TooMany => k_is)
    (case xn_TooMany_what => k_is)
    (case xn_TooMany_limit => k_is)
    (case ntop => decide +kernel)
