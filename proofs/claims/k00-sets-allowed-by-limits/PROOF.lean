import PyProof.Rows.All
import Wide.All
import OpenK.AllK
import Wide.FinOn
import HandS.ForMost
import HandS.ClsMeth
import HandS.Gcd
import HandS.IsInst
import HandS.Zip
import HandS.Rev
import HandS.Evl
import HandS.Walk
import HandS.TupAny
import HandS.SortInts
import HandS.Flow
import HandS.Conv
import HandS.RevRange
import KE.KMathGC
import HandS.WideBits
import HandS.More
import KE.GoesMore
import HandS.Iter
import HandS.Base
import HandS.Call
import HandS.Exc
import HandS.ExcInit
import KE.KExcSuper
import HandS.ExcField
import HandS.ExcIs
import HandS.WordsExc
import KE.KExcIs
import HandS.Defaults
import HandS.ExcOwn
import PySem.Challenge.RW_fewturnatonce_k00_sets_allowed_by_limits
set_option Elab.async false
set_option linter.all false
set_option maxRecDepth 100000
set_option maxHeartbeats 4000000
local macro_rules | `(tactic| walk_at "g") => `(tactic| first
  | refine ⟨_, rfl, ?_⟩ | refine ⟨_, _, rfl, rfl, ?_⟩ | refine ⟨rfl, ?_⟩)

local macro_rules | `(tactic| walk_at "gg") => `(tactic| repeat walk_at "g")
namespace G
open PySem PySem.Spec PyProof.Rows L2
/-! ### a def of the module by its name: what a caller needs -/
structure Dn (P : Program) (w : World) (K : PySem.W.Frag) (mg : Str → Option Value) (base : Heap) (CX : CXT) (x : Str) (k : Nat) (ps : List Str) (sp : Sp) : Prop where
  ex : ∃ (f : Addr) (fd : FuncData), FnOk P w K mg base CX k f fd ps sp ∧ mg x = some (.ref f) ∧ PySem.W.keepIn K (.ref f) = true ∧ Binds K fd ps []
structure Fg (K : PySem.W.Frag) (mg : Str → Option Value) (x : Str) (st : Stmt) : Prop where
  ex : ∃ (f : Addr) (fd : FuncData), Fun K x x st f fd ∧ mg x = some (.ref f)
section
variable {X : Cx} {CX : CXT} {k : Nat} {x : Str} {ps : List Str} {sp : Sp} {E : XK} {e : Expr} {es : List Expr} {t : TA} {p pos : Pos}
theorem pe_callD (D : Dn X.prog X.w X.K X.mg X.base CX x k ps sp) (hr : Room k X.A) (hx : Passes CX X E) (ha : PA X (e :: es) t) (hg : Gl X x := by rfl)
    (hdb : (x == ("__debug__" : Str)) = false := by decide) (he : starEach (e :: es) X.env = (false, eval e X.env) :: starEach es X.env := by rfl) (hpl : (backTo pos (starEach es X.env)).any (·.1) = false := by rfl) :
    PE X (.Call (.Name x p) (e :: es) [] pos) (tCall sp [] E t) := by
  obtain ⟨f, fd, F, hm, hk, hb⟩ := D.ex
  exact pe_call F hr hg hm hk hb .nil hx ha hdb he hpl
theorem pe_callD0 (D : Dn X.prog X.w X.K X.mg X.base CX x k ps sp) (hr : Room k X.A) (hx : Passes CX X E) (hg : Gl X x := by rfl) (hdb : (x == ("__debug__" : Str)) = false := by decide) :
    PE X (.Call (.Name x p) [] [] pos) (tCall sp [] E tNil) := by
  obtain ⟨f, fd, F, hm, hk, hb⟩ := D.ex
  exact pe_call0 F hr hg hm hk hb .nil hx hdb
end
section
variable {P : Program} {w : World} {K : PySem.W.Frag} {mg : Str → Option Value} {base : Heap}
theorem dn_of {x : Str} {st : Stmt} {N ps : List Str} {k : Nat} {sp : Sp} (g : Fg K mg x st) (S : FnScope N ps (defScope st)) (len : ∀ vs H Q E, sp vs H Q E → vs.length = ps.length)
    (hb : ∀ (kV doc pm : Value) (an : Option Addr) (cdv ct : Value) (us : List Value), us.length = ps.length → bindArgs (PySem.W.fnOf x x (defArgs st) (defBody st) (defScope st) .none kV doc pm an cdv ct) ⟨us, []⟩ = pure (ps.zip us))
    (hbody : ∀ (f : Addr) (cdv : Value) (A : Around) (outer : List Env) (s : Shared) (H : Hp) (vs : List V) (Q : VK) (E : XK), Room k (A.deeper (envOfC x (defScope st) s.heap.objs.size f cdv)) → sp vs H Q E →
      ∃ t, PSs (cxOf CX0 P w K mg base N x (defScope st) f cdv A outer s H E).nox (defBody st) t ∧ t { nx := fun _ H' => Q .non H', rt := Q } (start N vs) H) :
    Dn P w K mg base CX0 x (k + 1) ps sp := by
  obtain ⟨f, fd, F, hm⟩ := g.ex
  exact ⟨f, fd, F.ok S len (hbody f), hm, F.kp, F.binds hb⟩
theorem Dn.imp {x : Str} {k : Nat} {ps : List Str} {sp sp' : Sp} {CX : CXT} (D : Dn P w K mg base CX x k ps sp) (h : ∀ vs H Q E, sp' vs H Q E → sp vs H Q E) : Dn P w K mg base CX x k ps sp' := by
  obtain ⟨f, fd, F, r⟩ := D.ex
  exact ⟨f, fd, F.imp h, r⟩
theorem fg_of {st : Stmt} {x : Str} {f : Addr} {h : Heap} {oc : Value} {od an : Option Addr} {osl : Array (Option Value)} {kV doc pm cdv ct : Value} (X : K.In h) (G : h.Ns mainGlobals mg)
    (a : PySem.W.nsIn K mainGlobals x = some (some (.ref f))) (l : K.lookup f = some ⟨oc, od, .func (PySem.W.fnOf x x (defArgs st) (defBody st) (defScope st) .none kV doc pm an cdv ct), osl⟩)
    (c : PySem.W.codeIn K cdv x = true) (kp : PySem.W.keepIn K (.ref f) = true) : Fg K mg x st := ⟨f, _, fun_mk l c kp, PySem.W.mg_of X G a⟩
end
/-! ### heaps -/
/-- all that was tracked stands, but at p -/
def Sb (p : Addr) (H H' : Hp) : Prop := ∀ b o, b ≠ p → H b = some o → H' b = some o
theorem Sb.refl (p : Addr) (H : Hp) : Sb p H H := fun _ _ _ h => h
theorem Sb.trans {p : Addr} {H H1 H2 : Hp} (a : Sb p H H1) (b : Sb p H1 H2) : Sb p H H2 := fun c o n h => b c o n (a c o n h)
theorem Sb.of {p : Addr} {H H' : Hp} (a : Same H H') : Sb p H H' := fun c o _ h => a c o h
theorem Sb.upd {p : Addr} {H H' : Hp} {o : HO} (a : Sb p H H') : Sb p H (upd H' p o) := fun c u n h => by rw [upd_ne n]; exact a c u n h
theorem same_new {H : Hp} {p : Addr} {o : HO} (h : H p = none) : Same H (upd H p o) := fun b x e => by rw [upd_ne (ne_of_none e h)]; exact e
theorem _root_.L2.Same.new {H H' : Hp} {p : Addr} {o : HO} (s : Same H H') (h : H' p = none) : Same H (upd H' p o) := s.trans (same_new h)
/-- a list that H does not know changes -/
theorem _root_.L2.Same.mut {H H' : Hp} {p : Addr} {o : HO} (s : Same H H') (h : H p = none) : Same H (upd H' p o) := fun b x e => by rw [upd_ne (ne_of_none e h)]; exact s b x e
theorem _root_.L2.Same.none {H H' : Hp} {p : Addr} (s : Same H H') (h : H' p = Option.none) : H p = Option.none := s.free h
def PoolAt (H : Hp) (p : Addr) : Prop := ∃ ns : List Int, H p = some (.lst (ns.map V.int))
theorem sq_lst {K : PySem.W.Frag} {H : Hp} {a : Addr} {xs : List V} (h : H a = some (.lst xs)) : SqL K H a xs := .inl (.inl h)
theorem sq_tup {K : PySem.W.Frag} {H : Hp} {a : Addr} {xs : List V} (h : H a = some (.tup xs)) : SqT K H a xs := .inl (.inl h)
theorem sz {n : Nat} (h : n ≤ 16777216) : n ≤ sizeLine := by rw [sizeLine_eq]; exact h
theorem szl {n : Nat} (h : n < 16777216) : n < sizeLine := by rw [sizeLine_eq]; exact h
theorem map_int_at {ns : List Int} {i : Nat} {x : V} (h : (ns.map V.int)[i]? = some x) : ∃ n, ns[i]? = some n ∧ x = .int n := by
  rw [List.getElem?_map] at h
  cases e : ns[i]? with
  | none => rw [e] at h; cases h
  | some z => rw [e] at h; exact ⟨z, rfl, (Option.some.inj h).symm⟩
theorem map_at {ns : List Int} {i : Nat} {n : Int} (h : ns[i]? = some n) : (ns.map V.int)[i]? = some (.int n) := by rw [List.getElem?_map, h]; rfl
theorem atI_of {α : Type} {xs : List α} {i : Int} {j : Nat} {v : α} (hi : i = (j : Int)) (h : xs[j]? = some v) : atI xs i = some v := by subst hi; exact atI_nat h
theorem take_more {α : Type} {l : List α} {i : Nat} {x : α} (h : l[i]? = some x) : l.take (i + 1) = l.take i ++ [x] := by
  rw [List.take_add_one, h]; rfl
theorem int_ne {i j : Int} (h : i ≠ j) : V.int i ≠ V.int j := fun e => h (V.int.inj e)
theorem ite2d {c : Prop} [Decidable c] {A B : Prop} (h1 : c → A) (h2 : ¬ c → B) : if decide c = true then A else B := by
  by_cases h : c
  · rw [if_pos (decide_eq_true h)]; exact h1 h
  · rw [if_neg (by simpa using h)]; exact h2 h
theorem ite2i {i j : Int} {A B : Prop} (h1 : i = j → A) (h2 : i ≠ j → B) : if decide (V.int i = V.int j) = true then A else B :=
  ite2d (fun e => h1 (V.int.inj e)) (fun e => h2 fun z => e (by rw [z]))
/-! ### for over a list of ints -/
theorem for_ints {K : PySem.W.Frag} {a : Addr} {ns : List Int} {g : TG} {tb : TS} {D : Ends} {σ : L2.St} {H : Hp} (Pv : Nat → L2.St → Hp → Prop) (h0 : Pv 0 σ H) (hl : ∀ i σ H, i ≤ ns.length → Pv i σ H → SqL K H a (ns.map V.int))
    (hs : ∀ i n σ H, ns[i]? = some n → Pv i σ H → g (.int n) σ H fun σ2 H2 => tb { D with nx := Pv (i + 1), ct := Pv (i + 1), bk := D.nx } σ2 H2) (hd : ∀ σ H, Pv ns.length σ H → D.nx σ H) :
    ∃ W : Nat → Nat → L2.St → Hp → Prop, (∃ m, W 0 m σ H) ∧ ∀ i m σ H, W i m σ H →
      ((Itl K a).stop i H ∧ D.nx σ H) ∨ ((Itl K a).go i H ∧ ∃ N : L2.St → Hp → Prop, (∀ σ' H', N σ' H' → ∃ m', m' < m ∧ W (i + 1) m' σ' H') ∧ ∀ x H', (Itl K a).yld i H x H' → g x σ H' fun σ2 H2 => tb { D with nx := N, ct := N, bk := D.nx } σ2 H2) := by
  refine for_list (xs := ns.map V.int) Pv h0 (fun i σ H hi p => hl i σ H (by rw [List.length_map] at hi; exact hi) p) (fun i x σ H hx p => ?_) (fun σ H p => hd σ H (by rw [List.length_map] at p; exact p))
  obtain ⟨n, hn, rfl⟩ := map_int_at hx
  exact hs i n σ H hn p
/-! ### math.comb -/
section
variable {X : Cx}
def rComb : List V → Hp → VK → Prop := fun vs H Q => ∃ a b : Int, vs = [.int a, .int b] ∧ 0 ≤ a ∧ 0 ≤ b ∧ a ≤ 18000 ∧ Q (.int (PySem.W.mcComb a b)) H
theorem cr_comb : CallR X (.builtin "math.comb") rComb := by
  intro pins s σ H vs us Q I r h
  obtain ⟨a, b, rfl, ha, hb, h1, q⟩ := h
  obtain ⟨t, u, rfl⟩ := Vals.int2 r
  exact PySem.W.mc_comb ha hb (by omega) (.inr h1) fun _ => ⟨.int _, H, I.tok _, ⟨_, rfl⟩, q⟩
end
/-! ### rules whose readings name the written part: told with K, so that a comprehension's block reads as its def -/
section
variable {X : Cx} {tg : Expr} (K : PySem.W.Frag)
theorem ix_listK (h : X.K = K := by rfl) : IxR X (rIxL K) := h ▸ ix_list
theorem ix_tupK (h : X.K = K := by rfl) : IxR X (rIxT K) := h ▸ ix_tup
theorem ix_seqK (h : X.K = K := by rfl) : IxR X (rIx K) := h ▸ ix_seq
theorem sl_listK (h : X.K = K := by rfl) : SlR X (rSlL K) := h ▸ sl_list
theorem sl_tupK (h : X.K = K := by rfl) : SlR X (rSlT K) := h ▸ sl_tup
theorem op_inK (h : X.K = K := by rfl) : OpR X (compareOp .In) (rIn K false) := h ▸ op_in_seq
theorem op_notInK (h : X.K = K := by rfl) : OpR X (compareOp .NotIn) (rIn K true) := h ▸ op_notIn_seq
theorem op_catAK (h : X.K = K := by rfl) : OpR X (binaryOp .Add) (rCatA K) := h ▸ op_catA
def rLenK : List V → Hp → VK → Prop := fun xs H Q => ∃ p ys, xs = [.ref p] ∧ (SqL K H p ys ∨ SqT K H p ys) ∧ Q (.int ys.length) H
def rListK : List V → Hp → VK → Prop := fun xs H Q => ∃ p ys, xs = [.ref p] ∧ (SqL K H p ys ∨ SqT K H p ys) ∧ ∀ l, H l = none → Q (.ref l) (upd H l (.lst ys))
def rTupK : List V → Hp → VK → Prop := fun xs H Q => ∃ p ys, xs = [.ref p] ∧ ((SqL K H p ys ∧ ∀ l, H l = none → Q (.ref l) (upd H l (.tup ys))) ∨ (SqT K H p ys ∧ Q (.ref p) H))
theorem call_lenK (h : X.K = K := by rfl) : CallR X (.builtin "len") (rLenK K) := h ▸ call_len_seq
theorem call_listK (h : X.K = K := by rfl) : CallR X (.type "list") (rListK K) := h ▸ call_list_of
theorem call_tupK (h : X.K = K := by rfl) : CallR X (.type "tuple") (rTupK K) := h ▸ call_tuple_of
theorem cr_sumK (hc : X.calm = true) (h : X.K = K := by rfl) : CallR X (.builtin "sum") (rSum K) := h ▸ cr_sum hc
theorem cr_maxK (hc : X.calm = true) (h : X.K = K := by rfl) : CallR X (.builtin "max") (rMax K) := h ▸ cr_max hc
theorem cr_minK' (hc : X.calm = true) (h : X.K = K := by rfl) : CallR X (.builtin "min") (rMin K) := h ▸ cr_min hc
theorem cr_anyK (hc : X.calm = true) (h : X.K = K := by rfl) : CallR X (.builtin "any") (rAny K) := h ▸ cr_any hc
theorem cr_allK (hc : X.calm = true) (h : X.K = K := by rfl) : CallR X (.builtin "all") (rAll K) := h ▸ cr_all hc
theorem cr_sortedK (h : X.K = K := by rfl) : CallR X (.builtin "sorted") (rSortedI K) := h ▸ cr_sortedI
theorem call_isiK' (h : X.K = K := by rfl) : CallR X (.builtin "isinstance") (rIsi K) := h ▸ call_isi
theorem call_isiTK (h : X.K = K := by rfl) : CallR X (.builtin "isinstance") (rIsiT K) := h ▸ call_isiT
theorem pi_listK {l : Expr} {tl : TE} (hl : PE X l tl) (h : X.K = K := by rfl) : PI X tg l (iList K tl) := h ▸ pi_list hl
theorem pi_tupK {l : Expr} {tl : TE} (hl : PE X l tl) (h : X.K = K := by rfl) : PI X tg l (iTup K tl) := h ▸ pi_tup hl
def tTruK (ta : TE) : TT := fun σ H Q => ta σ H fun x H' => ∃ k, TruV K x H' k ∧ Q k H'
theorem pt_truthK {a : Expr} {ta : TE} (ha : PE X a ta) (he : ∀ whole, isTrue a X.env whole = (do let v ← whole; standAt a.pos; holding [v] (truthy v))) (h : X.K = K := by rfl) : PT X a (tTruK K ta) := h ▸ pt_truth ha he
theorem pe_fldK {e : Expr} {ta : TE} {f : Str} {pos : Pos} (he : PE X e ta) (hb : attributeBase e f X.env (eval e X.env) = eval e X.env := by rfl) (h : X.K = K := by rfl) : PE X (.Attribute e f pos) (tFld K ta f) := h ▸ pe_fld he hb
theorem pi_enumK {e : Expr} {ta : TA} {p pos tpos : Pos} {elts : List Expr} {kk : Nat} (hg : Gl X "enumerate") (hm : X.mg "enumerate" = none) (ha : PA X [e] ta) (hs : starEach [e] X.env = [(false, eval e X.env)] := by rfl) (h : X.K = K := by rfl) :
    PI X (.Tuple elts kk tpos) (.Call (.Name "enumerate" p) [e] [] pos) (iEnum K ta) := h ▸ pi_enum hg hm ha hs
theorem pi_zipK {e e2 : Expr} {ta : TA} {p pos tpos : Pos} {elts : List Expr} {kk : Nat} (hg : Gl X "zip") (hm : X.mg "zip" = none) (ha : PA X [e, e2] ta) (hs : starEach [e, e2] X.env = (false, eval e X.env) :: starEach [e2] X.env := by rfl) (hpl : (backTo pos (starEach [e2] X.env)).any (·.1) = false := by rfl) (h : X.K = K := by rfl) :
    PI X (.Tuple elts kk tpos) (.Call (.Name "zip" p) [e, e2] [] pos) (RZ.iZipA K ta) := h ▸ RZ.pi_zipA hg hm ha hs hpl
theorem pi_revK {e : Expr} {te : TE} {p pos : Pos} (hg : Gl X "reversed") (hm : X.mg "reversed" = none) (he : PE X e te) (hs : starEach [e] X.env = (false, eval e X.env) :: starEach [] X.env := by rfl) (h : X.K = K := by rfl) : PI X tg (.Call (.Name "reversed" p) [e] [] pos) (RT.iRevA K te) := h ▸ RT.pi_revA hg hm he hs
theorem op_eqDK (hu : X.A.units + 64 < cLine) (h : X.K = K := by rfl) : OpR X (compareOp .Eq) (rEqD K) := h ▸ op_eqD hu
theorem op_neDK (hu : X.A.units + 64 < cLine) (h : X.K = K := by rfl) : OpR X (compareOp .NotEq) (rNeD K) := h ▸ op_neD hu
end
end G

/-! plain data: what a value stands for, at any depth -/
namespace G
open PySem PySem.Spec PyProof.Rows L2
inductive Dt where
  | non | bl (b : Bool) | int (i : Int) | str (s : Str) | lst (l : List Dt) | tup (l : List Dt)
def LsAt (H : Hp) (a : Addr) (xs : List V) : Prop := H a = some (.lst xs) ∨ ∃ o, H a = some (.frz o (.lst xs))
mutual
def Is (H : Hp) : V → Dt → Prop
  | v, .non => v = .non
  | v, .bl b => v = .bl b
  | v, .int i => v = .int i
  | v, .str s => v = .str s
  | v, .lst l => ∃ a xs, v = .ref a ∧ LsAt H a xs ∧ IsL H xs l
  | v, .tup l => ∃ a xs, v = .ref a ∧ H a = some (.tup xs) ∧ IsL H xs l
def IsL (H : Hp) : List V → List Dt → Prop
  | [], [] => True
  | x :: xs, d :: ds => Is H x d ∧ IsL H xs ds
  | [], _ :: _ => False
  | _ :: _, [] => False
end
mutual
def Dt.size : Dt → Nat
  | .non => 1
  | .bl _ => 1
  | .int _ => 1
  | .str _ => 1
  | .lst l => 1 + sizeL l
  | .tup l => 1 + sizeL l
def sizeL : List Dt → Nat
  | [] => 0
  | d :: ds => d.size + sizeL ds
end
theorem LsAt.mono {H H' : Hp} {a : Addr} {xs : List V} (s : Same H H') (h : LsAt H a xs) : LsAt H' a xs := h.imp (s _ _) fun ⟨o, e⟩ => ⟨o, s _ _ e⟩
theorem LsAt.sq {K : PySem.W.Frag} {H : Hp} {a : Addr} {xs : List V} (h : LsAt H a xs) : SqL K H a xs := .inl h
mutual
theorem Is.mono {H H' : Hp} (s : Same H H') : ∀ {v : V} {d : Dt}, Is H v d → Is H' v d
  | v, .non, h => by unfold Is at h ⊢; exact h
  | v, .bl b, h => by unfold Is at h ⊢; exact h
  | v, .int i, h => by unfold Is at h ⊢; exact h
  | v, .str x, h => by unfold Is at h ⊢; exact h
  | v, .lst l, h => by
    unfold Is at h ⊢
    obtain ⟨a, xs, e, h1, h2⟩ := h
    exact ⟨a, xs, e, h1.mono s, IsL.mono s h2⟩
  | v, .tup l, h => by
    unfold Is at h ⊢
    obtain ⟨a, xs, e, h1, h2⟩ := h
    exact ⟨a, xs, e, s _ _ h1, IsL.mono s h2⟩
theorem IsL.mono {H H' : Hp} (s : Same H H') : ∀ {xs : List V} {ds : List Dt}, IsL H xs ds → IsL H' xs ds
  | [], [], h => by unfold IsL; trivial
  | x :: xs, d :: ds, h => by
    unfold IsL at h ⊢
    exact ⟨Is.mono s h.1, IsL.mono s h.2⟩
  | [], _ :: _, h => by unfold IsL at h; exact h.elim
  | _ :: _, [], h => by unfold IsL at h; exact h.elim
end
theorem IsL.length {H : Hp} : ∀ {xs : List V} {ds : List Dt}, IsL H xs ds → xs.length = ds.length
  | [], [], _ => rfl
  | x :: xs, d :: ds, h => by
    unfold IsL at h
    rw [List.length_cons, List.length_cons, IsL.length h.2]
  | [], _ :: _, h => by unfold IsL at h; exact h.elim
  | _ :: _, [], h => by unfold IsL at h; exact h.elim
theorem IsL.get {H : Hp} : ∀ {xs : List V} {ds : List Dt} {i : Nat} {d : Dt}, IsL H xs ds → ds[i]? = some d → ∃ x, xs[i]? = some x ∧ Is H x d
  | x :: xs, d :: ds, 0, _, h, e => by
    unfold IsL at h
    cases e
    exact ⟨x, rfl, h.1⟩
  | x :: xs, d :: ds, i + 1, _, h, e => by
    unfold IsL at h
    exact IsL.get (i := i) h.2 (by simpa using e)
  | [], [], i, _, _, e => by simp at e
  | [], _ :: _, _, _, h, _ => by unfold IsL at h; exact h.elim
  | _ :: _, [], _, _, h, _ => by unfold IsL at h; exact h.elim
theorem isL_ints {H : Hp} : ∀ ns : List Int, IsL H (ns.map V.int) (ns.map Dt.int)
  | [] => by unfold IsL; trivial
  | n :: ns => by
    show IsL H (V.int n :: ns.map V.int) (Dt.int n :: ns.map Dt.int)
    unfold IsL
    exact ⟨by unfold Is; rfl, isL_ints ns⟩
theorem isL_map {α : Type} {H : Hp} {f : α → V} {g : α → Dt} (h : ∀ x, Is H (f x) (g x)) : ∀ l : List α, IsL H (l.map f) (l.map g)
  | [] => by unfold IsL; trivial
  | n :: ns => by
    show IsL H (f n :: ns.map f) (g n :: ns.map g)
    unfold IsL
    exact ⟨h n, isL_map h ns⟩
theorem is_ints {H : Hp} {a : Addr} {ns : List Int} (h : H a = some (.lst (ns.map V.int))) : Is H (.ref a) (.lst (ns.map Dt.int)) := by
  unfold Is; exact ⟨a, _, rfl, .inl h, isL_ints ns⟩
theorem is_int {H : Hp} (i : Int) : Is H (.int i) (.int i) := by unfold Is; rfl
theorem is_str {H : Hp} (s : Str) : Is H (.str s) (.str s) := by unfold Is; rfl
theorem is_bl {H : Hp} (b : Bool) : Is H (.bl b) (.bl b) := by unfold Is; rfl
theorem is_non {H : Hp} : Is H .non .non := by unfold Is; rfl
theorem sizeL_ints : ∀ ns : List Int, sizeL (ns.map Dt.int) = ns.length
  | [] => by simp [sizeL]
  | n :: ns => by
    show sizeL (Dt.int n :: ns.map Dt.int) = ns.length + 1
    unfold sizeL Dt.size
    rw [sizeL_ints ns]; omega
/-! ### the type of such a value -/
def Dt.ty : Dt → String
  | .non => "NoneType"
  | .bl _ => "bool"
  | .int _ => "int"
  | .str _ => "str"
  | .lst _ => "list"
  | .tup _ => "tuple"
theorem Is.ty {K : PySem.W.Frag} {H : Hp} {v : V} {d : Dt} (h : Is H v d) : TyX K H v (.type d.ty) := by
  cases d with
  | non => unfold Is at h; subst h; exact .base .non
  | bl b => unfold Is at h; subst h; exact .base (.bl b)
  | int i => unfold Is at h; subst h; exact .base (.int i)
  | str s => unfold Is at h; subst h; exact .base (.str s)
  | lst l =>
    unfold Is at h
    obtain ⟨a, xs, rfl, h1, _⟩ := h
    rcases h1 with h1 | ⟨o, h1⟩
    · exact .base (.lst h1)
    · exact .base (.frz h1)
  | tup l =>
    unfold Is at h
    obtain ⟨a, xs, rfl, h1, _⟩ := h
    exact .base (.tup h1)
def kb (a b : String) : Bool := (kitB a b).getD false
theorem kit_dt {K : PySem.W.Frag} (d : Dt) (b : String) (hb : b = "list" ∨ b = "tuple" ∨ b = "int" ∨ b = "bool" ∨ b = "str") : PySem.W.kitOne K (.type d.ty) (.type b) = some (kb d.ty b) := by
  refine kit_ty ?_
  rcases hb with rfl | rfl | rfl | rfl | rfl <;> cases d <;> simp only [Dt.ty] <;> decide +kernel
theorem any2 {K : PySem.W.Frag} {t c1 c2 : Value} {b1 b2 : Bool} (h1 : PySem.W.kitOne K t c1 = some b1) (h2 : PySem.W.kitOne K t c2 = some b2) : PySem.W.kitAny K t [c1, c2] = some (b1 || b2) := by
  unfold PySem.W.kitAny
  rw [h1]
  cases b1 with
  | true => rfl
  | false =>
    dsimp only
    unfold PySem.W.kitAny
    rw [h2]
    cases b2 <;> first | rfl | (dsimp only; unfold PySem.W.kitAny; rfl)
def isSeq (s : String) : Bool := s == "list" || s == "tuple"
section
variable {K : PySem.W.Frag} {σ : L2.St} {H : Hp} {i : Nat} {v : V} {d : Dt} {Q : VK}
/-- isinstance(x, (list, tuple)) -/
theorem isi_seq (hv : σ[i]? = some (some v)) (h : Is H v d) (q : ∀ H', Same H H' → Q (.bl (isSeq d.ty)) H') :
    tCB (rIsiT K) (tCons (tVar i) (tCons (tTup (tCons (tC (.ty "list")) (tCons (tC (.ty "tuple")) tNil))) tNil)) σ H Q := by
  refine ⟨_, hv, by decide, fun p np => ?_⟩
  have s := same_new (o := .tup [V.ty "list", V.ty "tuple"]) np
  refine ⟨v, p, [.ty "list", .ty "tuple"], .type d.ty, [.type "list", .type "tuple"], isSeq d.ty, rfl, upd_same, .cons (.ty "list") (.cons (.ty "tuple") .nil), (h.mono s).ty, ?_, q _ s⟩
  have e : isSeq d.ty = (kb d.ty "list" || kb d.ty "tuple") := by cases d <;> simp only [Dt.ty] <;> decide +kernel
  rw [e]
  exact any2 (kit_dt d "list" (by simp)) (kit_dt d "tuple" (by simp))
/-- isinstance(x, T) -/
theorem isi_one {T : String} (hT : T = "list" ∨ T = "tuple" ∨ T = "int" ∨ T = "bool" ∨ T = "str") (hv : σ[i]? = some (some v)) (h : Is H v d) (q : Q (.bl (kb d.ty T)) H) :
    tCB (rIsi K) (tCons (tVar i) (tCons (tC (.ty T)) tNil)) σ H Q :=
  ⟨_, hv, v, .ty T, .type d.ty, .type T, kb d.ty T, rfl, .ty T, h.ty, kit_dt d T hT, q⟩
/-- isinstance(x, T), told by its answer -/
theorem isi_b {T : String} (b : Bool) (hT : T = "list" ∨ T = "tuple" ∨ T = "int" ∨ T = "bool" ∨ T = "str") (hb : kb d.ty T = b) (hv : σ[i]? = some (some v)) (h : Is H v d) (q : Q (.bl b) H) :
    tCB (rIsi K) (tCons (tVar i) (tCons (tC (.ty T)) tNil)) σ H Q := isi_one hT hv h (by rw [hb]; exact q)
theorem isi_v {T : String} (b : Bool) (hT : T = "list" ∨ T = "tuple" ∨ T = "int" ∨ T = "bool" ∨ T = "str") (hb : kb d.ty T = b) (h : Is H v d) (q : Q (.bl b) H) : rIsi K [v, .ty T] H Q :=
  ⟨v, .ty T, .type d.ty, .type T, kb d.ty T, rfl, .ty T, h.ty, kit_dt d T hT, by rw [hb]; exact q⟩
theorem isi_t {T : String} (b : Bool) (hT : T = "list" ∨ T = "tuple" ∨ T = "int" ∨ T = "bool" ∨ T = "str") (hb : kb d.ty T = b) (h : Is H v d) (q : Q (.bl b) H) :
    tCons (tC (.ty T)) tNil σ H fun xs H2 => rIsi K (v :: xs) H2 Q := isi_v b hT hb h q
end
end G

/-! sets of wires as natural numbers: rules of the bit operators, the number of bits, lists of bits -/
namespace G
open PySem PySem.Spec PyProof.Rows L2
section
variable {X : Cx}
theorem OpR.weak {f : Value → Value → Sem Value} {r r' : R2} (h : OpR X f r) (w : ∀ x y H Q, r' x y H Q → r x y H Q) : OpR X f r' := fun pins s σ H x y u v Q I rx ry q => h pins s σ H x y u v Q I rx ry (w x y H Q q)
def rN (g : Nat → Nat → Nat) : R2 := fun x y H Q => ∃ n m : Nat, x = .int (n : Int) ∧ y = .int (m : Int) ∧ Q (.int ((g n m : Nat) : Int)) H
def rNC (C : Nat → Nat → Prop) (g : Nat → Nat → Nat) : R2 := fun x y H Q => ∃ n m : Nat, x = .int (n : Int) ∧ y = .int (m : Int) ∧ C n m ∧ Q (.int ((g n m : Nat) : Int)) H
theorem op_andN : OpR X (binaryOp .BitAnd) (rN fun n m => n &&& m) := OpR.weak op_and fun x y H Q ⟨n, m, hx, hy, q⟩ => ⟨n, m, hx, hy, by dsimp only; rw [PyProof.Rows.bitAnd_pp (by omega) (by omega), Int.toNat_natCast, Int.toNat_natCast]; exact q⟩
theorem op_orN : OpR X (binaryOp .BitOr) (rN fun n m => n ||| m) := OpR.weak op_or fun x y H Q ⟨n, m, hx, hy, q⟩ => ⟨n, m, hx, hy, by dsimp only; rw [_root_.Bits.bitOr_pp (by omega) (by omega), Int.toNat_natCast, Int.toNat_natCast]; exact q⟩
theorem op_xorN : OpR X (binaryOp .BitXor) (rN fun n m => n ^^^ m) := OpR.weak op_xor fun x y H Q ⟨n, m, hx, hy, q⟩ => ⟨n, m, hx, hy, by dsimp only; rw [_root_.Bits.bitXor_pp (by omega) (by omega), Int.toNat_natCast, Int.toNat_natCast]; exact q⟩
theorem shr_int (n k : Nat) : ((n : Int) / 2 ^ k) = ((n >>> k : Nat) : Int) := by rw [Nat.shiftRight_eq_div_pow, Int.natCast_ediv]; simp
theorem shl_int (n k : Nat) : ((n : Int) * 2 ^ k) = ((n <<< k : Nat) : Int) := by rw [Nat.shiftLeft_eq, Int.natCast_mul]; simp
theorem op_shrM : OpR X (binaryOp .RShift) (rN fun n k => n >>> k) := OpR.weak op_shr fun x y H Q ⟨n, m, hx, hy, q⟩ => ⟨n, m, hx, hy, by omega, by dsimp only; rw [Int.toNat_natCast, shr_int]; exact q⟩
theorem op_shlM : OpR X (binaryOp .LShift) (rNC (fun n k => k ≤ 1000000 ∧ n < 2 ^ 64) fun n k => n <<< k) := OpR.weak op_shl fun x y H Q ⟨n, m, hx, hy, ⟨h1, h2⟩, q⟩ => ⟨n, m, hx, hy, ⟨by omega, by omega, by simpa using h2⟩, by dsimp only; rw [Int.toNat_natCast, shl_int]; exact q⟩
end
/-- the truth of mask >> wire & 1 -/
theorem bit_true (m w : Nat) : ((((m >>> w &&& 1 : Nat)) : Int) != 0) = m.testBit w := by
  unfold Nat.testBit
  rw [Nat.and_comm]
  rcases (by have := Nat.and_le_left (n := 1) (m := m >>> w); omega : (1 &&& m >>> w) = 0 ∨ (1 &&& m >>> w) = 1) with h | h <;> rw [h] <;> decide
theorem bit_val (m w : Nat) : (m >>> w &&& 1) = if m.testBit w then 1 else 0 := by
  unfold Nat.testBit
  rw [Nat.and_comm]
  rcases (by have := Nat.and_le_left (n := 1) (m := m >>> w); omega : (1 &&& m >>> w) = 0 ∨ (1 &&& m >>> w) = 1) with h | h <;> rw [h] <;> decide
theorem bit_one (m i : Nat) : decide (V.int ((m >>> i &&& 1 : Nat) : Int) = V.int 1) = m.testBit i := by
  rw [bit_val]
  cases m.testBit i <;> decide
/-- the number of bits -/
def popc (m : Nat) : Nat := if h : m = 0 then 0 else m % 2 + popc (m / 2)
termination_by m
decreasing_by omega
theorem popc_zero : popc 0 = 0 := by rw [popc]; rfl
theorem popc_double (q : Nat) : popc (2 * q) = popc q := by
  rw [popc]
  split
  · rw [show q = 0 by omega, popc_zero]
  · rw [show 2 * q % 2 = 0 by omega, show 2 * q / 2 = q by omega, Nat.zero_add]
theorem popc_bit (q : Nat) : popc (2 * q + 1) = popc q + 1 := by
  rw [popc, dif_neg (by omega), show (2 * q + 1) % 2 = 1 by omega, show (2 * q + 1) / 2 = q by omega, Nat.add_comm]
theorem popc_low : ∀ m : Nat, m ≠ 0 → popc (m &&& (m - 1)) + 1 = popc m := by
  intro m
  induction m using Nat.strongRecOn with
  | _ m ih =>
    intro h
    obtain ⟨q, e | e⟩ : ∃ q, m = 2 * q ∨ m = 2 * q + 1 := ⟨m / 2, by omega⟩
    · have hq : q ≠ 0 := by omega
      have e2 : m &&& (m - 1) = 2 * (q &&& (q - 1)) := by
        apply Nat.eq_of_testBit_eq
        intro i
        cases i with
        | zero => rw [Nat.testBit_and, Nat.testBit_zero, Nat.testBit_zero, Nat.testBit_zero]; simp; omega
        | succ i => rw [Nat.testBit_and, Nat.testBit_succ, Nat.testBit_succ, Nat.testBit_succ, show m / 2 = q by omega, show (m - 1) / 2 = q - 1 by omega, show 2 * (q &&& (q - 1)) / 2 = q &&& (q - 1) by omega, Nat.testBit_and]
      rw [e2, popc_double, ih q (by omega) hq, e, popc_double]
    · have e2 : m &&& (m - 1) = 2 * q := by
        apply Nat.eq_of_testBit_eq
        intro i
        cases i with
        | zero => rw [Nat.testBit_and, Nat.testBit_zero, Nat.testBit_zero, Nat.testBit_zero]; simp; omega
        | succ i => rw [Nat.testBit_and, Nat.testBit_succ, Nat.testBit_succ, Nat.testBit_succ, show m / 2 = q by omega, show (m - 1) / 2 = q by omega, show 2 * q / 2 = q by omega]; simp
      rw [e2, popc_double, e, popc_bit]
/-- the bits below n, ascending -/
def bitsL (n m : Nat) : List Nat := (List.range n).filter fun i => m.testBit i
theorem bitsL_len : ∀ (n m : Nat), m < 2 ^ n → (bitsL n m).length = popc m
  | 0, m, h => by
    have : m = 0 := by simpa using h
    subst this; rw [popc_zero]; rfl
  | n + 1, m, h => by
    unfold bitsL
    have ih := bitsL_len n (m / 2) (by rw [Nat.pow_succ] at h; omega)
    unfold bitsL at ih
    rw [List.range_succ_eq_map, List.filter_cons, List.filter_map]
    have e : ((fun i => m.testBit i) ∘ Nat.succ) = fun i => (m / 2).testBit i := by funext i; show m.testBit (i + 1) = _; rw [Nat.testBit_succ]
    rw [e]
    split
    · rename_i h0
      rw [List.length_cons, List.length_map, ih]
      have h1 : m % 2 = 1 := by simpa [Nat.testBit_zero] using h0
      have h2 := popc_bit (m / 2)
      rw [show 2 * (m / 2) + 1 = m by omega] at h2
      omega
    · rename_i h0
      rw [List.length_map, ih]
      have h1 : m % 2 = 0 := by
        have : ¬ m % 2 = 1 := by simpa [Nat.testBit_zero] using h0
        omega
      have h2 := popc_double (m / 2)
      rw [show 2 * (m / 2) = m by omega] at h2
      omega
end G
namespace G
open PySem PySem.Spec PyProof.Rows L2
theorem bitsL_yes {i m : Nat} (h : m.testBit i = true) : bitsL (i + 1) m = bitsL i m ++ [i] := by
  unfold bitsL
  rw [List.range_succ, List.filter_append]
  simp [h]
theorem bitsL_no {i m : Nat} (h : m.testBit i = false) : bitsL (i + 1) m = bitsL i m := by
  unfold bitsL
  rw [List.range_succ, List.filter_append]
  simp [h]
theorem bitsL_len_le (n m : Nat) : (bitsL n m).length ≤ n := by
  unfold bitsL
  exact Nat.le_trans (List.length_filter_le _ _) (by rw [List.length_range]; exact Nat.le_refl n)
theorem bitsL_grow {n m : Nat} (h : m < 2 ^ n) : ∀ j, bitsL (n + j) m = bitsL n m
  | 0 => rfl
  | j + 1 => by
    rw [← Nat.add_assoc, bitsL_no, bitsL_grow h j]
    exact Nat.testBit_lt_two_pow (Nat.lt_of_lt_of_le h (Nat.pow_le_pow_right (by decide) (by omega)))
theorem mem_bitsL {n m i : Nat} : i ∈ bitsL n m ↔ i < n ∧ m.testBit i = true := by unfold bitsL; rw [List.mem_filter, List.mem_range]
/-- bit_length -/
def bl (m : Nat) : Nat := Builtin.Int.intBits (m : Int)
theorem lt_bl (m : Nat) : m < 2 ^ bl m := by
  unfold bl Builtin.Int.intBits
  simp only [Int.natAbs_natCast]
  split
  · rename_i h; simp at h; subst h; decide
  · exact Nat.lt_log2_self
theorem bl_le {m n : Nat} (h : m < 2 ^ n) : bl m ≤ n := by unfold bl; exact intBits_le (by rw [Int.natAbs_natCast]; exact h)
/-- the wires of a set, ascending -/
def wl (m : Nat) : List Nat := bitsL (bl m) m
theorem wl_of {m n : Nat} (h : m < 2 ^ n) : bitsL n m = wl m := by
  have h1 := bl_le h
  obtain ⟨j, rfl⟩ : ∃ j, n = bl m + j := ⟨n - bl m, by omega⟩
  exact bitsL_grow (lt_bl m) j
theorem wl_len (m : Nat) : (wl m).length = popc m := bitsL_len _ _ (lt_bl m)
theorem mem_wl {m i : Nat} : i ∈ wl m ↔ m.testBit i = true := by
  unfold wl
  rw [mem_bitsL]
  refine ⟨fun h => h.2, fun h => ⟨?_, h⟩⟩
  by_cases c : i < bl m
  · exact c
  · rw [Nat.testBit_lt_two_pow (Nat.lt_of_lt_of_le (lt_bl m) (Nat.pow_le_pow_right (by decide) (by omega)))] at h
    cases h
/-- ints of naturals -/
def nv (l : List Nat) : List V := l.map fun n : Nat => V.int n
def nz (l : List Nat) : List Int := l.map fun n : Nat => (n : Int)
theorem nv_nz (l : List Nat) : nv l = (nz l).map V.int := by unfold nv nz; rw [List.map_map]; rfl
theorem nv_len (l : List Nat) : (nv l).length = l.length := List.length_map _
theorem nv_get {l : List Nat} {i n : Nat} (h : l[i]? = some n) : (nv l)[i]? = some (.int n) := by unfold nv; rw [List.getElem?_map, h]; rfl
theorem nv_at {l : List Nat} {i : Nat} {x : V} (h : (nv l)[i]? = some x) : ∃ n, l[i]? = some n ∧ x = .int n := by
  unfold nv at h
  rw [List.getElem?_map] at h
  cases e : l[i]? with
  | none => rw [e] at h; cases h
  | some z => rw [e] at h; exact ⟨z, rfl, (Option.some.inj h).symm⟩
theorem nv_app (a b : List Nat) : nv (a ++ b) = nv a ++ nv b := List.map_append
def nd (l : List Nat) : List Dt := l.map fun n : Nat => Dt.int n
theorem nd_nz (l : List Nat) : nd l = (nz l).map Dt.int := by unfold nd nz; rw [List.map_map]; rfl
theorem is_nv {H : Hp} {a : Addr} {l : List Nat} (h : H a = some (.lst (nv l))) : Is H (.ref a) (.lst (nd l)) := by
  rw [nv_nz] at h
  rw [nd_nz]
  exact is_ints h
theorem size_nd (l : List Nat) : (Dt.lst (nd l)).size = 1 + l.length := by
  rw [nd_nz]
  unfold Dt.size
  rw [sizeL_ints]
  simp [nz]
/-- the set of the listed wires -/
def maskL (l : List Nat) : Nat := l.foldl (fun m w => m ||| 1 <<< w) 0
theorem maskL_snoc (l : List Nat) (w : Nat) : maskL (l ++ [w]) = maskL l ||| 1 <<< w := by unfold maskL; rw [List.foldl_append]; rfl
end G

/-! sets of wires: lists of bits and back, numbers of bits, gathered and scattered bits -/
namespace G
theorem tb_shl (w j : Nat) : (1 <<< w).testBit j = decide (w = j) := by
  rw [Nat.one_shiftLeft, Nat.testBit_two_pow]
theorem lt_shl {w b : Nat} (h : w < b) : 1 <<< w < 2 ^ b := by
  rw [Nat.one_shiftLeft]; exact Nat.pow_lt_pow_right (by decide) h
theorem add_or {b i : Nat} (h : b < 2 ^ i) : b + 1 <<< i = b ||| 1 <<< i := by
  rw [Nat.one_shiftLeft, Nat.add_comm, Nat.or_comm]
  have := Nat.two_pow_add_eq_or_of_lt h 1
  rw [Nat.mul_one] at this
  exact this
theorem foldl_tb (l : List Nat) : ∀ (m j : Nat), (l.foldl (fun m w => m ||| 1 <<< w) m).testBit j = (m.testBit j || decide (j ∈ l)) := by
  induction l with
  | nil => intro m j; simp
  | cons w l ih =>
    intro m j
    rw [List.foldl_cons, ih, Nat.testBit_or, tb_shl]
    by_cases h : w = j
    · subst h; simp
    · have h2 : ¬ j = w := fun z => h z.symm
      simp [h, h2, List.mem_cons]
theorem tb_maskL (l : List Nat) (j : Nat) : (maskL l).testBit j = decide (j ∈ l) := by
  unfold maskL; rw [foldl_tb]; simp
theorem tb_maskL_iff {l : List Nat} {j : Nat} : (maskL l).testBit j = true ↔ j ∈ l := by rw [tb_maskL]; simp
theorem maskL_lt {l : List Nat} {b : Nat} (h : ∀ w ∈ l, w < b) : maskL l < 2 ^ b := by
  refine Nat.lt_pow_two_of_testBit _ fun i hi => ?_
  rw [tb_maskL]
  refine decide_eq_false fun hm => ?_
  have := h i hm
  omega
/-! ### ascending lists -/
def Asc (l : List Nat) : Prop := l.Pairwise (· < ·)
theorem asc_bitsL (n m : Nat) : Asc (bitsL n m) := by
  unfold Asc bitsL
  exact List.Pairwise.filter _ (List.pairwise_lt_range)
theorem asc_wl (m : Nat) : Asc (wl m) := asc_bitsL _ _
theorem asc_ext : ∀ {a b : List Nat}, Asc a → Asc b → (∀ x, x ∈ a ↔ x ∈ b) → a = b
  | [], [], _, _, _ => rfl
  | [], y :: b, _, _, h => by have := (h y).mpr (by simp); simp at this
  | x :: a, [], _, _, h => by have := (h x).mp (by simp); simp at this
  | x :: a, y :: b, ha, hb, h => by
    unfold Asc at ha hb
    rw [List.pairwise_cons] at ha hb
    have e : x = y := by
      have h1 := (h x).mp (by simp)
      have h2 := (h y).mpr (by simp)
      rw [List.mem_cons] at h1 h2
      rcases h1 with h1 | h1
      · exact h1
      · rcases h2 with h2 | h2
        · exact h2.symm
        · have := ha.1 y h2
          have := hb.1 x h1
          omega
    subst e
    rw [asc_ext ha.2 hb.2]
    intro z
    have hz := h z
    rw [List.mem_cons, List.mem_cons] at hz
    constructor
    · intro m
      rcases hz.mp (.inr m) with e | e
      · subst e; have := ha.1 z m; omega
      · exact e
    · intro m
      rcases hz.mpr (.inr m) with e | e
      · subst e; have := hb.1 z m; omega
      · exact e
theorem wl_maskL {l : List Nat} (h : Asc l) : wl (maskL l) = l := asc_ext (asc_wl _) h fun x => by rw [mem_wl, tb_maskL_iff]
theorem maskL_wl (m : Nat) : maskL (wl m) = m := by
  apply Nat.eq_of_testBit_eq
  intro i
  rw [tb_maskL]
  have := @mem_wl m i
  cases h : m.testBit i
  · exact decide_eq_false fun z => by rw [mem_wl, h] at z; cases z
  · exact decide_eq_true (mem_wl.mpr h)
theorem asc_at {l : List Nat} (h : Asc l) {i j x y : Nat} (hi : l[i]? = some x) (hj : l[j]? = some y) (hij : i < j) : x < y := by
  obtain ⟨h1, rfl⟩ := List.getElem?_eq_some_iff.mp hi
  obtain ⟨h2, rfl⟩ := List.getElem?_eq_some_iff.mp hj
  exact List.pairwise_iff_getElem.mp h i j h1 h2 hij
theorem asc_take {l : List Nat} (h : Asc l) {i x : Nat} (hi : l[i]? = some x) : ∀ w ∈ l.take i, w < x := by
  intro w hw
  obtain ⟨j, hj⟩ := List.getElem?_of_mem hw
  rw [List.getElem?_take] at hj
  split at hj
  · rename_i c; exact asc_at h hj hi c
  · cases hj
theorem asc_inj {l : List Nat} (h : Asc l) {i j x : Nat} (hi : l[i]? = some x) (hj : l[j]? = some x) : i = j := by
  by_cases c : i = j
  · exact c
  · rcases Nat.lt_or_gt_of_ne c with c | c
    · have := asc_at h hi hj c; omega
    · have := asc_at h hj hi c; omega
theorem asc_snoc {l : List Nat} {p : Nat} (h : Asc l) (hp : ∀ w ∈ l, w < p) : Asc (l ++ [p]) := by
  unfold Asc
  rw [List.pairwise_append]
  refine ⟨h, by simp, fun a ha b hb => ?_⟩
  rw [List.mem_singleton] at hb; subst hb
  exact hp a ha
/-! ### gathered and scattered bits -/
def gatF (m : Nat) (l : List Nat) : Nat := (l.zipIdx).foldl (fun f q => if m.testBit q.1 then f ||| 1 <<< q.2 else f) 0
theorem gatF_snoc (m : Nat) (l : List Nat) (p : Nat) : gatF m (l ++ [p]) = if m.testBit p then gatF m l ||| 1 <<< l.length else gatF m l := by
  unfold gatF
  rw [List.zipIdx_append, List.foldl_append]
  simp
def scaF (m : Nat) (l : List Nat) : Nat := (l.zipIdx).foldl (fun f q => if m.testBit q.2 then f ||| 1 <<< q.1 else f) 0
theorem scaF_snoc (m : Nat) (l : List Nat) (p : Nat) : scaF m (l ++ [p]) = if m.testBit l.length then scaF m l ||| 1 <<< p else scaF m l := by
  unfold scaF
  rw [List.zipIdx_append, List.foldl_append]
  simp
theorem snocInd {P : List Nat → Prop} (h0 : P []) (h1 : ∀ l p, P l → P (l ++ [p])) : ∀ l, P l := by
  have : ∀ n, ∀ l : List Nat, l.length = n → P l := by
    intro n
    induction n with
    | zero => intro l hl; rw [List.length_eq_zero_iff.mp hl]; exact h0
    | succ n ih =>
      intro l hl
      have hne : l ≠ [] := fun z => by subst z; simp at hl
      rw [← List.dropLast_concat_getLast hne]
      exact h1 _ _ (ih _ (by rw [List.length_dropLast]; omega))
  exact fun l => this _ l rfl
theorem tb_gatF (m : Nat) : ∀ (l : List Nat) (j : Nat), (gatF m l).testBit j = match l[j]? with | some p => m.testBit p | none => false := by
  refine snocInd (fun j => by simp [gatF]) fun l p ih j => ?_
  rw [gatF_snoc]
  by_cases h : j < l.length
  · rw [List.getElem?_append_left h, ← ih]
    split
    · rw [Nat.testBit_or, tb_shl, decide_eq_false (by omega), Bool.or_false]
    · rfl
  · have hn : l[j]? = none := List.getElem?_eq_none (by omega)
    have ihj := ih j
    rw [hn] at ihj
    dsimp only at ihj
    by_cases h2 : j = l.length
    · subst h2
      rw [List.getElem?_concat_length]
      dsimp only
      split
      · rename_i e; rw [Nat.testBit_or, tb_shl]; simp [e]
      · rename_i e; rw [ihj]; simpa using e
    · rw [List.getElem?_eq_none (by simp; omega)]
      dsimp only
      split
      · rw [Nat.testBit_or, tb_shl, ihj, decide_eq_false (by omega)]; rfl
      · exact ihj
theorem gatF_lt (m : Nat) (l : List Nat) : gatF m l < 2 ^ l.length := by
  refine Nat.lt_pow_two_of_testBit _ fun i hi => ?_
  rw [tb_gatF, List.getElem?_eq_none (by omega)]
theorem scaF_lt (m : Nat) {b : Nat} : ∀ (l : List Nat), (∀ w ∈ l, w < b) → scaF m l < 2 ^ b := by
  refine snocInd (fun _ => by simp [scaF]; exact Nat.two_pow_pos b) fun l p ih h => ?_
  rw [scaF_snoc]
  have h1 := ih fun w hw => h w (by simp [hw])
  split
  · exact Nat.or_lt_two_pow h1 (lt_shl (h p (by simp)))
  · exact h1
theorem tb_scaF (m : Nat) : ∀ (l : List Nat) (j : Nat), (scaF m l).testBit j = true ↔ ∃ i, l[i]? = some j ∧ m.testBit i = true := by
  refine snocInd (fun j => by simp [scaF]) fun l p ih j => ?_
  rw [scaF_snoc]
  constructor
  · intro h
    have h2 : (scaF m l).testBit j = true ∨ (m.testBit l.length = true ∧ p = j) := by
      split at h
      · rename_i e
        rw [Nat.testBit_or, tb_shl, Bool.or_eq_true, decide_eq_true_eq] at h
        rcases h with h | h
        · exact .inl h
        · exact .inr ⟨e, h⟩
      · exact .inl h
    rcases h2 with h2 | ⟨e, rfl⟩
    · obtain ⟨i, h3, h4⟩ := (ih j).mp h2
      have := (List.getElem?_eq_some_iff.mp h3).1
      exact ⟨i, by rw [List.getElem?_append_left this]; exact h3, h4⟩
    · exact ⟨l.length, List.getElem?_concat_length, e⟩
  · rintro ⟨i, h1, h2⟩
    by_cases c : i < l.length
    · rw [List.getElem?_append_left c] at h1
      have := (ih j).mpr ⟨i, h1, h2⟩
      split
      · rw [Nat.testBit_or, this]; rfl
      · exact this
    · have hi := (List.getElem?_eq_some_iff.mp h1).1
      rw [List.length_append] at hi
      have : i = l.length := by simp at hi; omega
      subst this
      rw [List.getElem?_concat_length] at h1
      cases h1
      rw [if_pos h2, Nat.testBit_or, tb_shl]; simp
theorem gat_sca {l : List Nat} (h : Asc l) (n : Nat) : gatF (scaF n l) l = n &&& (1 <<< l.length - 1) := by
  apply Nat.eq_of_testBit_eq
  intro j
  rw [tb_gatF, Nat.testBit_and, Nat.one_shiftLeft, Nat.testBit_two_pow_sub_one]
  by_cases c : j < l.length
  · rw [List.getElem?_eq_getElem c]
    dsimp only
    rw [decide_eq_true c, Bool.and_true]
    cases e : n.testBit j
    · cases e2 : (scaF n l).testBit l[j] with
      | false => rfl
      | true =>
        obtain ⟨i, h1, h2⟩ := (tb_scaF n l _).mp e2
        have := asc_inj h h1 (List.getElem?_eq_getElem c)
        subst this
        rw [e] at h2; cases h2
    · exact (tb_scaF n l _).mpr ⟨j, List.getElem?_eq_getElem c, e⟩
  · rw [List.getElem?_eq_none (by omega), decide_eq_false c, Bool.and_false]
theorem sca_gat (l : List Nat) (m : Nat) : scaF (gatF m l) l = m &&& maskL l := by
  apply Nat.eq_of_testBit_eq
  intro j
  rw [Nat.testBit_and, tb_maskL]
  cases e : (scaF (gatF m l) l).testBit j with
  | true =>
    obtain ⟨i, h1, h2⟩ := (tb_scaF _ l _).mp e
    rw [tb_gatF, h1] at h2
    dsimp only at h2
    rw [h2, decide_eq_true (List.mem_of_getElem? h1)]; rfl
  | false =>
    cases e2 : m.testBit j with
    | false => rfl
    | true =>
      by_cases c : j ∈ l
      · obtain ⟨i, hi⟩ := List.getElem?_of_mem c
        have : (scaF (gatF m l) l).testBit j = true := (tb_scaF _ l _).mpr ⟨i, hi, by rw [tb_gatF, hi]; exact e2⟩
        rw [e] at this; cases this
      · rw [decide_eq_false c]; rfl
/-! ### numbers of bits -/
theorem popc_maskL {l : List Nat} (h : Asc l) : popc (maskL l) = l.length := by rw [← wl_len, wl_maskL h]
theorem asc_sub : ∀ {a b : List Nat}, Asc a → Asc b → (∀ x ∈ a, x ∈ b) → a.length ≤ b.length
  | [], _, _, _, _ => Nat.zero_le _
  | x :: a, [], _, _, h => by have := h x (by simp); simp at this
  | x :: a, y :: b, ha, hb, h => by
    unfold Asc at ha hb
    rw [List.pairwise_cons] at ha hb
    rw [List.length_cons, List.length_cons]
    refine Nat.succ_le_succ (asc_sub ha.2 hb.2 fun z hz => ?_)
    have h1 := h z (by simp [hz])
    rw [List.mem_cons] at h1
    rcases h1 with rfl | h1
    · have h2 := h x (by simp)
      have h3 := ha.1 z hz
      rw [List.mem_cons] at h2
      rcases h2 with rfl | h2
      · omega
      · have := hb.1 x h2; omega
    · exact h1
theorem popc_sub {m n : Nat} (h : ∀ i, m.testBit i = true → n.testBit i = true) : popc m ≤ popc n := by
  rw [← wl_len, ← wl_len]
  exact asc_sub (asc_wl m) (asc_wl n) fun x hx => mem_wl.mpr (h x (mem_wl.mp hx))
theorem popc_or (m n : Nat) : popc m ≤ popc (m ||| n) := popc_sub fun i h => by rw [Nat.testBit_or, h]; rfl
end G

/-! ranges with a step, comparisons of lists of ints, the pool among other objects -/
namespace G
open PySem PySem.Spec PyProof.Rows L2
theorem rs_up {w c : Nat} (hc : 0 < c) : Builtin.Range.rangeSize 0 (w : Int) (c : Int) = (((w + c - 1) / c : Nat) : Int) := by
  unfold Builtin.Range.rangeSize
  rw [if_pos (by omega)]
  split
  · rename_i h
    have h1 : ((w : Int) - 0 - 1) = ((w - 1 : Nat) : Int) := by omega
    rw [h1, ← Int.natCast_ediv]
    have h2 : (w + c - 1) / c = (w - 1) / c + 1 := by
      rw [show w + c - 1 = (w - 1) + c by omega, Nat.add_div_right _ hc]
    rw [h2]; simp
  · rename_i h
    have : w = 0 := by omega
    subst this
    rw [Nat.div_eq_of_lt (by omega)]; rfl
theorem rg_up {w c : Nat} (hc : 0 < c) (hc2 : c < 1000) (hw : w ≤ 1000000) : RgC 0 (w : Int) (c : Int) ((w + c - 1) / c) := by
  have hd : (w + c - 1) / c ≤ w + c - 1 := Nat.div_le_self _ _
  refine ⟨by omega, by omega, ?_, rs_up hc⟩
  unfold Builtin.Range.small
  rw [rs_up hc]
  simp only [Builtin.Range.rangeFitsLong, Bool.and_eq_true, Bool.or_eq_true, decide_eq_true_eq, beq_iff_eq]
  rw [if_pos (by omega)]
  generalize (w + c - 1) / c = n at *
  simp only [decide_eq_true_eq, Bool.and_eq_true]
  omega
/-! ### == of lists of ints -/
def pyInts (ns : List Int) : List PyData := ns.map PyData.int
theorem dp_ints {K : PySem.W.Frag} {H : Hp} : ∀ ns : List Int, DpAll K H (ns.map V.int) (pyInts ns)
  | [] => .nil
  | n :: ns => .cons (.int n) (dp_ints ns)
theorem can_ints : ∀ ns : List Int, PyData.canLayAll0 (pyInts ns) = true
  | [] => by unfold pyInts PyData.canLayAll0; rfl
  | n :: ns => by
    show PyData.canLayAll0 (PyData.int n :: pyInts ns) = true
    unfold PyData.canLayAll0 PyData.canLay0
    rw [can_ints ns]; rfl
theorem depth_ints : ∀ ns : List Int, PyData.depthAll (pyInts ns) = 0
  | [] => by show PyData.depthAll [] = 0; unfold PyData.depthAll; rfl
  | n :: ns => by
    show PyData.depthAll (PyData.int n :: pyInts ns) = 0
    unfold PyData.depthAll PyData.depth
    rw [depth_ints ns]; rfl
theorem shaped_ints (ns : List Int) : SeqAt.shaped (.list (pyInts ns)) = true := by
  unfold SeqAt.shaped
  rw [Bool.and_eq_true]
  refine ⟨by unfold PyData.canLay0; exact can_ints ns, decide_eq_true ?_⟩
  unfold PyData.depth
  rw [depth_ints]; omega
/-- xs == ys, xs != ys of two lists of the same ints -/
theorem eq_ints {K : PySem.W.Frag} {H : Hp} {a b : Addr} {ns : List Int} {Q : VK} (ha : SqL K H a (ns.map V.int)) (hb : SqL K H b (ns.map V.int)) (q : Q (.bl true) H) : rEqD K (.ref a) (.ref b) H Q :=
  ⟨_, _, .lst ha (dp_ints ns), .lst hb (dp_ints ns), shaped_ints ns, shaped_ints ns, by rw [SeqAt.eqv_refl _ (SeqAt.canLay_of_shaped (shaped_ints ns))]; exact q⟩
theorem ne_ints {K : PySem.W.Frag} {H : Hp} {a b : Addr} {ns : List Int} {Q : VK} (ha : SqL K H a (ns.map V.int)) (hb : SqL K H b (ns.map V.int)) (q : Q (.bl false) H) : rNeD K (.ref a) (.ref b) H Q :=
  ⟨_, _, .lst ha (dp_ints ns), .lst hb (dp_ints ns), shaped_ints ns, shaped_ints ns, by rw [SeqAt.eqv_refl _ (SeqAt.canLay_of_shaped (shaped_ints ns))]; exact q⟩
end G
namespace G
open PySem PySem.Spec PyProof.Rows L2
/-! ### from H to H': all that was tracked stands, but the pool at p, which is a list of ints still -/
structure Pl (p : Addr) (H H' : Hp) : Prop where
  sb : Sb p H H'
  at_ : PoolAt H' p
theorem Pl.refl {p : Addr} {H : Hp} (h : PoolAt H p) : Pl p H H := ⟨Sb.refl _ _, h⟩
theorem Pl.trans {p : Addr} {H H1 H2 : Hp} (a : Pl p H H1) (b : Pl p H1 H2) : Pl p H H2 := ⟨a.sb.trans b.sb, b.at_⟩
theorem Pl.draw {p : Addr} {H H1 : Hp} (a : Pl p H H1) (ns : List Int) : Pl p H (upd H1 p (.lst (ns.map V.int))) := ⟨a.sb.upd, ns, upd_same⟩
theorem Pl.same {p : Addr} {H H1 H2 : Hp} (a : Pl p H H1) (s : Same H1 H2) : Pl p H H2 := ⟨a.sb.trans (Sb.of s), let ⟨ns, e⟩ := a.at_; ⟨ns, s _ _ e⟩⟩
theorem Pl.new {p a : Addr} {H H1 : Hp} {o : HO} (x : Pl p H H1) (h : H1 a = none) : Pl p H (upd H1 a o) := x.same (same_new h)
theorem PoolAt.ne {H : Hp} {p a : Addr} (h : PoolAt H p) (ha : H a = none) : a ≠ p := fun z => by obtain ⟨ns, e⟩ := h; subst z; rw [ha] at e; cases e
theorem Pl.mut {p a : Addr} {H H1 : Hp} {o : HO} (x : Pl p H H1) (h : H a = none) (hp : a ≠ p) : Pl p H (upd H1 a o) := by
  refine ⟨fun b u hb e => ?_, ?_⟩
  · rw [upd_ne (ne_of_none e h)]; exact x.sb b u hb e
  · obtain ⟨ns, e⟩ := x.at_
    exact ⟨ns, by rw [upd_ne (Ne.symm hp)]; exact e⟩
theorem Pl.get {p a : Addr} {H H1 : Hp} {o : HO} (x : Pl p H H1) (hp : a ≠ p) (h : H a = some o) : H1 a = some o := x.sb a o hp h
theorem Pl.none {p a : Addr} {H H1 : Hp} (x : Pl p H H1) (h0 : PoolAt H p) (h : H1 a = Option.none) : H a = Option.none := by
  cases e : H a with
  | none => rfl
  | some o =>
    by_cases hp : a = p
    · subst hp
      obtain ⟨ns, e'⟩ := x.at_
      rw [h] at e'; cases e'
    · rw [x.sb a o hp e] at h; cases h
theorem nat_ex {r : Int} (h : 0 ≤ r) : ∃ n : Nat, r = n := ⟨r.toNat, by omega⟩
theorem eq_nats {K : PySem.W.Frag} {H : Hp} {a b : Addr} {l : List Nat} {Q : VK} (ha : SqL K H a (nv l)) (hb : SqL K H b (nv l)) (q : Q (.bl true) H) : rEqD K (.ref a) (.ref b) H Q := by
  rw [nv_nz] at ha hb
  exact eq_ints ha hb q
theorem ne_nats {K : PySem.W.Frag} {H : Hp} {a b : Addr} {l : List Nat} {Q : VK} (ha : SqL K H a (nv l)) (hb : SqL K H b (nv l)) (q : Q (.bl false) H) : rNeD K (.ref a) (.ref b) H Q := by
  rw [nv_nz] at ha hb
  exact ne_ints ha hb q
/-- xs[:n] -/
theorem cut_to {xs : List V} {n : Nat} (h : n ≤ xs.length) : cutV xs none (some (n : Int)) = xs.take n := by
  unfold cutV
  rw [HT.sIx_nat]
  show (xs.drop 0).take (min n xs.length - 0) = xs.take n
  rw [Nat.min_eq_left h]; rfl
theorem nv_take (l : List Nat) (n : Nat) : (nv l).take n = nv (l.take n) := by unfold nv; rw [List.map_take]
theorem is_two {H : Hp} {p : Addr} {x y : V} {d e : Dt} (h : H p = some (.tup [x, y])) (hx : Is H x d) (hy : Is H y e) : Is H (.ref p) (.tup [d, e]) := by
  unfold Is
  refine ⟨p, _, rfl, h, ?_⟩
  unfold IsL; refine ⟨hx, ?_⟩
  unfold IsL; refine ⟨hy, ?_⟩
  unfold IsL; trivial
theorem is_three {H : Hp} {p : Addr} {x y z : V} {d e f : Dt} (h : H p = some (.tup [x, y, z])) (hx : Is H x d) (hy : Is H y e) (hz : Is H z f) : Is H (.ref p) (.tup [d, e, f]) := by
  unfold Is
  refine ⟨p, _, rfl, h, ?_⟩
  unfold IsL; refine ⟨hx, ?_⟩
  unfold IsL; refine ⟨hy, ?_⟩
  unfold IsL; refine ⟨hz, ?_⟩
  unfold IsL; trivial
end G

/-! == and != of plain data of any form -/
namespace G
open PySem PySem.Spec PyProof.Rows L2
mutual
def py : Dt → PyData
  | .non => .none
  | .bl b => .bool b
  | .int i => .int i
  | .str s => .str s
  | .lst l => .list (pyL l)
  | .tup l => .tuple (pyL l)
def pyL : List Dt → List PyData
  | [] => []
  | d :: l => py d :: pyL l
end
mutual
/-- how deep it nests -/
def Dt.dep : Dt → Nat
  | .non => 0
  | .bl _ => 0
  | .int _ => 0
  | .str _ => 0
  | .lst l => depL l + 1
  | .tup l => depL l + 1
def depL : List Dt → Nat
  | [] => 0
  | d :: l => max d.dep (depL l)
end
theorem depL_le {n : Nat} : ∀ {l : List Dt}, (∀ d ∈ l, d.dep ≤ n) → depL l ≤ n
  | [], _ => by unfold depL; omega
  | d :: l, h => by
    unfold depL
    have h1 := h d List.mem_cons_self
    have h2 := depL_le (l := l) fun e he => h e (List.mem_cons_of_mem _ he)
    omega
theorem depL_map {α : Type} {n : Nat} {f : α → Dt} {l : List α} (h : ∀ x ∈ l, (f x).dep ≤ n) : depL (l.map f) ≤ n := depL_le fun d hd => by
  obtain ⟨x, hx, rfl⟩ := List.mem_map.mp hd
  exact h x hx
mutual
theorem py_dep : ∀ d : Dt, (py d).depth = d.dep
  | .non => by unfold py PyData.depth Dt.dep; rfl
  | .bl b => by unfold py PyData.depth Dt.dep; rfl
  | .int b => by unfold py PyData.depth Dt.dep; rfl
  | .str b => by unfold py PyData.depth Dt.dep; rfl
  | .lst l => by unfold py PyData.depth Dt.dep; rw [pyL_dep l]
  | .tup l => by unfold py PyData.depth Dt.dep; rw [pyL_dep l]
theorem pyL_dep : ∀ l : List Dt, PyData.depthAll (pyL l) = depL l
  | [] => by unfold pyL PyData.depthAll depL; rfl
  | d :: l => by unfold pyL PyData.depthAll depL; rw [py_dep d, pyL_dep l]
end
mutual
/-- its texts are plain ones -/
def Dt.sok : Dt → Bool
  | .non => true
  | .bl _ => true
  | .int _ => true
  | .str s => PyData.strOk s
  | .lst l => sokL l
  | .tup l => sokL l
def sokL : List Dt → Bool
  | [] => true
  | d :: l => d.sok && sokL l
end
theorem sokL_all : ∀ {l : List Dt}, (∀ d ∈ l, d.sok = true) → sokL l = true
  | [], _ => by unfold sokL; rfl
  | d :: l, h => by
    unfold sokL
    rw [h d List.mem_cons_self, sokL_all fun e he => h e (List.mem_cons_of_mem _ he)]; rfl
theorem sokL_map {α : Type} {f : α → Dt} {l : List α} (h : ∀ x ∈ l, (f x).sok = true) : sokL (l.map f) = true := sokL_all fun d hd => by
  obtain ⟨x, hx, rfl⟩ := List.mem_map.mp hd
  exact h x hx
mutual
theorem py_lay : ∀ d : Dt, d.sok = true → (py d).canLay0 = true
  | .non, _ => by unfold py PyData.canLay0; rfl
  | .bl b, _ => by unfold py PyData.canLay0; rfl
  | .int b, _ => by unfold py PyData.canLay0; rfl
  | .str b, h => by unfold Dt.sok at h; unfold py PyData.canLay0; exact h
  | .lst l, h => by unfold Dt.sok at h; unfold py PyData.canLay0; exact pyL_lay l h
  | .tup l, h => by unfold Dt.sok at h; unfold py PyData.canLay0; exact pyL_lay l h
theorem pyL_lay : ∀ l : List Dt, sokL l = true → PyData.canLayAll0 (pyL l) = true
  | [], _ => by unfold pyL PyData.canLayAll0; rfl
  | d :: l, h => by
    unfold sokL at h
    rw [Bool.and_eq_true] at h
    unfold pyL PyData.canLayAll0; rw [py_lay d h.1, pyL_lay l h.2]; rfl
end
theorem shaped_py {d : Dt} (h : d.dep ≤ 60) (hs : d.sok = true) : SeqAt.shaped (py d) = true := by
  unfold SeqAt.shaped
  rw [Bool.and_eq_true]
  exact ⟨py_lay d hs, decide_eq_true (by rw [py_dep]; omega)⟩
mutual
theorem Is.dp {K : PySem.W.Frag} {H : Hp} : ∀ {d : Dt} {v : V}, Is H v d → Dp K H v (py d)
  | .non, v, h => by unfold Is at h; subst h; unfold py; exact .non
  | .bl b, v, h => by unfold Is at h; subst h; unfold py; exact .bl b
  | .int i, v, h => by unfold Is at h; subst h; unfold py; exact .int i
  | .str s, v, h => by unfold Is at h; subst h; unfold py; exact .str s
  | .lst l, v, h => by
    unfold Is at h
    obtain ⟨a, xs, rfl, h1, h2⟩ := h
    unfold py
    exact .lst h1.sq (IsL.dp h2)
  | .tup l, v, h => by
    unfold Is at h
    obtain ⟨a, xs, rfl, h1, h2⟩ := h
    unfold py
    exact .tup (sq_tup h1) (IsL.dp h2)
theorem IsL.dp {K : PySem.W.Frag} {H : Hp} : ∀ {l : List Dt} {xs : List V}, IsL H xs l → DpAll K H xs (pyL l)
  | [], [], _ => by unfold pyL; exact .nil
  | d :: l, x :: xs, h => by
    unfold IsL at h
    unfold pyL
    exact .cons (Is.dp h.1) (IsL.dp h.2)
  | [], _ :: _, h => by unfold IsL at h; exact h.elim
  | _ :: _, [], h => by unfold IsL at h; exact h.elim
end
section
variable {K : PySem.W.Frag} {H : Hp} {x y : V} {d : Dt} {Q : VK}
theorem eq_dt (hx : Is H x d) (hy : Is H y d) (hd : d.dep ≤ 60 ∧ d.sok = true) (q : Q (.bl true) H) : rEqD K x y H Q :=
  ⟨py d, py d, hx.dp, hy.dp, shaped_py hd.1 hd.2, shaped_py hd.1 hd.2, by rw [SeqAt.eqv_refl _ (py_lay d hd.2)]; exact q⟩
theorem ne_dt (hx : Is H x d) (hy : Is H y d) (hd : d.dep ≤ 60 ∧ d.sok = true) (q : Q (.bl false) H) : rNeD K x y H Q :=
  ⟨py d, py d, hx.dp, hy.dp, shaped_py hd.1 hd.2, shaped_py hd.1 hd.2, by rw [SeqAt.eqv_refl _ (py_lay d hd.2)]; exact q⟩
end
end G

/-! what is walked is a list or a tuple: for over either, enumerate over either -/
namespace G
open PySem PySem.Spec PyProof.Rows L2
open Sem (wp)
/-- for x in s, s a list or a tuple -/
def iSeq (K : PySem.W.Frag) (te : TE) : TI := fun σ H R => te σ H fun x H1 => ∃ a, x = .ref a ∧ (((∃ xs, SqL K H1 a xs) ∧ R (Itl K a) H1) ∨ ((∃ xs, SqT K H1 a xs) ∧ R (Itt K a) H1))
section
variable {X : Cx} {tg : Expr} (K : PySem.W.Frag)
theorem pi_seqK {l : Expr} {te : TE} (hl : PE X l te) (h : X.K = K := by rfl) : PI X tg l (iSeq K te) := by
  subst h
  refine ⟨fun pins s σ H R I hw => thn (hl.run pins s σ H _ I hw) fun v s1 ⟨x, H1, I1, r1, a, e, q⟩ => ?_⟩
  subst e; cases r1
  rcases q with ⟨⟨xs, hq⟩, q⟩ | ⟨⟨xs, hq⟩, q⟩
  · obtain ⟨its, _, p, _⟩ := I1.list hq
    refine wpAny_pyIter_list p.isList ⟨s1.heap.objs.size, [s1.heap.objs.size], _, _, H1, rfl, I1.kept (t' := s1.toks) fun b o e => Heap.get?_push_of_some _ e, turn_list a _, ⟨_, Heap.get?_push_size _ rfl, rfl, rfl⟩, fun b hb => ?_, q⟩
    rw [List.mem_singleton.mp hb]
    exact I1.fpOk (Nat.le_refl _) (I1.hok.fresh (Nat.le_refl _))
  · obtain ⟨its, _, p, _⟩ := I1.tuple hq
    refine wpAny_pyIter_tuple (items := its.toArray) p ⟨s1.heap.objs.size, [s1.heap.objs.size], _, _, H1, rfl, I1.kept (t' := s1.toks) fun b o e => Heap.get?_push_of_some _ e, turn_tuple a _, ⟨_, Heap.get?_push_size _ rfl, rfl, rfl⟩, fun b hb => ?_, q⟩
    rw [List.mem_singleton.mp hb]
    exact I1.fpOk (Nat.le_refl _) (I1.hok.fresh (Nat.le_refl _))
end
/-! ### enumerate(tuple) -/
theorem meets_enumT (t : Addr) (items : Array Value) :
    Meets (Builtin.«enumerate.__new__» ⟨[.type "enumerate", .ref t], []⟩) (fun _ R z => z.heap.IsTuple t items ∧
      R (.ok (.ret (.ref (z.heap.push { cls := .type "tuple_iterator", data := .fields #[.ref t, .int 0 0] }).objs.size)))
        { z with heap := (z.heap.push { cls := .type "tuple_iterator", data := .fields #[.ref t, .int 0 0] }).push { cls := .type "enumerate", data := .fields #[.none, .bool false, .ref z.heap.objs.size, rawInt 0, .none, .none] } }) :=
  .of_wp fun prog w A R z hz => by
    obtain ⟨hp, g, d, tk, os⟩ := z; obtain ⟨ht, hz⟩ := hz
    have hsub := sub_enumerate
    have step : ∀ {A' : Around} {E : Value → Shared → Prop} {Q : Value → Shared → Prop}, Q (.ref hp.objs.size) ⟨hp.push { cls := .type "tuple_iterator", data := .fields #[.ref t, .int 0 0] }, g, d, tk, os⟩ → wpAny (model prog w) A' (pyIter (.ref t)) Q E ⟨hp, g, d, tk, os⟩ :=
      fun q => wpAny_pyIter_tuple (s := ⟨hp, g, d, tk, os⟩) ht q
    wp_walk using step
    refine wpAny_stack_any fun st => wpAny_pure ?_
    split
    · rename_i c _ _ _ _ _
      cases (c == Value.type "enumerate") <;> (wp_walk using step; exact ⟨_, rfl, hz⟩)
    · wp_walk using step
      exact ⟨_, rfl, hz⟩
section
variable {prog : Program} {w : World} {A : Around} {E : Value → Shared → Prop} {s : Shared}
theorem call_enumT {t : Addr} {items : Array Value} {Q : Value → Shared → Prop} (ht : s.heap.IsTuple t items)
    (hQ : ∀ h', IsEnum h' (s.heap.objs.size + 1) s.heap.objs.size 0 .none → h'.IsTupleIter s.heap.objs.size t 0 → (∀ b o, s.heap.get? b = some o → h'.get? b = some o) → Q (.ref (s.heap.objs.size + 1)) { s with heap := h' }) :
    wpAny (model prog w) A (call (.type "enumerate") [.ref t]) Q E s := by
  refine callType_new F.called_enumerate (by decide) (F.typeCall_enumerate_1 _) (F.newCall_enumerate_1 _) (fun obj => F.args_object_init_2 obj _) F.entry_enumerate_new (meets_enumT t items) ⟨ht, ?_⟩
  have sz : (s.heap.push { cls := .type "tuple_iterator", data := .fields #[.ref t, .int 0 0] }).objs.size = s.heap.objs.size + 1 := Heap.size_push ..
  show _ ∧ _
  rw [sz]
  have en : IsEnum ((s.heap.push { cls := .type "tuple_iterator", data := .fields #[.ref t, .int 0 0] }).push { cls := .type "enumerate", data := .fields #[.none, .bool false, .ref s.heap.objs.size, rawInt 0, .none, .none] }) (s.heap.objs.size + 1) s.heap.objs.size 0 .none := by
    have e := Heap.get?_push_size (s.heap.push { cls := .type "tuple_iterator", data := .fields #[.ref t, .int 0 0] }) (o := { cls := .type "enumerate", data := .fields #[.none, .bool false, .ref s.heap.objs.size, rawInt 0, .none, .none] }) rfl
    rw [sz] at e
    exact e
  exact ⟨⟨_, en, rfl⟩, hQ _ en ⟨_, Heap.get?_push_of_some _ (Heap.get?_push_size _ rfl), rfl, rfl⟩ fun b o x => Heap.get?_push_of_some _ (Heap.get?_push_of_some _ x)⟩
end
theorem apartT {h : Heap} {a e it : Addr} {i j : Nat} {old : Value} {items : Array Value} (he : IsEnum h e it (j : Int) old) (hit : h.IsTupleIter it a i) (pt : h.IsTuple a items) : a ≠ it ∧ e ≠ a := by
  obtain ⟨o1, q1, c1, _⟩ := hit
  obtain ⟨o2, q2, c2, _⟩ := pt
  refine ⟨fun z => ?_, fun z => ?_⟩
  · subst z
    rw [q1] at q2; cases q2
    rw [c1] at c2
    exact absurd (Value.type.inj c2) (by decide)
  · subst z
    rw [show h.get? e = _ from he] at q2; cases q2
    exact absurd (Value.type.inj c2) (by decide)
/-- the tuple at a, each item in a new pair -/
def IteT (K : PySem.W.Frag) (a : Addr) : It :=
  ⟨fun i H => ∃ (xs : List V) (x : V), SqT K H a xs ∧ xs[i]? = some x, fun i H v H' => ∃ T x, v = .ref T ∧ H T = none ∧ H' = upd H T (.tup [.int (i : Nat), x]) ∧ ∀ xs, SqT K H a xs → xs[i]? = some x, fun i H => ∃ xs : List V, SqT K H a xs ∧ xs.length = i⟩
theorem turn_enumT {P : Program} {w : World} {K : PySem.W.Frag} {elts : List Expr} {kk : Nat} {tpos : Pos} (a e it : Addr) :
    Turn P w K (.Tuple elts kk tpos) (IteT K a) [e, it] e (fun i h => (∃ old, IsEnum h e it ((i : Nat) : Int) old) ∧ h.IsTupleIter it a i ∧ e ≠ it) where
  mem := List.mem_cons_self
  obj := fun i h st b hb => by
    obtain ⟨⟨old, he⟩, ⟨o, ho, hc, hd⟩, _⟩ := st
    rcases (by simpa using hb : b = e ∨ b = it) with rfl | rfl
    · exact ⟨_, he, fun v q => nomatch q⟩
    · exact ⟨o, ho, fun v q => by rw [hd] at q; cases q⟩
  keep := fun i h h' st k => let ⟨⟨old, he⟩, hi, hne⟩ := st; ⟨⟨old, k e List.mem_cons_self _ he⟩, hi.at fun o q => k it (List.mem_cons_of_mem _ List.mem_cons_self) o q, hne⟩
  item := by
    intro X hP hw hK hc i pins s σ H E I hf st hg
    subst hP; subst hw; subst hK
    obtain ⟨⟨old, he⟩, hit, hne⟩ := st
    obtain ⟨xs, x, hq, hx⟩ := hg
    obtain ⟨its, rv, p, hz⟩ := I.tuple hq
    obtain ⟨u, hu, ru⟩ := rv.get hx
    have pt : s.heap.IsTuple a its.toArray := p
    have hel := Heap.lt_size he
    have hil : it < s.heap.objs.size := by obtain ⟨_, q, _⟩ := hit; exact Heap.lt_size q
    obtain ⟨hai, hae⟩ := apartT he hit pt
    have hin : i < its.length := by
      have := (List.getElem?_eq_some_iff.mp hu).1
      exact this
    refine wpAny_pyNext_enum_itemD (Draws.tuple (A := X.A.in1) (I.ok.hd hc) it a hai its.toArray) he ⟨hit, pt⟩ (by simpa using hin) hne (by simp [hne, hae]) fun y h' tk hy ho st' hT hsz hk => ?_
    have ey : y = u := by
      have hy' : its[i]? = some y := by simpa using hy
      rw [hu] at hy'; exact (Option.some.inj hy').symm
    subst ey
    refine ⟨_, rfl, wpAny_letOwnedTupleGo_enum (s := { s with heap := h', toks := tk + 1 }) ho fun h'' he' sb => ?_⟩
    have hT2 : h''.get? s.heap.objs.size = some { cls := .type "tuple", data := .seq #[.int i tk, y] } := (sb.2 _ (Nat.ne_of_gt hel)).trans hT
    have new : ObjOk X.prog X.w (upd H s.heap.objs.size (.tup [.int (i : Nat), x])) h'' s.heap.objs.size (.tup [.int (i : Nat), x]) :=
      ⟨by show 2 ≤ sizeLine; decide, [.int i tk, y], .cons ⟨_, rfl⟩ (.cons ru .nil), ⟨_, hT2, rfl, _, rfl⟩⟩
    have I1 : Inv X pins σ (upd H s.heap.objs.size (.tup [.int (i : Nat), x])) { s with heap := h'', toks := tk + 1 } :=
      I.turnedNew (ch := [e, it]) (fun b ob hb q => (sb.2 b (fun z => hb (by rw [z]; exact List.mem_cons_self))).trans (hk b ob (fun z => hb (by rw [z]; exact List.mem_cons_self)) (fun z => hb (by rw [z]; exact List.mem_cons_of_mem _ List.mem_cons_self)) q)) hf (Nat.le_refl _) new
    refine ⟨.ref s.heap.objs.size, _, I1, rfl, ⟨_, x, rfl, I.hok.fresh (Nat.le_refl _), rfl, fun ys hy => by rw [I.tuple_inj hy hq]; exact hx⟩, ⟨⟨y, ?_⟩, st'.1.at fun o q => (sb.2 it (Ne.symm hne)).trans q, hne⟩, fun b hb => ?_⟩
    · rw [show ((i + 1 : Nat) : Int) = (i : Int) + 1 by omega]; exact he'
    · have hb' : b < s.heap.objs.size := by
        rcases (by simpa using hb : b = e ∨ b = it) with rfl | rfl
        · exact hel
        · exact hil
      rw [upd_ne (Nat.ne_of_lt hb')]
      exact (hf b hb).1
  done := by
    intro X hP hw hK hc i pins s σ H E I hf st hg
    subst hP; subst hw; subst hK
    obtain ⟨⟨old, he⟩, hit, hne⟩ := st
    obtain ⟨xs, hq, hx⟩ := hg
    obtain ⟨its, rv, p, hz⟩ := I.tuple hq
    have pt : s.heap.IsTuple a its.toArray := p
    obtain ⟨f0, f1, f2, f3, f4, f5⟩ := hf it (List.mem_cons_of_mem _ List.mem_cons_self)
    have hl := rv.length
    obtain ⟨hai, hae⟩ := apartT he hit pt
    have hn : i = its.toArray.size := by rw [List.size_toArray]; omega
    subst hn
    exact wpAny_pyNext_enum_endD (Draws.tuple (A := X.A.in1) (I.ok.hd hc) it a hai its.toArray) he ⟨hit, pt⟩ fun h' eb => ⟨rfl, I.turned (t' := s.toks) (fun b o hb q => eb b o hb q) f0 f1 f3 f4 f5⟩
  self := fun A i s Q E st h => let ⟨⟨_, he⟩, _⟩ := st; wpAny_pyIter_enum he h
theorem walk_enumT {K : PySem.W.Frag} {a : Addr} {xs : List V} : Walk (IteT K a) xs.length (fun H => SqT K H a xs) (YPair (fun i => some (.int (i : Nat))) (fun i => xs[i]?)) := by
  refine ⟨fun i _ hi q => ⟨xs, xs[i], q, List.getElem?_eq_getElem hi⟩, fun _ q => ⟨xs, q, rfl⟩, fun i H v H' _ q y => ?_⟩
  obtain ⟨T, x, e1, e2, e3, e4⟩ := y
  exact ⟨T, .int (i : Nat), x, e1, e2, e3, rfl, e4 xs q⟩
/-- enumerate(s), s a list or a tuple -/
def iEnumS (K : PySem.W.Frag) (ta : TA) : TI := fun σ H R => ta σ H fun vs H1 => ∃ a xs, vs = [.ref a] ∧ ((SqL K H1 a xs ∧ R (Ite K a) H1) ∨ (SqT K H1 a xs ∧ R (IteT K a) H1))
theorem pi_enumSK {X : Cx} (K : PySem.W.Frag) {e : Expr} {ta : TA} {p pos tpos : Pos} {elts : List Expr} {kk : Nat} (hg : Gl X "enumerate") (hm : X.mg "enumerate" = none) (ha : PA X [e] ta) (hs : starEach [e] X.env = [(false, eval e X.env)] := by rfl) (h : X.K = K := by rfl) :
    PI X (.Tuple elts kk tpos) (.Call (.Name "enumerate" p) [e] [] pos) (iEnumS K ta) := by
  subst h
  refine ⟨fun pins s σ H R I hw => Call_ (ld_blt I hg hm boot_enumerate (PyProof.Rows.callWith_type1 (thn (ha.run pos pins s σ H _ I hw) fun us s1 ⟨vs, H1, I1, r1, a, xs, ex, q⟩ => ?_) hs rfl))⟩
  subst ex
  cases r1 with
  | cons r rr =>
    cases rr; cases r
    have fp : ∀ b ∈ [s1.heap.objs.size + 1, s1.heap.objs.size], FpOk X pins H1 b := fun b hb => by
      have hle : s1.heap.objs.size ≤ b := by
        rcases (by simpa using hb : b = s1.heap.objs.size + 1 ∨ b = s1.heap.objs.size) with z | z <;> rw [z]
        · exact Nat.le_add_right _ _
        · exact Nat.le_refl _
      exact I1.fpOk hle (I1.hok.fresh hle)
    rcases q with ⟨hq, q⟩ | ⟨hq, q⟩
    · obtain ⟨its, rv, p', hz⟩ := I1.list hq
      exact call_enumerate_list p'.isList fun h' he hit _ hk => wpAny_pyIter_enum he ⟨s1.heap.objs.size + 1, [s1.heap.objs.size + 1, s1.heap.objs.size], _, _, H1, rfl, I1.kept (t' := s1.toks) hk, turn_enum a (s1.heap.objs.size + 1) s1.heap.objs.size, ⟨⟨.none, he⟩, hit, Nat.succ_ne_self _⟩, fp, q⟩
    · obtain ⟨its, rv, p', hz⟩ := I1.tuple hq
      exact call_enumT (items := its.toArray) p' fun h' he hit hk => wpAny_pyIter_enum he ⟨s1.heap.objs.size + 1, [s1.heap.objs.size + 1, s1.heap.objs.size], _, _, H1, rfl, I1.kept (t' := s1.toks) hk, turn_enumT a (s1.heap.objs.size + 1) s1.heap.objs.size, ⟨⟨.none, he⟩, hit, Nat.succ_ne_self _⟩, fp, q⟩
/-! ### what a list or a tuple holds -/
/-- the items of the list or tuple at a -/
def SeqAt2 (H : Hp) (a : Addr) (xs : List V) : Prop := LsAt H a xs ∨ H a = some (.tup xs)
theorem SeqAt2.mono {H H' : Hp} {a : Addr} {xs : List V} (s : Same H H') (h : SeqAt2 H a xs) : SeqAt2 H' a xs := h.elim (fun h => .inl (h.mono s)) fun h => .inr (s _ _ h)
theorem SeqAt2.sq {K : PySem.W.Frag} {H : Hp} {a : Addr} {xs : List V} (h : SeqAt2 H a xs) : SqL K H a xs ∨ SqT K H a xs := h.elim (fun h => .inl h.sq) fun h => .inr (sq_tup h)
end G

/-! loops over a list or a tuple, one proof for both -/
namespace G
open PySem PySem.Spec PyProof.Rows L2
abbrev ForJ (J : It) (g : TG) (tb : TS) (D : Ends) (σ : L2.St) (H : Hp) : Prop := ∃ W : Nat → Nat → L2.St → Hp → Prop, (∃ m, W 0 m σ H) ∧ ∀ i m σ H, W i m σ H →
  (J.stop i H ∧ D.nx σ H) ∨ (J.go i H ∧ ∃ N : L2.St → Hp → Prop, (∀ σ' H', N σ' H' → ∃ m', m' < m ∧ W (i + 1) m' σ' H') ∧ ∀ x H', J.yld i H x H' → g x σ H' fun σ2 H2 => tb { D with nx := N, ct := N, bk := D.nx } σ2 H2)
abbrev LcJ (J : It) (g : TG) (tt : TT) (te : TE) (vs : List Nat) (σ : L2.St) (H1 : Hp) (D : Addr) (Qd : Hp → Prop) : Prop := ∃ W : Nat → Nat → Hp → Prop, (∃ m, W 0 m (upd H1 D (.lst []))) ∧ ∀ i m H, W i m H →
  (J.stop i H ∧ Qd H) ∨ (J.go i H ∧ ∃ Nx : Hp → Prop, (∀ H', Nx H' → ∃ m', m' < m ∧ W (i + 1) m' H') ∧ ∀ x H', J.yld i H x H' → g x (wipe σ vs) H' fun σ2 H2 => wipe σ2 vs = wipe σ vs ∧ tt σ2 H2 fun b H3 =>
    if b = true then te σ2 H3 fun y H4 => ∃ acc, H4 D = some (.lst acc) ∧ acc.length < sizeLine ∧ Nx (upd H4 D (.lst (acc ++ [y]))) else Nx H3)
section
variable {K : PySem.W.Frag} {a : Addr} {xs : List V} {g : TG}
theorem SeqAt2.both {H : Hp} (h : SeqAt2 H a xs) : (∀ H', Same H H' → SqL K H' a xs) ∨ (∀ H', Same H H' → SqT K H' a xs) := h.elim (fun h => .inl fun H' s => (h.mono s).sq) fun h => .inr fun H' s => sq_tup (s _ _ h)
/-- for over either; Hb: where it stands -/
theorem for_seq {tb : TS} {D : Ends} {σ : L2.St} {Hb H : Hp} (h : SeqAt2 Hb a xs) (Pv : Nat → L2.St → Hp → Prop) (h0 : Pv 0 σ H) (hl : ∀ i σ H', Pv i σ H' → Same Hb H')
    (hs : ∀ i x σ H', xs[i]? = some x → Pv i σ H' → g x σ H' fun σ2 H2 => tb { D with nx := Pv (i + 1), ct := Pv (i + 1), bk := D.nx } σ2 H2) (hd : ∀ σ H', Pv xs.length σ H' → D.nx σ H') :
    ((∃ xs, SqL K H a xs) ∧ ForJ (Itl K a) g tb D σ H) ∨ ((∃ xs, SqT K H a xs) ∧ ForJ (Itt K a) g tb D σ H) := by
  rcases h.both (K := K) with h | h
  · exact .inl ⟨⟨xs, h _ (hl _ _ _ h0)⟩, for_it walk_list Pv h0 (fun i σ H' _ p => h _ (hl _ _ _ p)) (fun i x σ H1 H2 hi p ⟨e, y⟩ => e ▸ hs i x σ H1 y p) hd⟩
  · exact .inr ⟨⟨xs, h _ (hl _ _ _ h0)⟩, for_it walk_tup Pv h0 (fun i σ H' _ p => h _ (hl _ _ _ p)) (fun i x σ H1 H2 hi p ⟨e, y⟩ => e ▸ hs i x σ H1 y p) hd⟩
theorem lc_seq {tt : TT} {te : TE} {vs : List Nat} {σ : L2.St} {Hb H : Hp} {Qd : Addr → Hp → Prop} (h : SeqAt2 Hb a xs) (hb : Same Hb H) (Pv : Addr → Nat → Hp → Prop) (h0 : ∀ D, H D = none → Pv D 0 (upd H D (.lst []))) (hl : ∀ D i H', H D = none → Pv D i H' → Same Hb H')
    (hs : ∀ D i x H', H D = none → xs[i]? = some x → Pv D i H' → g x (wipe σ vs) H' fun σ2 H2 => wipe σ2 vs = wipe σ vs ∧ tt σ2 H2 fun b H3 =>
      if b = true then te σ2 H3 fun y H4 => ∃ acc, H4 D = some (.lst acc) ∧ acc.length < sizeLine ∧ Pv D (i + 1) (upd H4 D (.lst (acc ++ [y]))) else Pv D (i + 1) H3) (hd : ∀ D H', H D = none → Pv D xs.length H' → Qd D H') :
    ((∃ xs, SqL K H a xs) ∧ ∀ D, H D = none → LcJ (Itl K a) g tt te vs σ H D (Qd D)) ∨ ((∃ xs, SqT K H a xs) ∧ ∀ D, H D = none → LcJ (Itt K a) g tt te vs σ H D (Qd D)) := by
  rcases h.both (K := K) with h | h
  · exact .inl ⟨⟨xs, h _ hb⟩, fun D nD => lc_it walk_list (Pv D) (h0 D nD) (fun i H' _ p => h _ (hl _ _ _ nD p)) (fun i x H1 H2 hi p ⟨e, y⟩ => e ▸ hs D i x H1 nD y p) fun H' => hd D H' nD⟩
  · exact .inr ⟨⟨xs, h _ hb⟩, fun D nD => lc_it walk_tup (Pv D) (h0 D nD) (fun i H' _ p => h _ (hl _ _ _ nD p)) (fun i x H1 H2 hi p ⟨e, y⟩ => e ▸ hs D i x H1 nD y p) fun H' => hd D H' nD⟩
/-- the items of a list or tuple, or of one that the text has written -/
def SeqG (K : PySem.W.Frag) (H : Hp) (a : Addr) (xs : List V) : Prop := SeqAt2 H a xs ∨ ∀ H, SqT K H a xs
theorem SeqG.both {H : Hp} (h : SeqG K H a xs) : (∀ H', Same H H' → SqL K H' a xs) ∨ (∀ H', Same H H' → SqT K H' a xs) := h.elim (fun h => h.both) fun h => .inr fun H' _ => h H'
/-- enumerate over either: each pair new -/
theorem for_enumG {tb : TS} {D : Ends} {σ : L2.St} {Hb H : Hp} (h : SeqG K Hb a xs) (Pv : Nat → L2.St → Hp → Prop) (h0 : Pv 0 σ H) (hl : ∀ i σ H', Pv i σ H' → Same Hb H')
    (hs : ∀ i x σ H' T, xs[i]? = some x → Pv i σ H' → H' T = none → g (.ref T) σ (upd H' T (.tup [.int (i : Nat), x])) fun σ2 H2 => tb { D with nx := Pv (i + 1), ct := Pv (i + 1), bk := D.nx } σ2 H2) (hd : ∀ σ H', Pv xs.length σ H' → D.nx σ H') :
    (SqL K H a xs ∧ ForJ (Ite K a) g tb D σ H) ∨ (SqT K H a xs ∧ ForJ (IteT K a) g tb D σ H) := by
  rcases h.both with h | h
  · exact .inl ⟨h _ (hl _ _ _ h0), for_it walk_enum Pv h0 (fun i σ H' _ p => h _ (hl _ _ _ p)) (fun i x σ H1 H2 hi p ⟨T, x1, x2, e, nT, eh, e1, e2⟩ => by subst e eh; cases e1; exact hs i x2 σ H1 T e2 p nT) hd⟩
  · exact .inr ⟨h _ (hl _ _ _ h0), for_it walk_enumT Pv h0 (fun i σ H' _ p => h _ (hl _ _ _ p)) (fun i x σ H1 H2 hi p ⟨T, x1, x2, e, nT, eh, e1, e2⟩ => by subst e eh; cases e1; exact hs i x2 σ H1 T e2 p nT) hd⟩
end
/-! ### lists of rows of data -/
def SeqD (d : Dt) (l : List Dt) : Prop := d = .lst l ∨ d = .tup l
/-- a list or a tuple, by the data it stands for -/
theorem Is.seq {H : Hp} {v : V} {d : Dt} {l : List Dt} (h : Is H v d) (s : SeqD d l) : ∃ a xs, v = .ref a ∧ SeqAt2 H a xs ∧ IsL H xs l := by
  rcases s with rfl | rfl
  · unfold Is at h
    obtain ⟨a, xs, rfl, h1, h2⟩ := h
    exact ⟨a, xs, rfl, .inl h1, h2⟩
  · unfold Is at h
    obtain ⟨a, xs, rfl, h1, h2⟩ := h
    exact ⟨a, xs, rfl, .inr h1, h2⟩
theorem IsL.at_ {H : Hp} : ∀ {xs : List V} {ds : List Dt} {i : Nat} {x : V}, IsL H xs ds → xs[i]? = some x → ∃ d, ds[i]? = some d ∧ Is H x d
  | x :: xs, d :: ds, 0, _, h, e => by
    unfold IsL at h
    cases e
    exact ⟨d, rfl, h.1⟩
  | x :: xs, d :: ds, i + 1, _, h, e => by
    unfold IsL at h
    exact IsL.at_ (i := i) h.2 (by simpa using e)
  | [], [], i, _, _, e => by simp at e
  | [], _ :: _, _, _, h, _ => by unfold IsL at h; exact h.elim
  | _ :: _, [], _, _, h, _ => by unfold IsL at h; exact h.elim
/-- a pair -/
theorem Is.pair {H : Hp} {v : V} {d e : Dt} (h : Is H v (.tup [d, e])) : ∃ a x y, v = .ref a ∧ H a = some (.tup [x, y]) ∧ Is H x d ∧ Is H y e := by
  unfold Is at h
  obtain ⟨a, xs, rfl, h1, h2⟩ := h
  match xs, h2, h1 with
  | [x, y], h2, h1 =>
    unfold IsL at h2
    obtain ⟨h3, h2⟩ := h2
    unfold IsL at h2
    exact ⟨a, x, y, rfl, h1, h3, h2.1⟩
  | [], h2, _ => unfold IsL at h2; exact h2.elim
  | [x], h2, _ =>
    unfold IsL at h2
    obtain ⟨_, h2⟩ := h2
    unfold IsL at h2; exact h2.elim
  | x :: y :: z :: r, h2, _ =>
    unfold IsL at h2
    obtain ⟨_, h2⟩ := h2
    unfold IsL at h2
    obtain ⟨_, h2⟩ := h2
    unfold IsL at h2; exact h2.elim
theorem Is.toInt {H : Hp} {v : V} {i : Int} (h : Is H v (.int i)) : v = .int i := by unfold Is at h; exact h
end G

/-! own exceptions whose __init__ begins with super().__init__(text): a promise of such an __init__ by its further rows -/
namespace G
open PySem PySem.Spec PyProof.Rows L2
open PySem.W (kxs_mw KxsAt clsIn mroIn subIn nsIn findIn typeIn keepIn codeIn fnX ksEnv ks_superIn)
/-- what the written part says of an exception's class C, with its __init__ (st) at fI -/
structure ExI (P : Program) (K : PySem.W.Frag) (mg : Str → Option Value) (C : Addr) (st : Stmt) (qual : Str) (fI : Addr) (fd : FuncData) : Prop where
  oex : OexC K C
  iC : findIn K (.ref C) "__init__" = some (some (.ref fI))
  tI : typeIn K (.ref fI) = some (.type "function")
  fn : ∃ (oc : Value) (od : Option Addr) (kV doc pm : Value) (an : Option Addr) (cda cc : Addr) (ct : Value) (osl : Array (Option Value)),
    fd = fnX "__init__" qual (defArgs st) (defBody st) (defScope st) [("__class__", cc)] .none kV doc pm an (.ref cda) ct ∧ K.lookup fI = some ⟨oc, od, .func fd, osl⟩ ∧ codeIn K (.ref cda) qual = true ∧
    (∃ (ccl : Value) (cdd : Option Addr) (vs : Array Value) (ccs : Array (Option Value)) (file : Str) (tf : Tok), K.lookup cda = some ⟨ccl, cdd, .fields vs, ccs⟩ ∧ vs[2]? = some (.str file tf) ∧ ((P.main.file : Str) == file) = true) ∧
    ∃ (cl : Value) (cld : Option Addr) (csl : Array (Option Value)), K.lookup cc = some ⟨cl, cld, .cell (some (.ref C)), csl⟩
  cd : (clsIn K C).isSome = true
  sub : mroIn K C (.ref C) = some true
  sup : ks_superIn K C C "__init__" = some (some (.builtin "ValueError.__init__"))
  subV : subIn K (.ref C) (.type "ValueError") = some true
  opq : nsIn K PySem.cStatics "thirdparty.any" = some none
  nsup : mg "super" = none
  ntop : (P.main.scope.names.lookup ("super" : Str)).isSome = false
/-- the scope of such an __init__ -/
structure SupScope (N P : List Str) (sc : Scope) : Prop where
  kind : sc.kind = .function
  co : sc.isCoroutine = false
  gen : sc.isGenerator = false
  nd : N.Nodup
  pre : N.take P.length = P
  par : ∀ x ∈ P, sc.names.lookup x = some .local
  nocell : ∀ y ∈ sc.names, y.2 ≠ .cell
  fre : ∀ y ∈ sc.names, y.2 = .free → y.1 = ("__class__" : Str)
  sup : sc.names.lookup ("super" : Str) = some .globalImplicit
  cls : sc.names.lookup ("__class__" : Str) = some .free
theorem lookup_mem {α β : Type} [BEq α] [LawfulBEq α] {x : α} {v : β} : ∀ {l : List (α × β)}, (l.map (·.1)).Nodup → (x, v) ∈ l → l.lookup x = some v
  | (y, u) :: r, hn, hm => by
    rw [List.map_cons, List.nodup_cons] at hn
    rw [List.lookup_cons]
    by_cases e : x = y
    · subst e
      rcases List.mem_cons.mp hm with q | q
      · cases q; simp
      · exact absurd (List.mem_map_of_mem (f := (·.1)) q) hn.1
    · have : (x == y) = false := by simpa using e
      rw [this]
      rcases List.mem_cons.mp hm with q | q
      · cases q; exact absurd rfl e
      · exact lookup_mem hn.2 q
theorem zip_rev_lookup {ps : List Str} {us : List Value} {i : Nat} {x : Str} {v : Value} (hn : ps.Nodup) (hl : us.length = ps.length) (hp : ps[i]? = some x) (hu : us[i]? = some v) : (ps.zip us).reverse.lookup x = some v := by
  refine lookup_mem ?_ ?_
  · rw [List.map_reverse, List.map_fst_zip (by omega)]
    exact List.pairwise_reverse.mpr (hn.imp fun h => Ne.symm h)
  · rw [List.mem_reverse]
    refine List.mem_of_getElem? (i := i) ?_
    rw [List.getElem?_zip_eq_some]
    exact ⟨hp, hu⟩
/-- the context of the body of such an __init__ -/
def cxS (CX : CXT) (P : Program) (w : World) (K : PySem.W.Frag) (mg : Str → Option Value) (base : Heap) (N : List Str) (qual : Str) (scope : Scope) (f cda cc : Addr) (A : Around) (outer : List Env) (s : Shared) (H : Hp) (E : XK) : Cx :=
  let env := ksEnv qual scope s.heap.objs.size f (.ref cda) cc
  { prog := P, w := w, K := K, mg := mg, base := base, A := A.deeper env, N := N, s_0 := s, H_0 := H, env := env, outer := outer, stack := env :: outer, ex := [], calm := true, fn := fun _ => false, pn := [],
    xe := fun e s' => wpAny (model P w) (A.deeper env) (leaving env e) (fun _ s'' => CX outer H s E e s'') (fun e' s'' => CX outer H s E e' s'') s' }
section
variable {CX : CXT} {P : Program} {w : World} {K : PySem.W.Frag} {mg : Str → Option Value} {base : Heap} {N ps : List Str} {qual : Str} {scope : Scope} {f cda cc : Addr} {A : Around} {outer : List Env} {s : Shared} {H : Hp} {E : XK} {us : List Value} {vs : List V}
theorem inv_sup (S : SupScope N ps scope) (hd : A.handled = none) (e0 : Env0 P w K mg base A outer s H) (hl : vs.length = ps.length) (r : Vals vs us) {h1 : Heap} {tk : Nat} {C : Addr} {cl : Value} {cld : Option Addr} {csl : Array (Option Value)}
    (hcc : K.lookup cc = some ⟨cl, cld, .cell (some (.ref C)), csl⟩)
    (hns : h1.Ns s.heap.objs.size fun x => (ps.zip us).reverse.lookup x) (hk : ∀ b o, s.heap.get? b = some o → h1.get? b = some o) :
    Inv (cxS CX P w K mg base N qual scope f cda cc A outer s H E) [] (start N vs) H { s with heap := h1, toks := tk } := by
  have hbase : base.get? cc = some ⟨cl, cld, .cell (some (.ref C)), csl⟩ := e0.mod.kin _ _ hcc
  have hbs := e0.bs _ _ hbase
  have one : ∀ {x : Str} {c : Addr}, List.lookup x [(("__class__" : Str), cc)] = some c → x = "__class__" ∧ c = cc := fun {x c} h => by
    rw [List.lookup_cons] at h
    by_cases e : x = ("__class__" : Str)
    · subst e; simp at h; exact ⟨rfl, h.symm⟩
    · have : (x == ("__class__" : Str)) = false := by simpa using e
      rw [this] at h; cases h
  have noA : ∀ b : Addr, b ∉ (cxS CX P w K mg base N qual scope f cda cc A outer s H E).ex := fun b z => absurd (show b ∈ ([] : List Addr) from z) (by simp)
  refine ⟨⟨e0.mod, S.kind, rfl, rfl, Nat.le_refl _, fun y z c h1 h2 => ?_, fun y hy => ?_, fun y c hf h => ?_, fun _ => hd, Around.frames_deeper e0.frames, .inr ⟨rfl, rfl⟩, fun b z => absurd z (noA b), e0.bs, e0.bsz, fun b _ _ => noA b, fun b z => absurd z (noA b), e0.funs, e0.frf⟩,
    rfl, e0.bare, Un.kept hk, ⟨_, hns, fun i y v h1 h2 h3 => ?_⟩, fun y c h => ?_, e0.hok.fresh (Nat.le_refl _), fun y c h => ?_, fun p hp => absurd (show p ∈ ([] : List (Addr × Obj)) from hp) (by simp), e0.hok.kept hk, ?_⟩
  · exact (one h1).1.trans (one h2).1.symm
  · have hy : scope.names.lookup y = some .cell ∨ scope.names.lookup y = some .free := hy
    rcases hy with hy | hy
    · exact absurd rfl (S.nocell _ (PySem.mem_of_lookup hy))
    · have e : y = "__class__" := S.fre _ (PySem.mem_of_lookup hy) rfl
      subst e
      refine ⟨cc, ?_⟩
      show List.lookup ("__class__" : Str) [(("__class__" : Str), cc)] = some cc
      simp [List.lookup]
  · exact Bool.noConfusion (show false = true from hf)
  · have hi : i < vs.length := by
      unfold L2.start at h2
      by_cases hi : i < vs.length
      · exact hi
      · rw [List.getElem?_append_right (by simpa using hi), List.getElem?_replicate] at h2
        split at h2 <;> cases h2
    have ha : vs[i]? = some v := by
      unfold L2.start at h2
      rw [List.getElem?_append_left (by simpa using hi), List.getElem?_map] at h2
      cases e : vs[i]? with
      | none => rw [e] at h2; cases h2
      | some a => rw [e] at h2; cases h2; rfl
    obtain ⟨u, hu, rv⟩ := r.get ha
    have hp : ps[i]? = some y := by
      rw [← S.pre, List.getElem?_take_of_lt (by omega)]; exact h1
    have ndP : ps.Nodup := by rw [← S.pre]; exact S.nd.sublist (List.take_sublist _ _)
    exact ⟨u, rv, .inl ⟨S.par y (List.mem_of_getElem? hp), zip_rev_lookup ndP (by rw [← r.length, hl]) hp hu⟩⟩
  · obtain ⟨rfl, rfl⟩ := one h
    exact ⟨_, _, hk _ _ hbs.1, rfl⟩
  · obtain ⟨rfl, rfl⟩ := one h
    exact hbs.2
  · have hpl : ps.length ≤ N.length := by have := congrArg List.length S.pre; rw [List.length_take] at this; omega
    unfold L2.start
    show _ = N.length
    rw [List.length_append, List.length_map, List.length_replicate]
    omega
end
/-- the wrapper of ValueError.__init__ bound to an exception that is being made, called -/
theorem mw_call {P : Program} {w : World} {K : PySem.W.Frag} {C u a t1 : Addr} {h : Heap} {g : Array GenState} {d : Drawn} {t : Nat} {os : OsState} {A : Around} {rest : List Value} {Q : Value → Shared → Prop} {E : Value → Shared → Prop}
    (T : OexC K C) (X : K.In h) (hu : h.get? u = some (kxs_mw "ValueError.__init__" a)) (he : h.get? a = some (PySem.HandSPX.excO C t1)) (hz : rest.length ≤ sizeLine)
    (hq : ∀ h' t2, (∀ b o, b ≠ a → h.get? b = some o → h'.get? b = some o) → h'.get? a = some (PySem.HandSPX.excO C t2) → Q .none ⟨h', g, d, t, os⟩) :
    wpAny (model P w) A (call (.ref u) rest) Q E ⟨h, g, d, t, os⟩ := by
  obtain ⟨nm, q, N, bs, bm, sn, sub, ab, col, dd, k0, k1, k2, k3, k5, hC, hbm⟩ := T.cls
  have hCh := X _ _ hC
  refine wpAny_call (codeAny_of_tree (?_ : wpAny _ A.in1 (callAny (.ref u) ⟨rest, []⟩) _ _ _))
  have c1 : (Value.type "method-wrapper" == Value.type "method" || Value.type "method-wrapper" == Value.type "builtin_function_or_method" || Value.type "method-wrapper" == Value.type "method-wrapper") = true := by decide
  simp only [callAny]
  refine wpAny_bind (wpAny_load hu (?_ : _))
  simp only [c1, if_true]
  refine PySem.W.KFB.if_so (by decide) (wpAny_bind (PySem.W.check_bound_init F.excBase_ValueError.toExcCallFacts hCh he rfl (wpAny_bind (wpAny_pure (wpAny_pure ⟨?_, ?_⟩)))))
  · exact plainId_quiet F.excBase_ValueError.init.plain _
  · refine codeAny_builtin F.excBase_ValueError.initEntry (PySem.W.exc_init_tree (cls := .ref C) (t0 := t1) (dv := none) (c2 := .none) (c3 := .none) (b4 := .bool false) he hz fun h' k e _ => ?_)
    exact hq h' _ k e
/-- THE RULE for an __init__ that begins with super().__init__(e, ..) -/
theorem fn_super {CX : CXT} {P : Program} {w : World} {K : PySem.W.Frag} {mg : Str → Option Value} {base : Heap} {k : Nat} {C fI : Addr} {fd : FuncData} {st : Stmt} {qual : Str} {N ps : List Str} {sp : Sp} {a0 : Expr} {as : List Expr} {rest : List Stmt} {ar : Arg} {q0 q1 q2 q3 q4 : Pos}
    (T : ExI P K mg C st qual fI fd) (S : SupScope N ps (defScope st)) (hb : defBody st = .Expr (.Call (.Attribute (.Call (.Name "super" q0) [] [] q1) "__init__" q2) (a0 :: as) [] q3) q4 :: rest)
    (har : ((defArgs st).posonlyargs ++ (defArgs st).args).head? = some ar) (hself : N[0]? = some ar.arg) (hps : ps[0]? = some ar.arg)
    (len : ∀ vs H Q E, sp vs H Q E → vs.length = ps.length)
    (hbody : ∀ (cda cc : Addr) (A : Around) (outer : List Env) (s : Shared) (H : Hp) (vs : List V) (Q : VK) (E : XK), Room k (A.deeper (ksEnv qual (defScope st) s.heap.objs.size fI (.ref cda) cc)) → sp vs H Q E →
      ∃ ta t a, PA (cxS CX P w K mg base N qual (defScope st) fI cda cc A outer s H E) (a0 :: as) ta ∧ PSs (cxS CX P w K mg base N qual (defScope st) fI cda cc A outer s H E) rest t ∧ vs[0]? = some (.ref a) ∧ H a = some (exo a C none) ∧
        ta (L2.start N vs) H fun ws H1 => ws.length ≤ 1000 ∧ H1 a = some (exo a C none) ∧ t { nx := fun _ H' => Q .non H', rt := Q } (L2.start N vs) H1)
    (hsa : ∀ (cda cc : Addr) (L : Addr), starEach (a0 :: as) (ksEnv qual (defScope st) L fI (.ref cda) cc) = (false, eval a0 (ksEnv qual (defScope st) L fI (.ref cda) cc)) :: starEach as (ksEnv qual (defScope st) L fI (.ref cda) cc) := by intro _ _ _; rfl)
    (hpl : ∀ (cda cc : Addr) (L : Addr), (backTo q3 (starEach as (ksEnv qual (defScope st) L fI (.ref cda) cc))).any (·.1) = false := by intro _ _ _; rfl)
    (hcs : ∀ (cda cc : Addr) (L : Addr), eval (.Call (.Attribute (.Call (.Name "super" q0) [] [] q1) "__init__" q2) (a0 :: as) [] q3) (ksEnv qual (defScope st) L fI (.ref cda) cc) = (do
      let ov ← attributeBase (.Call (.Name "super" q0) [] [] q1) "__init__" (ksEnv qual (defScope st) L fI (.ref cda) cc) (eval (.Call (.Name "super" q0) [] [] q1) (ksEnv qual (defScope st) L fI (.ref cda) cc))
      standAt q2.atName
      let (f, first) ← holding [ov] (getMethod ov "__init__" (pure false))
      callWith q3 f first (backTo q3 (starEach (a0 :: as) (ksEnv qual (defScope st) L fI (.ref cda) cc))) []) := by intro _ _ _; rfl)
    (hin : ∀ (cda cc : Addr) (L : Addr), interactive (ksEnv qual (defScope st) L fI (.ref cda) cc) = false := by intro _ _ _; rfl)
    (hsw : ∀ (cda cc : Addr) (L : Addr), swapsWith (.Call (.Attribute (.Call (.Name "super" q0) [] [] q1) "__init__" q2) (a0 :: as) [] q3) none q4.line (ksEnv qual (defScope st) L fI (.ref cda) cc) = pure false := by intro _ _ _; rfl) :
    FnOk P w K mg base CX (k + 1) fI fd ps sp := by
  obtain ⟨oc, od, kV, doc, pm, an, cda, cc, ct, osl, rfl, lk, hcd, ⟨ccl, cdd, cvs, ccs, file, tf, hcode, hvs, hfile⟩, cl, cld, csl, hcell⟩ := T.fn
  refine ⟨len, fun A outer s H args us vs Q E hr e0 hbd r hsp => ?_⟩
  have hl := len _ _ _ _ hsp
  have KX : K.In s.heap := e0.mod.kin.keeps fun b o e => (e0.bs b o e).1
  have lim : s.heap.NoLimit := e0.mod.nolimit.keeps fun b o e => (e0.bs b o e).1
  have hul : us.length = ps.length := by rw [← r.length, hl]
  refine ks_codeAny_call_defAt (body := defBody st) hr.depth (KX _ _ lk) rfl lim (PySem.W.codeRec_of KX hcd) rfl hbd S.nocell (fun y hy => S.par y.1 (List.of_mem_zip hy).1) (fun h0 hns hk => ?_) S.co S.gen S.kind
  obtain ⟨ta, t, a, hPA, hPS, hv0, hHa, hq⟩ := hbody cda cc A outer s H vs Q E (hr.deeper _) hsp
  have I : Inv (cxS CX P w K mg base N qual (defScope st) fI cda cc A outer s H E) [] (L2.start N vs) H { s with heap := h0, toks := s.toks + (ps.zip us).length } := inv_sup S hr.hd e0 hl r hcell hns hk
  obtain ⟨t1, hobj⟩ := exo_at I.hok hHa
  have X0 : K.In h0 := KX.keeps hk
  have hself0 : ((ps.zip us).reverse.lookup ar.arg) = some (.ref a) := by
    have ndP : ps.Nodup := by rw [← S.pre]; exact S.nd.sublist (List.take_sublist _ _)
    obtain ⟨u0, hu0, ru⟩ := r.get hv0
    have : u0 = .ref a := ru
    subst this
    exact zip_rev_lookup ndP hul hps hu0
  obtain ⟨cdD, hcd2⟩ := Option.isSome_iff_exists.mp T.cd
  obtain ⟨oC, hC1, hC2⟩ : ∃ oC, h0.get? C = some oC ∧ oC.data = .cls cdD := by
    have q := hcd2
    unfold clsIn at q
    split at q
    · cases q
      exact ⟨_, X0 _ _ ‹_›, rfl⟩
    · cases q
  show _root_.PySem.wpAt (model P w) (A.deeper (ksEnv qual (defScope st) s.heap.objs.size fI (.ref cda) cc)) (.func (defBody st) (ksEnv qual (defScope st) s.heap.objs.size fI (.ref cda) cc)) (execs (defBody st) (ksEnv qual (defScope st) s.heap.objs.size fI (.ref cda) cc)) _ _ _
  have go : _root_.PySem.wpAt (model P w) (A.deeper (ksEnv qual (defScope st) s.heap.objs.size fI (.ref cda) cc)) (.func (defBody st) (ksEnv qual (defScope st) s.heap.objs.size fI (.ref cda) cc)) (execs (.Expr (.Call (.Attribute (.Call (.Name "super" q0) [] [] q1) "__init__" q2) (a0 :: as) [] q3) q4 :: rest) (ksEnv qual (defScope st) s.heap.objs.size fI (.ref cda) cc))
      (SP (cxS CX P w K mg base N qual (defScope st) fI cda cc A outer s H E) [] { nx := fun _ H' => Q .non H', rt := Q }) (cxS CX P w K mg base N qual (defScope st) fI cda cc A outer s H E).xe { s with heap := h0, toks := s.toks + (ps.zip us).length } := by
    refine ks_wpAt_execs_cons (ks_wpAt_Expr_any (ks_wpAt_MethodCall ?_ (hcs cda cc _)) (hin cda cc _) (hsw cda cc _))
    refine ks_wpAt_super_base (env := ksEnv qual (defScope st) s.heap.objs.size fI (.ref cda) cc) S.sup S.cls (by decide) rfl (X0 _ _ lk) rfl har rfl (X0 _ _ hcode) rfl hvs hfile T.ntop ?_
    obtain ⟨mb, hmb, hmbx⟩ := e0.mod.blt
    have kb : ∀ b o, base.get? b = some o → h0.get? b = some o := fun b o e => hk _ _ (e0.bs b o e).1
    refine PySem.W.ks_loadName_global S.kind S.sup (PySem.Calls.loadGlobal_builtin (env := ksEnv qual (defScope st) s.heap.objs.size fI (.ref cda) cc) (e0.mod.glob.keeps kb) T.nsup (hmb.keeps kb) ((hmbx "super" (by decide)).trans (by decide +kernel)) ⟨rfl, ?_⟩)
    refine wpAny_loadName_free S.kind S.cls rfl ⟨_, X0 _ _ hcell, rfl⟩ ?_
    refine wpAny_loadName_local S.kind (S.par ar.arg (List.mem_of_getElem? hps)) hns hself0 ?_
    refine ks_wpAny_isType_cls hC1 hC2 ⟨rfl, ?_⟩
    refine ks_wpAny_call_super hC1 hC2 hobj rfl (fun c e => by cases e) (PySem.W.looks_mroIn X0 T.sub) (fun h2 e2 k2 => ?_)
    have X2 : K.In h2 := X0.keeps k2
    have hobj2 := k2 _ _ hobj
    have hI2 : PySem.W.Looks (model P w) h2 (isInstance (.ref a) (.type "ValueError")) true :=
      (show PySem.W.InstAt h2 a _ C none from ⟨hobj2, rfl, rfl, trivial⟩).type.andThen (PySem.W.looks_subIn X2 T.subV)
    have haC : a ≠ C := fun e => by
      subst e
      rw [hC1] at hobj
      cases hobj
      cases hC2
    have hsup := T.sup
    unfold ks_superIn at hsup
    rw [hcd2] at hsup
    refine PySem.W.kxs_getMethod PySem.W.kxs_ValueError e2 (PySem.W.looks_opaque X2 T.opq) (l₀ := cdD.mro) (fun A Q E s k q => wpAny_bind ((PySem.W.looks_clsIn X2 hcd2) A _ E s k (wpAny_pure q))) rfl X2 hsup hI2 haC (by decide) ?_
    have hu : (h2.push (kxs_mw "ValueError.__init__" a)).get? h2.objs.size = some (kxs_mw "ValueError.__init__" a) := Heap.get?_push_at rfl rfl
    have k3 : ∀ b o, h0.get? b = some o → (h2.push (kxs_mw "ValueError.__init__" a)).get? b = some o := fun b o e => Heap.get?_push_of_some _ (k2 b o e)
    have hle : h0.objs.size ≤ h2.objs.size := Nat.le_of_lt (Heap.lt_size e2)
    have J := ClX.pin_new (t' := s.toks + (ps.zip us).length + 1) (o := kxs_mw "ValueError.__init__" a) I k3 hle hu (fun v e => by cases e)
    refine PySem.W.kxs_callWith (i := "ValueError.__init__") (x := a) ?_ ?_
    · rw [hsa cda cc]
      show (false || (backTo q3 (starEach as _)).any (·.1)) = false
      rw [hpl cda cc]; rfl
    have run := hPA.run q3 _ _ (L2.start N vs) H _ J hq
    have run : wpAny (model P w) (A.deeper (ksEnv qual (defScope st) s.heap.objs.size fI (.ref cda) cc)) (spliced (backTo q3 (starEach (a0 :: as) (ksEnv qual (defScope st) s.heap.objs.size fI (.ref cda) cc)))) _ _ _ := run
    rw [hsa cda cc] at run ⊢
    refine PySem.Calls.evalArgs_plain (wpAny_mono run (fun us2 s2 hap => ?_) fun _ _ z => z)
    obtain ⟨ws, H2, I2, rv, hz, hH2, hq2⟩ := hap
    obtain ⟨t2, ho2⟩ := exo_at I2.hok hH2
    refine ⟨ClX.pin_at I2, ?_⟩
    obtain ⟨hp2, g2, d2, tk2, os2⟩ := s2
    refine mw_call T.oex I2.kIn (ClX.pin_at I2) ho2 (by have := Paired.length rv; rw [sizeLine_eq]; show us2.length ≤ _; omega) fun h3 t3 k4 hx3 => ?_
    have W := I2.write (t' := tk2) (x := a) (e := a) (o := exo a C none) (by rw [hH2]; exact True.intro) (.inl rfl) k4 ⟨_, hx3⟩ (exo_ok hx3)
    have eu : upd H2 a (exo a C none) = H2 := by
      funext b
      by_cases hb : b = a
      · rw [hb, upd_same, hH2]
      · rw [upd_ne hb]
    rw [eu] at W
    exact wpAt_of_wpAny (hPS.run [] _ (L2.start N vs) H2 _ (ClX.unpin W) hq2)
  rw [hb]
  refine ks_wpAt_mono (by rw [hb] at go; exact go) (fun fl s' hs => ?_) fun e s' hs => hs
  have fin : ∀ {σ' : L2.St} {H' : Hp} {v : V} {u : Value}, Inv (cxS CX P w K mg base N qual (defScope st) fI cda cc A outer s H E) [] σ' H' s' → RelV v u → Q v H' → CE outer P w H s Q u s' := fun {σ' H' v u} J rv q => ⟨v, H', J.os, J.bare, J.base, J.hok, rv, q⟩
  cases fl with
  | ret u =>
    obtain ⟨v, σ', H', J, rv, q⟩ := hs
    exact fin J rv q
  | next =>
    obtain ⟨σ', H', J, q⟩ := hs
    exact fin (v := V.non) (u := Value.none) J rfl q
  | brk =>
    obtain ⟨_, _, _, q⟩ := hs
    exact False.elim q
  | cont =>
    obtain ⟨_, _, _, q⟩ := hs
    exact False.elim q
end G

/-! own exceptions: promises of their __init__, what raising them asks, what an except suite reads of them -/
namespace G
open PySem PySem.Spec PyProof.Rows L2
/-! ### __init__ -/
/-- self.f = v (an int) -/
def spI1 (C : Addr) (f : Str) : Sp := fun vs H Q _ => ∃ (a : Addr) (v : Int), vs = [.ref a, .int v] ∧ v.natAbs.log2 < 1920 ∧ H a = some (exo a C none) ∧
  ∀ dx, H dx = none → dx ≠ a → Q .non (upd (upd H dx (exd dx [(f, .int v)])) a (exo a C (some dx)))
/-- self.f = v, self.g = w -/
def spI2 (C : Addr) (f g : Str) (ok : V → V → Prop) : Sp := fun vs H Q _ => ∃ (a : Addr) (v w : V), vs = [.ref a, v, w] ∧ ok v w ∧ H a = some (exo a C none) ∧
  ∀ dx, H dx = none → dx ≠ a → Q .non (upd (upd (upd H dx (exd dx [(f, v)])) a (exo a C (some dx))) dx (exd dx [(g, w), (f, v)]))
/-- raise C(v) -/
theorem raise1 {C : Addr} {f : Str} {v : Int} {H : Hp} {Q : XK} (hv : v.natAbs.log2 < 1920) (q : ∀ d, H d = none → Q (.ref C) (some d) (upd H d (.xd [(f, .int v)]))) :
    ([V.int v] : List V).length ≤ 1000 ∧ ∀ a, H a = none → spI1 C f (.ref a :: ([V.int v] ++ [])) (upd H a (exo a C none))
      (fun u H2 => u = .non ∧ ∃ (d : Addr) (fs : List (Str × V)), H2 a = some (exo a C (some d)) ∧ H2 d = some (exd d fs) ∧ H d = none ∧ Q (.ref C) (some d) (upd (del H2 a) d (.xd fs))) (fun _ _ _ => False) := by
  refine ⟨by simp, fun a ha => ⟨a, v, rfl, hv, upd_same, fun dx hd hne => ?_⟩⟩
  rw [upd_ne hne] at hd
  refine ⟨rfl, dx, [(f, .int v)], upd_same, ?_, hd, ?_⟩
  · rw [upd_ne hne, upd_same]
  · have e : upd (del (upd (upd (upd H a (exo a C none)) dx (exd dx [(f, .int v)])) a (exo a C (some dx))) a) dx (.xd [(f, .int v)]) = upd H dx (.xd [(f, .int v)]) := by
      funext b
      by_cases h1 : b = dx
      · subst h1; rw [upd_same, upd_same]
      · rw [upd_ne h1, upd_ne h1]
        by_cases h2 : b = a
        · subst h2; rw [del_same, ha]
        · rw [del_ne h2, upd_ne h2, upd_ne h1, upd_ne h2]
    rw [e]
    exact q dx hd
/-- raise C(v, w) -/
theorem raise2 {C : Addr} {f g : Str} {ok : V → V → Prop} {v w : V} {H : Hp} {Q : XK} (hv : ok v w)
    (q : ∀ d, H d = none → Q (.ref C) (some d) (upd H d (.xd [(g, w), (f, v)]))) :
    ([v, w] : List V).length ≤ 1000 ∧ ∀ a, H a = none → spI2 C f g ok (.ref a :: ([v, w] ++ [])) (upd H a (exo a C none))
      (fun u H2 => u = .non ∧ ∃ (d : Addr) (fs : List (Str × V)), H2 a = some (exo a C (some d)) ∧ H2 d = some (exd d fs) ∧ H d = none ∧ Q (.ref C) (some d) (upd (del H2 a) d (.xd fs))) (fun _ _ _ => False) := by
  refine ⟨by simp, fun a ha => ⟨a, v, w, rfl, hv, upd_same, fun dx hd hne => ?_⟩⟩
  rw [upd_ne hne] at hd
  refine ⟨rfl, dx, [(g, w), (f, v)], ?_, upd_same, hd, ?_⟩
  · rw [upd_ne (Ne.symm hne), upd_same]
  · have e : upd (del (upd (upd (upd (upd H a (exo a C none)) dx (exd dx [(f, v)])) a (exo a C (some dx))) dx (exd dx [(g, w), (f, v)])) a) dx (.xd [(g, w), (f, v)]) = upd H dx (.xd [(g, w), (f, v)]) := by
      funext b
      by_cases h1 : b = dx
      · subst h1; rw [upd_same, upd_same]
      · rw [upd_ne h1, upd_ne h1]
        by_cases h2 : b = a
        · subst h2; rw [del_same, ha]
        · rw [del_ne h2, upd_ne h1, upd_ne h2, upd_ne h1, upd_ne h2]
    rw [e]
    exact q dx hd
theorem len_app (a b : Str) : (a ++ b).length = a.length + b.length := Str.length_append a b
theorem len_toString {v : Int} (h : v.natAbs.log2 < 1920) : (toString v : Str).length ≤ 1921 := int_text_len_1921 h
/-! ### what an except suite reads -/
section
variable {X : Cx} {a : Addr} {oe : Obj} {pn : List (Addr × Obj)} {cls : Value} {d : Option Addr} {e : Expr} {te : TE} {pos : Pos} {n : Str}
/-- e.n -/
def tXfA (K : PySem.W.Frag) (a : Addr) (cls : Value) (d : Option Addr) (n : Str) (te : TE) : TE := fun σ H Q => te σ H fun x H1 => x = .ref a ∧ ∃ (C dd : Addr) (fs : List (Str × V)) (v : V), cls = .ref C ∧ XfC K C ∧ PySem.W.findIn K (.ref C) n = some none ∧
  d = some dd ∧ H1 dd = some (.xd fs) ∧ fs.lookup n = some v ∧ Q v H1
theorem pe_xfA (hz : Zc cls d oe) (hf : ∃ vs, oe.data = .fields vs) (he : PE (X.suite a ((a, oe) :: pn)) e te) (hb : attributeBase e n X.env (eval e X.env) = eval e X.env := by rfl) :
    PE (X.suite a ((a, oe) :: pn)) (.Attribute e n pos) (tXfA X.K a cls d n te) := by
  refine ⟨fun pins s σ H Q I h => attr_of hb (thn (he.run pins s σ H _ I h) fun u s1 hh => ?_)⟩
  obtain ⟨x, H1, I1, rx, rfl, C, dd, fs, v, rfl, T, hno, rfl, ea, l, q⟩ := hh
  obtain rfl : u = Value.ref a := rx
  obtain ⟨vs, hd⟩ := hf
  obtain ⟨mA, hns, hr⟩ := (show ObjOk X.prog X.w H1 s1.heap dd (.xd fs) from I1.hok dd _ ea)
  obtain ⟨od, ho, hl⟩ := lookIn_ns hns
  obtain ⟨u', hu, ru⟩ := RelO.some_of (v := v) (o := mA n) (by rw [← l]; exact hr n)
  have J : PySem.W.InstAt s1.heap a oe C (some od) := ⟨(I1.pin (a, oe) (List.mem_append_left _ List.mem_cons_self)).1, hz.1, by unfold PySem.W.notCls; rw [hd], by rw [hz.2]; exact ho⟩
  exact HandSPX.exc_get I1.kIn J T.ga T.gg T.exC (PySem.W.findObj_own T.hdC hno rfl (by rw [hl, hu])) (handed_of ru) ⟨v, H1, I1.tok _, ru, q⟩
/-- isinstance(e, c) -/
def rIsX (K : PySem.W.Frag) (a : Addr) (cls : Value) (d : Option Addr) : List V → Hp → VK → Prop := fun xs H Q => ∃ (D dd : Addr) (fs : List (Str × V)) (c : V) (cv : Value) (b : Bool), cls = .ref D ∧ ExcC K D ∧ d = some dd ∧ H dd = some (.xd fs) ∧ xs = [.ref a, c] ∧
  (∀ u, RelV c u → u = cv) ∧ PySem.W.kitOne K (.ref D) cv = some b ∧ Q (.bl b) H
theorem call_isX (hz : Zc cls d oe) (hf : ∃ vs, oe.data = .fields vs) : CallR (X.suite a ((a, oe) :: pn)) (.builtin "isinstance") (rIsX X.K a cls d) := by
  intro pins s σ H xs us Q I r h
  obtain ⟨D, dd, fs, c, cv, b, rfl, C, rfl, hdd, rfl, hcv, e, q⟩ := h
  obtain ⟨u1, u2, rfl, r1, r2⟩ := vals2 r
  have e1 : u1 = .ref a := r1
  have e2 := hcv _ r2
  subst e1 e2
  obtain ⟨vs, hv⟩ := hf
  obtain ⟨mA, hns, hr⟩ := (show ObjOk X.prog X.w H s.heap dd (.xd fs) from I.hok dd _ hdd)
  obtain ⟨od, ho, _⟩ := lookIn_ns hns
  have J : PySem.W.InstAt s.heap a oe D (some od) := ⟨(I.pin (a, oe) (List.mem_append.mpr (.inl List.mem_cons_self))).1, hz.1, by unfold PySem.W.notCls; rw [hv], by rw [hz.2]; exact ho⟩
  have hcl : (PySem.W.clsIn X.K D).isSome = true := by obtain ⟨cd, hc, _⟩ := PySem.W.any_some C.hd; rw [hc]; rfl
  exact PySem.W.kia_one (PySem.W.kitx_exc hcl C.hg C.hk C.hs C.ha C.hn C.ht C.hm) I.kIn J e (fun z => nomatch z) fun tk => ⟨.bl b, H, I.kept (t' := tk) fun _ _ z => z, rfl, q⟩
end
/-! ### facts of classes -/
theorem kit_own {K : PySem.W.Frag} {D C : Addr} {b : Bool} (h1 : PySem.W.isClsIn K C = true) (h2 : PySem.W.typeIn K (.ref C) = some (.type "type")) (h3 : PySem.W.subIn K (.ref D) (.ref C) = some b) (h4 : PySem.W.subIn K (.ref C) (.ref C) = some true) : PySem.W.kitOne K (.ref D) (.ref C) = some b := by
  unfold PySem.W.kitOne PySem.W.kitCls
  by_cases e : D = C
  · subst e
    rw [h3] at h4
    cases h4
    simp
  · have e1 : ((Value.ref D) == (Value.ref C)) = false := by simpa using e
    have e2 : ((PySem.W.clsIn K C).isSome && PySem.W.typeIn K (.ref C) == some (.type "type")) = true := by
      have h1' : (PySem.W.clsIn K C).isSome = true := h1
      rw [h1', h2]; rfl
    rw [e1]
    dsimp only
    rw [e2]
    simpa using h3
theorem kit_bi {K : PySem.W.Frag} {D : Addr} {T : String} {b : Bool} (h1 : PySem.W.kitMeta T = true) (h3 : PySem.W.subIn K (.ref D) (.type T) = some b) : PySem.W.kitOne K (.ref D) (.type T) = some b := by
  unfold PySem.W.kitOne PySem.W.kitCls
  have e1 : ((Value.ref D) == (Value.type T)) = false := by simp
  rw [e1]
  dsimp only
  rw [h1]
  simpa using h3
theorem exm_own {K : PySem.W.Frag} {D C : Addr} {b : Bool} (h1 : PySem.W.isClsIn K C = true) (h2 : PySem.W.typeIn K (.ref C) = some (.type "type")) (h3 : PySem.W.subIn K (.ref D) (.ref C) = some b) (h5 : PySem.W.subIn K (.ref C) (.type "BaseException") = some true) : PySem.W.exmOne K (.ref D) (.ref C) = some b := by
  unfold PySem.W.exmOne PySem.W.kitCls
  have e2 : ((PySem.W.clsIn K C).isSome && PySem.W.typeIn K (.ref C) == some (.type "type")) = true := by
    have h1' : (PySem.W.clsIn K C).isSome = true := h1
    rw [h1', h2]; rfl
  dsimp only
  rw [h5, e2]
  simpa using h3
/-- super() within C's methods finds what the base finds -/
theorem sup_of {K : PySem.W.Frag} {C B : Addr} {nm q nm' q' : Str} {N N' : Addr} {bs bm bs' sn sn' : List _} {hd hd' : Bool} {sub sub' : List Value} {ab ab' : Bool} {col col' : Option Bool} {dd dd' : Option Addr} {k0 k1 k2 k3 k5 k0' k1' k2' k3' k5' : Option Value} {newId newId' : String} {name : Str} {r : Option (Option Value)}
    (hC : K.lookup C = some (excClassObj nm q C N bs (.ref B :: bm) hd sn sub ab col dd k0 k1 k2 k3 k5 newId)) (hB : K.lookup B = some (excClassObj nm' q' B N' bs' bm hd' sn' sub' ab' col' dd' k0' k1' k2' k3' k5' newId'))
    (hf : PySem.W.findIn K (.ref B) name = r) : PySem.W.ks_superIn K C C name = r := by
  unfold PySem.W.ks_superIn
  have hc : PySem.W.clsIn K C = some { name := nm, bases := bs, mro := .ref C :: .ref B :: bm, ns := N, qualname := q, hasDict := hd, slotNames := sn, subclasses := sub, abstract := ab, collection := col, hasDel := false } := by
    unfold PySem.W.clsIn; rw [hC]
  rw [hc]
  unfold PySem.W.findIn at hf
  dsimp only at hf
  rw [hB] at hf
  show PySem.W.alongIn K name (((Value.ref C :: .ref B :: bm).dropWhile (· != .ref C)).drop 1) = r
  rw [show ((Value.ref C :: .ref B :: bm).dropWhile (· != .ref C)).drop 1 = .ref B :: bm by simp]
  exact hf
end G
namespace G
open PySem PySem.Spec PyProof.Rows L2
/-- the address of the module's class x -/
def clsA (K : PySem.W.Frag) (x : Str) : Addr := match PySem.W.nsIn K mainGlobals x with
  | some (some (.ref c)) => c
  | _ => 0
theorem clsA_of {K : PySem.W.Frag} {x : Str} {c : Addr} (h : PySem.W.nsIn K mainGlobals x = some (some (.ref c))) : clsA K x = c := by unfold clsA; rw [h]
/-- an exception class of the family -/
structure ExF (K : PySem.W.Frag) (mg : Str → Option Value) (x : Str) : Prop where
  g : mg x = some (.ref (clsA K x))
  xf : XfC K (clsA K x)
  exc : ExcC K (clsA K x)
  isC : PySem.W.isClsIn K (clsA K x) = true
  ty : PySem.W.typeIn K (.ref (clsA K x)) = some (.type "type")
  bus : PySem.W.subIn K (.ref (clsA K x)) (.ref (clsA K "BusError")) = some true
  val : PySem.W.subIn K (.ref (clsA K x)) (.type "ValueError") = some true
  slf : PySem.W.subIn K (.ref (clsA K x)) (.ref (clsA K x)) = some true
theorem ExF.exm {K : PySem.W.Frag} {mg : Str → Option Value} {x : Str} (T : ExF K mg x) (B : ExF K mg "BusError") : PySem.W.exmOne K (.ref (clsA K x)) (.ref (clsA K "BusError")) = some true := exm_own B.isC B.ty T.bus B.exc.hs
theorem ExF.kit {K : PySem.W.Frag} {mg : Str → Option Value} {x y : Str} {b : Bool} (Y : ExF K mg y) (h : PySem.W.subIn K (.ref (clsA K x)) (.ref (clsA K y)) = some b) : PySem.W.kitOne K (.ref (clsA K x)) (.ref (clsA K y)) = some b := kit_own Y.isC Y.ty h Y.slf
theorem ExF.kitS {K : PySem.W.Frag} {mg : Str → Option Value} {x : Str} (T : ExF K mg x) : PySem.W.kitOne K (.ref (clsA K x)) (.ref (clsA K x)) = some true := T.kit T.slf
theorem ExF.kitV {K : PySem.W.Frag} {mg : Str → Option Value} {x : Str} (T : ExF K mg x) : PySem.W.kitOne K (.ref (clsA K x)) (.type "ValueError") = some true := kit_bi (by decide +kernel) T.val
/-- a class that may be raised, its __init__ keeping sp -/
structure ExD (P : Program) (w : World) (K : PySem.W.Frag) (mg : Str → Option Value) (base : Heap) (x : Str) (k : Nat) (sp : Sp) : Prop where
  oex : OexC K (clsA K x)
  g : mg x = some (.ref (clsA K x))
  ini : ∃ (fI : Addr) (fd : FuncData) (ps : List Str), PySem.W.findIn K (.ref (clsA K x)) "__init__" = some (some (.ref fI)) ∧ PySem.W.typeIn K (.ref fI) = some (.type "function") ∧ FnOk P w K mg base CX0 k fI fd ps sp ∧ Binds K fd ps []
section
variable {X : Cx} {k : Nat} {x : Str} {ps : List Str} {sp : Sp} {e : Expr} {es : List Expr} {ta : TA} {p pos : Pos}
theorem pmk_D (D : ExD X.prog X.w X.K X.mg X.base x k sp) (hr : Room (k + 1) X.A) (ha : PA X (e :: es) ta) (hg : Gl X x := by rfl)
    (hdb : (x == ("__debug__" : Str)) = false := by decide) (he : starEach (e :: es) X.env = (false, eval e X.env) :: starEach es X.env := by rfl) (hpl : (backTo pos (starEach es X.env)).any (·.1) = false := by rfl) :
    PMk X (.Call (.Name x p) (e :: es) [] pos) (tMkO (clsA X.K x) sp [] ta) := by
  obtain ⟨fI, fd, ps, iC, tI, F, b⟩ := D.ini
  exact pmk_oex D.oex iC tI F hr b .nil pass0 hg D.g ha hdb he hpl
theorem pe_callDS {CX : CXT} {E : L2.St → XK} (D : Dn X.prog X.w X.K X.mg X.base CX x k ps sp) (hr : Room k X.A) (hx : ∀ σ, PassesAt CX X σ (E σ)) (ha : PA X (e :: es) ta) (hg : Gl X x := by rfl)
    (hdb : (x == ("__debug__" : Str)) = false := by decide) (he : starEach (e :: es) X.env = (false, eval e X.env) :: starEach es X.env := by rfl) (hpl : (backTo pos (starEach es X.env)).any (·.1) = false := by rfl) :
    PE X (.Call (.Name x p) (e :: es) [] pos) (tCallS sp E ta) := by
  obtain ⟨f, fd, F, hm, hk, hb⟩ := D.ex
  exact pe_callS F hr hg hm hk hb hx ha hdb he hpl
end
section
variable {P : Program} {w : World} {K : PySem.W.Frag} {mg : Str → Option Value} {base : Heap}
theorem dn_ofX {x : Str} {st : Stmt} {N ps : List Str} {k : Nat} {sp : Sp} (g : Fg K mg x st) (S : FnScope N ps (defScope st)) (len : ∀ vs H Q E, sp vs H Q E → vs.length = ps.length)
    (hb : ∀ (kV doc pm : Value) (an : Option Addr) (cdv ct : Value) (us : List Value), us.length = ps.length → bindArgs (PySem.W.fnOf x x (defArgs st) (defBody st) (defScope st) .none kV doc pm an cdv ct) ⟨us, []⟩ = pure (ps.zip us))
    (hbody : ∀ (f : Addr) (cdv : Value) (A : Around) (outer : List Env) (s : Shared) (H : Hp) (vs : List V) (Q : VK) (E : XK), Room k (A.deeper (envOfC x (defScope st) s.heap.objs.size f cdv)) → sp vs H Q E →
      ∃ t, PSs (cxOf (L2.CX P w) P w K mg base N x (defScope st) f cdv A outer s H E) (defBody st) t ∧ t { nx := fun _ H' => Q .non H', rt := Q } (L2.start N vs) H) :
    Dn P w K mg base (L2.CX P w) x (k + 1) ps sp := by
  obtain ⟨f, fd, F, hm⟩ := g.ex
  exact ⟨f, fd, F.okX S len (hbody f), hm, F.kp, F.binds hb⟩
end
def okTM (v w : V) : Prop := ∃ (s : Str) (n : Int), v = .str s ∧ w = .int n ∧ s.length ≤ 10000 ∧ n.natAbs.log2 < 1920
def okII (v w : V) : Prop := ∃ (m n : Int), v = .int m ∧ w = .int n ∧ m.natAbs.log2 < 1920 ∧ n.natAbs.log2 < 1920
theorem log2_small {n : Nat} (h : n < 2 ^ 1000) : ((n : Int)).natAbs.log2 < 1920 := by
  rw [Int.natAbs_natCast]
  by_cases h0 : n = 0
  · subst h0; decide
  · have := (Nat.log2_lt h0).mpr h
    omega
end G

/-! own classes: making an instance, its methods, constants of the class, `in` by an own __contains__; what is raised is wished for at the caller's slots -/
namespace G
open PySem PySem.Spec PyProof.Rows L2
theorem atAll {CX : CXT} {X : Cx} {E : XK} (h : Passes CX X E) : ∀ σ, PassesAt CX X σ ((fun _ => E) σ) := fun σ pins H s e s' => h pins σ H s e s'
/-- o.m(e, ..) -/
def tMethS (C : Addr) (m : Str) (sp : Sp) (E : L2.St → XK) (ta : TE) (t : TA) : TE := fun σ H Q => ta σ H fun x H1 => ∃ a dx fs, x = .ref a ∧ H1 a = some (.ins C dx fs) ∧ fs.lookup m = none ∧ t σ H1 fun vs H2 => sp (x :: vs) H2 Q (E σ)
/-- C(e, ..) -/
def tMakeS (C : Addr) (sp : Sp) (dvs : List V) (E : L2.St → XK) (t : TA) : TE := fun σ H Q => t σ H fun vs H1 => ∀ x dx, H1 x = none → H1 dx = none → dx ≠ x →
  sp (.ref x :: (vs ++ dvs)) (upd (upd H1 dx (.own x)) x (.ins C dx [])) (fun v H2 => v = .non ∧ Q (.ref x) H2) (E σ)
section
variable {X : Cx} {CX : CXT} {k : Nat} {f C : Addr} {fd : FuncData} {ps : List Str} {sp : Sp} {dvs : List V} {ds : List Value} {E : L2.St → XK} {x m : Str} {p pos apos : Pos} {e o : Expr} {es : List Expr} {ta tb : TE} {t : TA}
theorem pe_methS {pl : Sem Bool} (he : PE X o ta) (c : Cls X.K C) (hm : Meth X.K C m f) (F : FnOk X.prog X.w X.K X.mg X.base CX k f fd ps sp) (hr : Room k X.A) (hb : Binds X.K fd ps []) (hx : ∀ σ, PassesAt CX X σ (E σ)) (ha : PA X (e :: es) t)
    (hst : starEach (e :: es) X.env = (false, eval e X.env) :: starEach es X.env := by rfl) (hpl : (backTo pos (starEach es X.env)).any (·.1) = false := by rfl)
    (ht : eval (.Call (.Attribute o m apos) (e :: es) [] pos) X.env = (do
      let ov ← eval o X.env
      standAt apos.atName
      let (f, first) ← holding [ov] (getMethod ov m pl)
      callWith pos f first (backTo pos (starEach (e :: es) X.env)) (backToKw pos (keywordEach [] X.env))) := by rfl) :
    PE X (.Call (.Attribute o m apos) (e :: es) [] pos) (tMethS C m sp E ta t) := by
  refine ⟨fun pins s σ H Q I h => PySem.W.methodCall_KW (pl := pl) (thn (he.run pins s σ H _ I h) fun u s1 ⟨y, H1, I1, rx, a, dx, fs, ex, ea, l, q⟩ => ?_) ht⟩
  subst ex
  cases rx
  exact getmeth_ok I1 ea c hm l (PySem.W.callWith_K (first := [.ref a]) (h₀ := X.base) I.ok.mod.kin hm.kp (thn (ha.run pos pins s1 σ H1 _ I1 q) fun us s2 ⟨vs, H2, I2, r, q2⟩ => ⟨I2.kIn, run_fnS (us := .ref a :: us) (vs := .ref a :: vs) F hr hb (hx σ) I2 (.cons rfl r) q2⟩) hst hpl)
theorem pe_methS0 {pl : Sem Bool} (he : PE X o ta) (c : Cls X.K C) (hm : Meth X.K C m f) (F : FnOk X.prog X.w X.K X.mg X.base CX k f fd ps sp) (hr : Room k X.A) (hb : Binds X.K fd ps []) (hx : ∀ σ, PassesAt CX X σ (E σ))
    (ht : eval (.Call (.Attribute o m apos) [] [] pos) X.env = (do
      let ov ← eval o X.env
      standAt apos.atName
      let (f, first) ← holding [ov] (getMethod ov m pl)
      callWith pos f first (backTo pos (starEach [] X.env)) (backToKw pos (keywordEach [] X.env))) := by rfl) :
    PE X (.Call (.Attribute o m apos) [] [] pos) (tMethS C m sp E ta tNil) := by
  refine ⟨fun pins s σ H Q I h => PySem.W.methodCall_KW (pl := pl) (thn (he.run pins s σ H _ I h) fun u s1 ⟨y, H1, I1, rx, a, dx, fs, ex, ea, l, q⟩ => ?_) ht⟩
  subst ex
  cases rx
  exact getmeth_ok I1 ea c hm l (PySem.W.callWith_K0 (first := [.ref a]) I1.kIn hm.kp (run_fnS (us := [.ref a]) (vs := [.ref a]) F hr hb (hx σ) I1 (.cons rfl .nil) q))
theorem run_makeS {pins : List (Addr × Obj)} {σ : L2.St} {H : Hp} {s : Shared} {Q : VK} {us : List Value} {vs : List V} (M : Mk X.K C f) (F : FnOk X.prog X.w X.K X.mg X.base CX k f fd ps sp) (hr : Room (k + 1) X.A) (hb : Binds X.K fd ps ds) (hd : Vals dvs ds)
    (hx : PassesAt CX X σ (E σ)) (I : Inv X pins σ H s) (r : Vals vs us)
    (h : ∀ x dx, H x = none → H dx = none → dx ≠ x → sp (.ref x :: (vs ++ dvs)) (upd (upd H dx (.own x)) x (.ins C dx [])) (fun v H2 => v = .non ∧ Q (.ref x) H2) (E σ)) :
    wpAny (model X.prog X.w) X.A (call (.ref C) us) (EP X pins σ Q) X.xe s := by
  have q0 := h (s.heap.objs.size + 1) s.heap.objs.size (I.hok.fresh (Nat.le_succ _)) (I.hok.fresh (Nat.le_refl _)) (Nat.ne_of_lt (Nat.lt_succ_self _))
  have J := Inv.made (C := C) I
  have rr : Vals (V.ref (s.heap.objs.size + 1) :: (vs ++ dvs)) (Value.ref (s.heap.objs.size + 1) :: (us ++ ds)) := .cons rfl (r.append hd)
  have hl : (Value.ref (s.heap.objs.size + 1) :: us ++ ds).length = ps.length := (rr.length.symm.trans (F.len _ _ _ _ q0))
  refine wpAny_call (make_map (f := f) I.kIn M.makes M.init (beq_iff_eq.mp M.fn) (codeAny_mono (F.run _ X.stack _ _ ⟨Value.ref (s.heap.objs.size + 1) :: us, []⟩ (Value.ref (s.heap.objs.size + 1) :: (us ++ ds)) _ _ (E σ) (hr.make C us []) (J.env0.make C us []) (hb _ (Value.ref (s.heap.objs.size + 1) :: us) J.kIn hl) rr q0) fun z s' hz => ?_))
  cases z with
  | error e => exact hx pins _ _ e s' J hz
  | ok fl =>
    cases fl with
    | ret u =>
      obtain ⟨v, H', I3, rv, ev, q3⟩ := J.after hz
      subst ev
      exact ⟨rv, ⟨V.ref (s.heap.objs.size + 1), H', I3, rfl, q3⟩⟩
    | next => exact hz.elim
    | brk => exact hz.elim
    | cont => exact hz.elim
theorem pe_makeS (M : Mk X.K C f) (F : FnOk X.prog X.w X.K X.mg X.base CX k f fd ps sp) (hr : Room (k + 1) X.A) (hg : Gl X x) (hm : X.mg x = some (.ref C)) (hb : Binds X.K fd ps ds) (hd : Vals dvs ds) (hx : ∀ σ, PassesAt CX X σ (E σ))
    (ha : PA X (e :: es) t) (hdb : (x == ("__debug__" : Str)) = false := by decide) (he : starEach (e :: es) X.env = (false, eval e X.env) :: starEach es X.env := by rfl) (hpl : (backTo pos (starEach es X.env)).any (·.1) = false := by rfl) :
    PE X (.Call (.Name x p) (e :: es) [] pos) (tMakeS C sp dvs E t) :=
  ⟨fun pins s σ H Q I h => wpAny_Call_Name_kw (ld_glob I hg hm (PySem.W.callWith_K (h₀ := X.base) I.ok.mod.kin M.kp (thn (ha.run pos pins s σ H _ I h) fun us s1 ⟨vs, H1, I1, r, q⟩ => ⟨I1.kIn, run_makeS M F hr hb hd (hx σ) I1 r q⟩) he hpl) hdb)⟩
/-! ### x in o, o with an own __contains__ -/
def tInS (C : Addr) (sp : Sp) (E : L2.St → XK) (tx to : TE) : TE := fun σ H Q => tx σ H fun v H1 => to σ H1 fun x H2 => ∃ a dx fs, x = .ref a ∧ H2 a = some (.ins C dx fs) ∧ sp [x, v] H2 (fun r H3 => ∃ b, r = .bl b ∧ Q (.bl b) H3) (E σ)
theorem pc_inS (hi : PE X e ta) (ho : PE X o tb) (hm : Meth X.K C "__contains__" f) (F : FnOk X.prog X.w X.K X.mg X.base CX k f fd ps sp) (hr : Room k X.A) (hb : Binds X.K fd ps []) (hx : ∀ σ, PassesAt CX X σ (E σ)) : PC X .In e o (tInS C sp E ta tb) := by
  refine ⟨fun pins s σ H Q I h => thn (hi.run pins s σ H _ I h) fun iv s1 ⟨y, H1, I1, ry, q1⟩ => thn (ho.run pins s1 σ H1 _ I1 q1) fun u s2 ⟨z, H2, I2, rz, a, dx, fs, ez, ea, q2⟩ => ?_⟩
  subst ez
  cases rz
  obtain ⟨mA, O, _, _, _, _⟩ := ins_get I2.hok ea
  obtain ⟨od, J, _⟩ := O.look
  have ty := J.type (M := model X.prog X.w)
  show wpAny _ _ (contains (.ref a) iv >>= fun b => pure (Value.bool b)) _ _ s2
  unfold contains
  refine wpAny_bind (wpAny_holding ?_)
  show wpAny _ _ (specialOf (.ref a) "__contains__" >>= _) _ _ s2
  unfold specialOf
  refine wpAny_bind (wpAny_bind (ty.here ((PySem.W.looks_findIn I2.kIn hm.at_).here ?_)))
  rw [if_neg (by simp)]
  refine wpAny_bind ?_
  unfold callSpecialUnlessNone? specialOf
  refine wpAny_bind (wpAny_bind (ty.here ((PySem.W.looks_findIn I2.kIn hm.at_).here ?_)))
  refine wpAny_holding (wpAny_bind ((PySem.W.bind_fn I2.kIn _ (beq_iff_eq.mp hm.fn)).here ?_))
  dsimp only
  rw [if_neg (by simp)]
  refine wpAny_bind (wpAny_mono (run_fnS (us := [.ref a, iv]) (vs := [.ref a, y]) F hr hb (hx σ) I2 (.cons rfl (.cons ry .nil)) q2) (fun v s3 hv => ?_) fun _ _ z => z)
  obtain ⟨w, H3, I3, rw', b, rfl, q3⟩ := hv
  cases rw'
  refine wpAny_pure ?_
  exact wpAny_truthy_bool (wpAny_pure ⟨.bl b, H3, I3, rfl, q3⟩)
end
/-! ### what a caller needs -/
/-- the class x: made by its __init__, whose promise is sp -/
structure DnI (P : Program) (w : World) (K : PySem.W.Frag) (mg : Str → Option Value) (base : Heap) (CX : CXT) (x : Str) (k : Nat) (dvs : List V) (sp : Sp) : Prop where
  g : mg x = some (.ref (clsA K x))
  ex : ∃ (f : Addr) (fd : FuncData) (ps : List Str) (ds : List Value), FnOk P w K mg base CX k f fd ps sp ∧ Mk K (clsA K x) f ∧ Vals dvs ds ∧ Binds K fd ps ds
/-- the method m of the class x -/
structure DnM (P : Program) (w : World) (K : PySem.W.Frag) (mg : Str → Option Value) (base : Heap) (CX : CXT) (x m : Str) (k : Nat) (ps : List Str) (sp : Sp) : Prop where
  cl : Cls K (clsA K x)
  ex : ∃ (f : Addr) (fd : FuncData), FnOk P w K mg base CX k f fd ps sp ∧ Meth K (clsA K x) m f ∧ Binds K fd ps []
structure FgM (K : PySem.W.Frag) (x m q : Str) (st : Stmt) : Prop where
  cl : Cls K (clsA K x)
  ex : ∃ (f : Addr) (fd : FuncData), Fun K m q st f fd ∧ Meth K (clsA K x) m f
/-- a constant of the class -/
structure CK (K : PySem.W.Frag) (mg : Str → Option Value) (x f : Str) (v : V) : Prop where
  g : mg x = some (.ref (clsA K x))
  ex : ∃ mc u, ClX.CRead K (clsA K x) mc ∧ ClX.CVal K (clsA K x) mc f v u
section
variable {X : Cx} {CX : CXT} {k : Nat} {ps : List Str} {sp : Sp} {dvs : List V} {E : L2.St → XK} {x m : Str} {v : V} {p pos apos : Pos} {e o : Expr} {es : List Expr} {ta tb : TE} {t : TA}
theorem pe_makeD (K : PySem.W.Frag) (D : DnI X.prog X.w X.K X.mg X.base CX x k dvs sp) (hr : Room (k + 1) X.A) (hx : ∀ σ, PassesAt CX X σ (E σ)) (ha : PA X (e :: es) t) (hg : Gl X x := by rfl)
    (hdb : (x == ("__debug__" : Str)) = false := by decide) (he : starEach (e :: es) X.env = (false, eval e X.env) :: starEach es X.env := by rfl) (hpl : (backTo pos (starEach es X.env)).any (·.1) = false := by rfl) (hK : X.K = K := by rfl) :
    PE X (.Call (.Name x p) (e :: es) [] pos) (tMakeS (clsA K x) sp dvs E t) := by
  subst hK
  obtain ⟨f, fd, ps, ds, F, M, hd, hb⟩ := D.ex
  exact pe_makeS M F hr hg D.g hb hd hx ha hdb he hpl
theorem pe_methD (K : PySem.W.Frag) {pl : Sem Bool} (D : DnM X.prog X.w X.K X.mg X.base CX x m k ps sp) (hr : Room k X.A) (hx : ∀ σ, PassesAt CX X σ (E σ)) (he : PE X o ta) (ha : PA X (e :: es) t)
    (hst : starEach (e :: es) X.env = (false, eval e X.env) :: starEach es X.env := by rfl) (hpl : (backTo pos (starEach es X.env)).any (·.1) = false := by rfl)
    (ht : eval (.Call (.Attribute o m apos) (e :: es) [] pos) X.env = (do
      let ov ← eval o X.env
      standAt apos.atName
      let (f, first) ← holding [ov] (getMethod ov m pl)
      callWith pos f first (backTo pos (starEach (e :: es) X.env)) (backToKw pos (keywordEach [] X.env))) := by rfl) (hK : X.K = K := by rfl) :
    PE X (.Call (.Attribute o m apos) (e :: es) [] pos) (tMethS (clsA K x) m sp E ta t) := by
  subst hK
  obtain ⟨f, fd, F, hm, hb⟩ := D.ex
  exact pe_methS he D.cl hm F hr hb hx ha hst hpl ht
theorem pe_methD0 (K : PySem.W.Frag) {pl : Sem Bool} (D : DnM X.prog X.w X.K X.mg X.base CX x m k ps sp) (hr : Room k X.A) (hx : ∀ σ, PassesAt CX X σ (E σ)) (he : PE X o ta)
    (ht : eval (.Call (.Attribute o m apos) [] [] pos) X.env = (do
      let ov ← eval o X.env
      standAt apos.atName
      let (f, first) ← holding [ov] (getMethod ov m pl)
      callWith pos f first (backTo pos (starEach [] X.env)) (backToKw pos (keywordEach [] X.env))) := by rfl) (hK : X.K = K := by rfl) :
    PE X (.Call (.Attribute o m apos) [] [] pos) (tMethS (clsA K x) m sp E ta tNil) := by
  subst hK
  obtain ⟨f, fd, F, hm, hb⟩ := D.ex
  exact pe_methS0 he D.cl hm F hr hb hx ht
theorem pc_inD (K : PySem.W.Frag) (D : DnM X.prog X.w X.K X.mg X.base CX x "__contains__" k ps sp) (hr : Room k X.A) (hx : ∀ σ, PassesAt CX X σ (E σ)) (hi : PE X e ta) (ho : PE X o tb) (hK : X.K = K := by rfl) : PC X .In e o (tInS (clsA K x) sp E ta tb) := by
  subst hK
  obtain ⟨f, fd, F, hm, hb⟩ := D.ex
  exact pc_inS hi ho hm F hr hb hx
theorem pe_ck {f : Str} (h : CK X.K X.mg x f v) (hg : Gl X x := by rfl) (hdb : (x == ("__debug__" : Str)) = false := by decide) : PE X (.Attribute (.Name x p) f pos) (tC v) := by
  obtain ⟨mc, u, r, c⟩ := h.ex
  refine ⟨fun pins s σ H Q I q => (ClX.pe_cval (pe_glob (v := .ref (clsA X.K x)) hg h.g rfl (hd := hdb)) rfl).run pins s σ H Q I ?_⟩
  exact ⟨_, mc, v, u, rfl, r, c, q⟩
end
section
variable {P : Program} {w : World} {K : PySem.W.Frag} {mg : Str → Option Value} {base : Heap}
theorem dnm_of {x m q : Str} {st : Stmt} {N ps : List Str} {k : Nat} {sp : Sp} (g : FgM K x m q st) (S : FnScope N ps (defScope st)) (len : ∀ vs H Q E, sp vs H Q E → vs.length = ps.length)
    (hb : ∀ (kV doc pm : Value) (an : Option Addr) (cdv ct : Value) (us : List Value), us.length = ps.length → bindArgs (PySem.W.fnOf m q (defArgs st) (defBody st) (defScope st) .none kV doc pm an cdv ct) ⟨us, []⟩ = pure (ps.zip us))
    (hbody : ∀ (f : Addr) (cdv : Value) (A : Around) (outer : List Env) (s : Shared) (H : Hp) (vs : List V) (Q : VK) (E : XK), Room k (A.deeper (envOfC q (defScope st) s.heap.objs.size f cdv)) → sp vs H Q E →
      ∃ t, PSs (cxOf CX0 P w K mg base N q (defScope st) f cdv A outer s H E).nox (defBody st) t ∧ t { nx := fun _ H' => Q .non H', rt := Q } (start N vs) H) :
    DnM P w K mg base CX0 x m (k + 1) ps sp := by
  obtain ⟨f, fd, F, hm⟩ := g.ex
  exact ⟨g.cl, f, fd, F.ok S len (hbody f), hm, F.binds hb⟩
theorem dnm_ofX {x m q : Str} {st : Stmt} {N ps : List Str} {k : Nat} {sp : Sp} (g : FgM K x m q st) (S : FnScope N ps (defScope st)) (len : ∀ vs H Q E, sp vs H Q E → vs.length = ps.length)
    (hb : ∀ (kV doc pm : Value) (an : Option Addr) (cdv ct : Value) (us : List Value), us.length = ps.length → bindArgs (PySem.W.fnOf m q (defArgs st) (defBody st) (defScope st) .none kV doc pm an cdv ct) ⟨us, []⟩ = pure (ps.zip us))
    (hbody : ∀ (f : Addr) (cdv : Value) (A : Around) (outer : List Env) (s : Shared) (H : Hp) (vs : List V) (Q : VK) (E : XK), Room k (A.deeper (envOfC q (defScope st) s.heap.objs.size f cdv)) → sp vs H Q E →
      ∃ t, PSs (cxOf (L2.CX P w) P w K mg base N q (defScope st) f cdv A outer s H E) (defBody st) t ∧ t { nx := fun _ H' => Q .non H', rt := Q } (L2.start N vs) H) :
    DnM P w K mg base (L2.CX P w) x m (k + 1) ps sp := by
  obtain ⟨f, fd, F, hm⟩ := g.ex
  exact ⟨g.cl, f, fd, F.okX S len (hbody f), hm, F.binds hb⟩
/-- an __init__ with defaults -/
structure FgI (K : PySem.W.Frag) (mg : Str → Option Value) (x q : Str) (st : Stmt) (dvs : List V) : Prop where
  g : mg x = some (.ref (clsA K x))
  ex : ∃ (f : Addr) (fd : FuncData), FunD K "__init__" q (defArgs st) (defBody st) (defScope st) dvs [] f fd ∧ Mk K (clsA K x) f
/-- how such an __init__ binds: n values written, the defaults behind the first j fill up -/
theorem dni_of {x q : Str} {st : Stmt} {N ps : List Str} {k : Nat} {sp : Sp} {dvs : List V} (g : FgI K mg x q st dvs) (n j : Nat) (hne : dvs ≠ []) (hn : n + (dvs.length - j) = ps.length) (S : FnScope N ps (defScope st)) (len : ∀ vs H Q E, sp vs H Q E → vs.length = ps.length)
    (hb : ∀ (T : Addr) (kV doc pm : Value) (an : Option Addr) (cdv ct : Value) (us its : List Value), us.length = n → its.length = dvs.length →
      ∃ k, bindArgs (PySem.W.fnOf "__init__" q (defArgs st) (defBody st) (defScope st) (.ref T) kV doc pm an cdv ct) ⟨us, []⟩ = seqItems? (.ref T) >>= k ∧ k (some its.toArray) = pure (ps.zip (us ++ its.drop j)))
    (hbody : ∀ (f : Addr) (cdv : Value) (A : Around) (outer : List Env) (s : Shared) (H : Hp) (vs : List V) (Q : VK) (E : XK), Room k (A.deeper (envOfC q (defScope st) s.heap.objs.size f cdv)) → sp vs H Q E →
      ∃ t, PSs (cxOf (L2.CX P w) P w K mg base N q (defScope st) f cdv A outer s H E) (defBody st) t ∧ t { nx := fun _ H' => Q .non H', rt := Q } (L2.start N vs) H) :
    DnI P w K mg base (L2.CX P w) x (k + 1) (dvs.drop j) sp := by
  obtain ⟨f, fd, F, M⟩ := g.ex
  obtain ⟨ds, hd, hb'⟩ := F.binds1 (ps := ps) n j hne hn hb
  exact ⟨g.g, f, fd, ps, ds, F.ok S len (hbody f), M, hd, hb'⟩
theorem dni_of1 {x q : Str} {st : Stmt} {N ps : List Str} {k n : Nat} {sp : Sp} {T0 : Addr} (g : FgI K mg x q st [.ref T0]) (hn : n + 1 = ps.length) (S : FnScope N ps (defScope st)) (len : ∀ vs H Q E, sp vs H Q E → vs.length = ps.length)
    (hb0 : ∀ (T : Addr) (kV doc pm : Value) (an : Option Addr) (cdv ct : Value) (us its : List Value), us.length = n + 1 → its.length = 1 →
      ∃ k, bindArgs (PySem.W.fnOf "__init__" q (defArgs st) (defBody st) (defScope st) (.ref T) kV doc pm an cdv ct) ⟨us, []⟩ = seqItems? (.ref T) >>= k ∧ k (some its.toArray) = pure (ps.zip (us ++ its.drop 1)))
    (hb1 : ∀ (T : Addr) (kV doc pm : Value) (an : Option Addr) (cdv ct : Value) (us its : List Value), us.length = n → its.length = 1 →
      ∃ k, bindArgs (PySem.W.fnOf "__init__" q (defArgs st) (defBody st) (defScope st) (.ref T) kV doc pm an cdv ct) ⟨us, []⟩ = seqItems? (.ref T) >>= k ∧ k (some its.toArray) = pure (ps.zip (us ++ its.drop 0)))
    (hbody : ∀ (f : Addr) (cdv : Value) (A : Around) (outer : List Env) (s : Shared) (H : Hp) (vs : List V) (Q : VK) (E : XK), Room k (A.deeper (envOfC q (defScope st) s.heap.objs.size f cdv)) → sp vs H Q E →
      ∃ t, PSs (cxOf (L2.CX P w) P w K mg base N q (defScope st) f cdv A outer s H E) (defBody st) t ∧ t { nx := fun _ H' => Q .non H', rt := Q } (L2.start N vs) H) :
    DnI P w K mg base (L2.CX P w) x (k + 1) [] sp ∧ DnI P w K mg base (L2.CX P w) x (k + 1) [.ref T0] sp :=
  ⟨dni_of (j := 1) (n := n + 1) g (by simp) (by simpa using hn) S len hb0 hbody, dni_of (j := 0) (n := n) g (by simp) (by simpa using hn) S len hb1 hbody⟩
/-- a class's own address and how its attributes are read -/
structure RcF (K : PySem.W.Frag) (mg : Str → Option Value) (x : Str) : Prop where
  g : mg x = some (.ref (clsA K x))
  cl : Cls K (clsA K x)
end
end G

/-! rules of a bus: limits as data -/
namespace G
open PySem PySem.Spec PyProof.Rows L2
/-! ### the heap without the object at p -/
theorem same_del (H : Hp) (p : Addr) : Same (del H p) H := fun b o e => by
  by_cases h : b = p
  · subst h; rw [del_same] at e; cases e
  · rw [del_ne h] at e; exact e
theorem del_upd (H : Hp) (p : Addr) (o : HO) : del (upd H p o) p = del H p := by
  funext b
  by_cases h : b = p
  · subst h; rw [del_same, del_same]
  · rw [del_ne h, del_ne h, upd_ne h]
theorem del_mono {H H' : Hp} {p : Addr} (s : ∀ b o, b ≠ p → H b = some o → H' b = some o) : Same (del H p) (del H' p) := fun b o e => by
  by_cases h : b = p
  · subst h; rw [del_same] at e; cases e
  · rw [del_ne h] at e ⊢; exact s b o h e
theorem del_same' {H H' : Hp} {p : Addr} (s : Same H H') : Same (del H p) (del H' p) := del_mono fun b o _ e => s b o e
/-- what H knows, where p is new to it -/
theorem same_to_del {H H' : Hp} {p : Addr} (s : Same H H') (h : H p = none) : Same H (del H' p) := fun b o e => by
  rw [del_ne (ne_of_none e h)]; exact s b o e
/-! ### the tuples of a heap: what never changes -/
def tups (H : Hp) : Hp := fun b => match H b with | some (.tup xs) => some (.tup xs) | _ => none
theorem tups_iff {H : Hp} {b : Addr} {o : HO} : tups H b = some o ↔ ∃ xs, H b = some (.tup xs) ∧ o = .tup xs := by
  unfold tups
  constructor
  · intro h
    split at h
    · rename_i xs e; exact ⟨xs, e, (Option.some.inj h).symm⟩
    · cases h
  · rintro ⟨xs, e, rfl⟩
    rw [e]
theorem tups_same (H : Hp) : Same (tups H) H := fun b o e => by
  obtain ⟨xs, h, rfl⟩ := tups_iff.mp e; exact h
theorem tups_mono {H H' : Hp} (s : Same H H') : Same (tups H) (tups H') := fun b o e => by
  obtain ⟨xs, h, rfl⟩ := tups_iff.mp e
  exact tups_iff.mpr ⟨xs, s _ _ h, rfl⟩
theorem tups_lst {H : Hp} {p : Addr} {ys zs : List V} (h : H p = some (.lst ys)) : Same (tups H) (tups (upd H p (.lst zs))) := fun b o e => by
  obtain ⟨xs, hb, rfl⟩ := tups_iff.mp e
  refine tups_iff.mpr ⟨xs, ?_, rfl⟩
  rw [upd_ne]; exact hb
  intro z; subst z; rw [h] at hb; cases hb
theorem tups_at {H : Hp} {p : Addr} {xs : List V} (h : H p = some (.tup xs)) : tups H p = some (.tup xs) := tups_iff.mpr ⟨xs, h, rfl⟩
theorem IsL.snoc {H : Hp} : ∀ {xs : List V} {ds : List Dt} {x : V} {d : Dt}, IsL H xs ds → Is H x d → IsL H (xs ++ [x]) (ds ++ [d])
  | [], [], x, d, _, h => by
    show IsL H [x] [d]
    unfold IsL
    exact ⟨h, by unfold IsL; trivial⟩
  | y :: xs, e :: ds, x, d, h1, h => by
    unfold IsL at h1
    show IsL H (y :: (xs ++ [x])) (e :: (ds ++ [d]))
    unfold IsL
    exact ⟨h1.1, IsL.snoc h1.2 h⟩
  | [], _ :: _, _, _, h1, _ => by unfold IsL at h1; exact h1.elim
  | _ :: _, [], _, _, h1, _ => by unfold IsL at h1; exact h1.elim
theorem isL_nil {H : Hp} : IsL H [] [] := by unfold IsL; trivial
theorem is_tup {H : Hp} {p : Addr} {xs : List V} {ds : List Dt} (h : H p = some (.tup xs)) (hx : IsL H xs ds) : Is H (.ref p) (.tup ds) := by
  unfold Is; exact ⟨p, xs, rfl, h, hx⟩
theorem is_lst {H : Hp} {p : Addr} {xs : List V} {ds : List Dt} (h : H p = some (.lst xs)) (hx : IsL H xs ds) : Is H (.ref p) (.lst ds) := by
  unfold Is; exact ⟨p, xs, rfl, .inl h, hx⟩
/-! ### limits -/
abbrev Lim := Int × List (Int × Int)
def pr (q : Int × Int) : Dt := .tup [.int q.1, .int q.2]
/-- a limit as a rule keeps it -/
def limT (l : Lim) : Dt := .tup [.int l.1, .tup (l.2.map pr)]
def limsD (L : List Lim) : Dt := .tup (L.map limT)
/-- a limit as it is handed in -/
def limL (l : Lim) : Dt := .tup [.int l.1, .lst (l.2.map pr)]
def fitI (n : Int) : Int → List (Int × Int) → Bool
  | _, [] => true
  | b, (w, g) :: r => decide (b < w) && decide (w < n) && decide (1 ≤ g) && decide (g ≤ 1000) && fitI n w r
theorem fitI_cons (n b w g : Int) (r : List (Int × Int)) : fitI n b ((w, g) :: r) = (decide (b < w) && decide (w < n) && decide (1 ≤ g) && decide (g ≤ 1000) && fitI n w r) := rfl
def fits (n : Int) (l : Lim) : Bool := fitI n (-1) l.2 && decide (0 ≤ l.1 ∧ l.1 ≤ 1000000)
/-- limits as they are handed in: lists or tuples -/
def LimIn (K : PySem.W.Frag) (H : Hp) (v : V) (L : List Lim) : Prop := ∃ a xs, v = .ref a ∧ SeqG K H a xs ∧ xs.length = L.length ∧ ∀ (i : Nat) (l : Lim) (x : V), L[i]? = some l → xs[i]? = some x → ∃ e, Is H x (.tup [.int l.1, e]) ∧ SeqD e (l.2.map pr)
theorem LimIn.of {K : PySem.W.Frag} {H : Hp} {v : V} {d : Dt} {f : Lim → Dt} {L : List Lim} (h : Is H v d) (s : SeqD d (L.map fun l => .tup [.int l.1, f l])) (hf : ∀ l ∈ L, SeqD (f l) (l.2.map pr)) : LimIn K H v L := by
  obtain ⟨a, xs, rfl, h1, h2⟩ := h.seq s
  refine ⟨a, xs, rfl, .inl h1, by rw [h2.length, List.length_map], fun i l x hl hx => ?_⟩
  obtain ⟨d, e1, e2⟩ := h2.at_ hx
  rw [List.getElem?_map, hl] at e1
  cases e1
  exact ⟨f l, e2, hf l (List.mem_of_getElem? hl)⟩
theorem LimIn.nil {K : PySem.W.Frag} {H : Hp} {a : Addr} (h : ∀ H, SqT K H a []) : LimIn K H (.ref a) [] := ⟨a, [], rfl, .inr h, rfl, fun i l x hl => by simp at hl⟩
/-- a rule stands at r -/
def RuleAt (K : PySem.W.Frag) (H : Hp) (r : Addr) (n : Nat) (L : List Lim) : Prop := ∃ dx t, H r = some (.ins (clsA K "Rule") dx [("wires", .int n), ("limits", .ref t)]) ∧ Is H (.ref t) (limsD L)
theorem RuleAt.mono {K : PySem.W.Frag} {H H' : Hp} {r : Addr} {n : Nat} {L : List Lim} (s : Same H H') (h : RuleAt K H r n L) : RuleAt K H' r n L := by
  obtain ⟨dx, t, h1, h2⟩ := h
  exact ⟨dx, t, s _ _ h1, h2.mono s⟩
/-! ### what a rule says of a set -/
/-- the sums of the weights -/
def loadI (m : Nat) (its : List (Int × Int)) : Int := (((its.filter fun q => m.testBit q.1.toNat)).map fun q => q.2).sum
def loadsF (L : List Lim) (m : Nat) : List Int := L.map fun l => loadI m l.2
def allowsF (L : List Lim) (m : Nat) : Bool := L.all fun l => decide (loadI m l.2 ≤ l.1)
theorem fitI_mem {n : Int} : ∀ {its : List (Int × Int)} {b : Int}, fitI n b its = true → ∀ q ∈ its, b < q.1 ∧ q.1 < n ∧ 1 ≤ q.2 ∧ q.2 ≤ 1000
  | [], b, _, q, hq => by simp at hq
  | (w, g) :: r, b, h, q, hq => by
    unfold fitI at h
    simp only [Bool.and_eq_true, decide_eq_true_eq] at h
    obtain ⟨⟨⟨⟨h1, h2⟩, h3⟩, h4⟩, h5⟩ := h
    rw [List.mem_cons] at hq
    rcases hq with rfl | hq
    · exact ⟨h1, h2, h3, h4⟩
    · have := fitI_mem h5 q hq
      exact ⟨by omega, this.2.1, this.2.2⟩
/-- limits that fit n wires -/
def Fit (n : Nat) (L : List Lim) : Prop := ∀ l ∈ L, fits n l = true
theorem Fit.items {n : Nat} {L : List Lim} (h : Fit n L) {l : Lim} (hl : l ∈ L) : ∀ q ∈ l.2, 0 ≤ q.1 ∧ q.1 < n ∧ 1 ≤ q.2 ∧ q.2 ≤ 1000 := fun q hq => by
  have := h l hl
  unfold fits at this
  rw [Bool.and_eq_true] at this
  have := fitI_mem this.1 q hq
  omega
theorem Fit.bound {n : Nat} {L : List Lim} (h : Fit n L) {l : Lim} (hl : l ∈ L) : 0 ≤ l.1 ∧ l.1 ≤ 1000000 := by
  have := h l hl
  unfold fits at this
  rw [Bool.and_eq_true, decide_eq_true_eq] at this
  exact this.2
/-- limits that fit, not too many -/
structure Good (n : Nat) (L : List Lim) : Prop where
  n300 : n ≤ 300
  fit : Fit n L
  len : L.length ≤ 1000
  its : ∀ l ∈ L, l.2.length ≤ 1000
theorem lkW (a b : V) : ([("wires", a), ("limits", b)] : List (Str × V)).lookup ("wires" : Str) = some a := rfl
theorem lkL (a b : V) : ([("wires", a), ("limits", b)] : List (Str × V)).lookup ("limits" : Str) = some b := by
  have e : (("limits" : Str) == "wires") = false := by decide +kernel
  unfold List.lookup
  rw [e]; rfl
theorem lkN (a b : V) {m : Str} (h1 : (m == "wires") = false) (h2 : (m == "limits") = false) : ([("wires", a), ("limits", b)] : List (Str × V)).lookup m = none := by
  unfold List.lookup
  rw [h1]
  unfold List.lookup
  rw [h2]; rfl
theorem Is.tup {H : Hp} {v : V} {l : List Dt} (h : Is H v (.tup l)) : ∃ a xs, v = .ref a ∧ H a = some (.tup xs) ∧ IsL H xs l := by unfold Is at h; exact h
def selI (m : Nat) (its : List (Int × Int)) : List Int := (its.filter fun q => m.testBit q.1.toNat).map fun q => q.2
theorem selI_snoc (m : Nat) (its : List (Int × Int)) (q : Int × Int) : selI m (its ++ [q]) = if m.testBit q.1.toNat then selI m its ++ [q.2] else selI m its := by
  unfold selI
  rw [List.filter_append, List.map_append]
  by_cases h : m.testBit q.1.toNat <;> simp [h]
theorem selI_len (m : Nat) (its : List (Int × Int)) : (selI m its).length ≤ its.length := by unfold selI; rw [List.length_map]; exact List.length_filter_le _ _
theorem loadI_cons (m : Nat) (q : Int × Int) (r : List (Int × Int)) : loadI m (q :: r) = (if m.testBit q.1.toNat then q.2 else 0) + loadI m r := by
  unfold loadI
  by_cases h : m.testBit q.1.toNat <;> simp [h]
theorem loadI_mono {m m' : Nat} (hm : ∀ i, m.testBit i = true → m'.testBit i = true) : ∀ {its : List (Int × Int)}, (∀ q ∈ its, 0 ≤ q.2) → loadI m its ≤ loadI m' its
  | [], _ => Int.le_refl _
  | q :: r, h => by
    rw [loadI_cons, loadI_cons]
    have h1 := loadI_mono hm (its := r) fun x hx => h x (List.mem_cons_of_mem _ hx)
    have h2 := h q List.mem_cons_self
    by_cases c : m.testBit q.1.toNat = true
    · rw [if_pos c, if_pos (hm _ c)]; omega
    · rw [if_neg c]
      split <;> omega
theorem loadI_zero (its : List (Int × Int)) : loadI 0 its = 0 := by
  unfold loadI
  have : its.filter (fun q => Nat.testBit 0 q.1.toNat) = [] := by
    rw [List.filter_eq_nil_iff]
    intro q _
    simp
  rw [this]; rfl
theorem allows_down {n : Nat} {L : List Lim} (F : Fit n L) {m m' : Nat} (hm : ∀ i, m.testBit i = true → m'.testBit i = true) (h : allowsF L m' = true) : allowsF L m = true := by
  unfold allowsF at *
  rw [List.all_eq_true] at *
  intro l hl
  have h1 := h l hl
  rw [decide_eq_true_eq] at *
  have h2 := loadI_mono hm (its := l.2) fun q hq => by have := F.items hl q hq; omega
  omega
theorem allows_zero {n : Nat} {L : List Lim} (F : Fit n L) : allowsF L 0 = true := by
  unfold allowsF
  rw [List.all_eq_true]
  intro l hl
  rw [decide_eq_true_eq, loadI_zero]
  exact (F.bound hl).1
/-- the allowed sets of the first i wires -/
def allL (L : List Lim) (i : Nat) : List Nat := (List.range (2 ^ i)).filter fun m => allowsF L m
theorem allL_zero {n : Nat} {L : List Lim} (F : Fit n L) : allL L 0 = [0] := by
  unfold allL
  show ([0] : List Nat).filter (fun m => allowsF L m) = [0]
  rw [List.filter_cons, allows_zero F]; rfl
theorem allL_succ {n : Nat} {L : List Lim} (F : Fit n L) (i : Nat) : allL L (i + 1) = allL L i ++ ((allL L i).map fun m => m ||| 1 <<< i).filter fun m => allowsF L m := by
  unfold allL
  rw [show 2 ^ (i + 1) = 2 ^ i + 2 ^ i by rw [Nat.pow_succ]; omega, List.range_add, List.filter_append, List.filter_map, List.filter_map, List.filter_filter]
  congr 1
  have e : ∀ m ∈ List.range (2 ^ i), 2 ^ i + m = m ||| 1 <<< i := fun m hm => by
    rw [List.mem_range] at hm
    rw [← add_or hm, Nat.one_shiftLeft, Nat.add_comm]
  have e2 : (List.range (2 ^ i)).filter ((fun m => allowsF L m) ∘ fun x => 2 ^ i + x) = (List.range (2 ^ i)).filter (fun a => ((fun m => allowsF L m) ∘ fun m => m ||| 1 <<< i) a && allowsF L a) := by
    apply List.filter_congr
    intro m hm
    show allowsF L (2 ^ i + m) = (allowsF L (m ||| 1 <<< i) && allowsF L m)
    rw [e m hm]
    cases h : allowsF L (m ||| 1 <<< i) with
    | false => rfl
    | true => rw [allows_down F (fun j hj => by rw [Nat.testBit_or, hj]; rfl) h]; rfl
  rw [e2]
  apply List.map_congr_left
  intro m hm
  exact e m (List.mem_filter.mp hm).1
theorem allL_lt {L : List Lim} {i m : Nat} (h : m ∈ allL L i) : m < 2 ^ i := by
  unfold allL at h
  exact List.mem_range.mp (List.mem_filter.mp h).1
theorem allL_len (L : List Lim) (i : Nat) : (allL L i).length ≤ 2 ^ i := by
  unfold allL
  exact Nat.le_trans (List.length_filter_le _ _) (by rw [List.length_range]; exact Nat.le_refl _)
/-! ### the heap without its lists -/
def nl (H : Hp) : Hp := fun b => match H b with | some (.lst _) => none | o => o
theorem nl_iff {H : Hp} {b : Addr} {o : HO} : nl H b = some o ↔ H b = some o ∧ ∀ xs, o ≠ .lst xs := by
  unfold nl
  constructor
  · intro h
    split at h
    · cases h
    · rename_i hn
      exact ⟨h, fun xs z => hn xs (by rw [h, z])⟩
  · rintro ⟨h, hn⟩
    rw [h]
    split
    · rename_i xs e
      exact absurd (Option.some.inj e) (hn xs)
    · rfl
theorem nl_same (H : Hp) : Same (nl H) H := fun b o e => (nl_iff.mp e).1
theorem nl_mono {H H' : Hp} (s : Same H H') : Same (nl H) (nl H') := fun b o e => nl_iff.mpr ⟨s _ _ (nl_iff.mp e).1, (nl_iff.mp e).2⟩
theorem nl_lst {H : Hp} {p : Addr} {ys : List V} {o' : HO} (h : H p = some (.lst ys)) : Same (nl H) (nl (upd H p o')) := fun b o e => by
  obtain ⟨e1, e2⟩ := nl_iff.mp e
  refine nl_iff.mpr ⟨?_, e2⟩
  rw [upd_ne]; exact e1
  intro z; subst z; rw [h] at e1; cases e1; exact e2 _ rfl
theorem nl_pl {p : Addr} {H H' : Hp} (h : PoolAt H p) (l : Pl p H H') : Same (nl H) (nl H') := fun b o e => by
  obtain ⟨e1, e2⟩ := nl_iff.mp e
  refine nl_iff.mpr ⟨l.sb b o (fun z => ?_) e1, e2⟩
  subst z
  obtain ⟨ns, h⟩ := h
  rw [h] at e1; cases e1; exact e2 _ rfl
theorem del_pl {p : Addr} {H H' : Hp} (l : Pl p H H') : Same (del H p) (del H' p) := del_mono l.sb
mutual
/-- no list within -/
def Dt.noL : Dt → Bool
  | .lst _ => false
  | .tup l => noLL l
  | .non => true
  | .bl _ => true
  | .int _ => true
  | .str _ => true
def noLL : List Dt → Bool
  | [] => true
  | d :: l => d.noL && noLL l
end
theorem noLL_map {α : Type} {f : α → Dt} : ∀ {l : List α}, (∀ x ∈ l, (f x).noL = true) → noLL (l.map f) = true
  | [], _ => by show noLL [] = true; unfold noLL; rfl
  | x :: l, h => by
    show noLL (f x :: l.map f) = true
    unfold noLL
    rw [h x List.mem_cons_self, noLL_map fun y hy => h y (List.mem_cons_of_mem _ hy)]; rfl
mutual
theorem Is.nl {H : Hp} : ∀ {d : Dt} {v : V}, d.noL = true → Is H v d → Is (nl H) v d
  | .non, v, _, h => by unfold Is at h ⊢; exact h
  | .bl b, v, _, h => by unfold Is at h ⊢; exact h
  | .int i, v, _, h => by unfold Is at h ⊢; exact h
  | .str s, v, _, h => by unfold Is at h ⊢; exact h
  | .lst l, v, n, h => by unfold Dt.noL at n; cases n
  | .tup l, v, n, h => by
    unfold Dt.noL at n
    unfold Is at h ⊢
    obtain ⟨a, xs, rfl, h1, h2⟩ := h
    exact ⟨a, xs, rfl, nl_iff.mpr ⟨h1, fun ys z => by cases z⟩, IsL.nl n h2⟩
theorem IsL.nl {H : Hp} : ∀ {l : List Dt} {xs : List V}, noLL l = true → IsL H xs l → IsL (nl H) xs l
  | [], [], _, _ => by unfold IsL; trivial
  | d :: l, x :: xs, n, h => by
    unfold noLL at n
    rw [Bool.and_eq_true] at n
    unfold IsL at h ⊢
    exact ⟨Is.nl n.1 h.1, IsL.nl n.2 h.2⟩
  | [], _ :: _, _, h => by unfold IsL at h; exact h.elim
  | _ :: _, [], _, h => by unfold IsL at h; exact h.elim
end
theorem pr_noL (q : Int × Int) : (pr q).noL = true := by simp [pr, Dt.noL, noLL]
theorem limT_noL (l : Lim) : (limT l).noL = true := by
  have e := noLL_map (l := l.2) fun q _ => pr_noL q
  unfold limT
  simp [Dt.noL, noLL, e]
theorem limsD_noL (L : List Lim) : (limsD L).noL = true := by
  unfold limsD Dt.noL
  exact noLL_map fun l _ => limT_noL l
/-- a rule stands whatever lists change -/
theorem RuleAt.nl {K : PySem.W.Frag} {H : Hp} {r : Addr} {n : Nat} {L : List Lim} (h : RuleAt K H r n L) : RuleAt K (nl H) r n L := by
  obtain ⟨dx, t, h1, h2⟩ := h
  exact ⟨dx, t, nl_iff.mpr ⟨h1, fun xs z => by cases z⟩, h2.nl (limsD_noL L)⟩
theorem RuleAt.up {K : PySem.W.Frag} {H : Hp} {r : Addr} {n : Nat} {L : List Lim} (h : RuleAt K (G.nl H) r n L) : RuleAt K H r n L := h.mono (nl_same H)
theorem fitI_snoc {n w g : Int} : ∀ {its : List (Int × Int)} {b : Int}, fitI n b its = true → (∀ q ∈ its, q.1 < w) → b < w → w < n → 1 ≤ g → g ≤ 1000 → fitI n b (its ++ [(w, g)]) = true
  | [], b, _, _, h1, h2, h3, h4 => by
    show fitI n b [(w, g)] = true
    rw [fitI_cons]
    simp [fitI, h1, h2, h3, h4]
  | (w', g') :: r, b, h, hl, h1, h2, h3, h4 => by
    show fitI n b ((w', g') :: (r ++ [(w, g)])) = true
    rw [fitI_cons] at h ⊢
    rw [Bool.and_eq_true] at h ⊢
    exact ⟨h.1, fitI_snoc h.2 (fun q hq => hl q (List.mem_cons_of_mem _ hq)) (hl (w', g') List.mem_cons_self) h2 h3 h4⟩
/-- limits handed in as a list -/
def LimAt (H : Hp) (a : Addr) (L : List Lim) : Prop := ∃ xs, LsAt H a xs ∧ xs.length = L.length ∧ ∀ (i : Nat) (l : Lim) (x : V), L[i]? = some l → xs[i]? = some x → ∃ e, Is H x (.tup [.int l.1, e]) ∧ SeqD e (l.2.map pr)
theorem LimAt.in_ {K : PySem.W.Frag} {H : Hp} {a : Addr} {L : List Lim} (h : LimAt H a L) : LimIn K H (.ref a) L := by
  obtain ⟨xs, h1, h2, h3⟩ := h
  exact ⟨a, xs, rfl, .inl (.inl h1), h2, h3⟩
theorem LimAt.mono {H H' : Hp} {a : Addr} {L : List Lim} (s : Same H H') (h : LimAt H a L) : LimAt H' a L := by
  obtain ⟨xs, h1, h2, h3⟩ := h
  refine ⟨xs, h1.mono s, h2, fun i l x e1 e2 => ?_⟩
  obtain ⟨e, h4, h5⟩ := h3 i l x e1 e2
  exact ⟨e, h4.mono s, h5⟩
theorem LimAt.of {H : Hp} {a : Addr} {f : Lim → Dt} {L : List Lim} (h : Is H (.ref a) (.lst (L.map fun l => .tup [.int l.1, f l]))) (hf : ∀ l ∈ L, SeqD (f l) (l.2.map pr)) : LimAt H a L := by
  unfold Is at h
  obtain ⟨a', xs, e, h1, h2⟩ := h
  cases e
  refine ⟨xs, h1, by rw [h2.length, List.length_map], fun i l x hl hx => ?_⟩
  obtain ⟨d, e1, e2⟩ := h2.at_ hx
  rw [List.getElem?_map, hl] at e1
  cases e1
  exact ⟨f l, e2, hf l (List.mem_of_getElem? hl)⟩
theorem allows_take {L : List Lim} {m i : Nat} {l : Lim} (h : L[i]? = some l) : allowsF (L.take (i + 1)) m = (allowsF (L.take i) m && decide (loadI m l.2 ≤ l.1)) := by
  rw [take_more h]
  unfold allowsF
  rw [List.all_append]; simp
theorem range_step (L : List Lim) (i : Nat) : (List.range (i + 1)).filter (fun m => allowsF L m) = if allowsF L i then (List.range i).filter (fun m => allowsF L m) ++ [i] else (List.range i).filter fun m => allowsF L m := by
  rw [List.range_succ, List.filter_append, List.filter_cons, List.filter_nil]
  split <;> simp
theorem tups_pl {p : Addr} {H H' : Hp} (h : PoolAt H p) (l : Pl p H H') : Same (tups H) (tups H') := fun b o e => by
  obtain ⟨xs, e1, rfl⟩ := tups_iff.mp e
  refine tups_iff.mpr ⟨xs, l.sb b _ (fun z => ?_) e1, rfl⟩
  subst z
  obtain ⟨ns, h⟩ := h
  rw [h] at e1; cases e1
theorem isL1 {H : Hp} {x : V} {a : Dt} (hx : Is H x a) : IsL H [x] [a] := IsL.snoc isL_nil hx
theorem isL2 {H : Hp} {x y : V} {a b : Dt} (hx : Is H x a) (hy : Is H y b) : IsL H [x, y] [a, b] := IsL.snoc (xs := [x]) (ds := [a]) (isL1 hx) hy
theorem isL3 {H : Hp} {x y z : V} {a b c : Dt} (hx : Is H x a) (hy : Is H y b) (hz : Is H z c) : IsL H [x, y, z] [a, b, c] := IsL.snoc (xs := [x, y]) (ds := [a, b]) (isL2 hx hy) hz
theorem isL4 {H : Hp} {x y z w : V} {a b c d : Dt} (hx : Is H x a) (hy : Is H y b) (hz : Is H z c) (hw : Is H w d) : IsL H [x, y, z, w] [a, b, c, d] := IsL.snoc (xs := [x, y, z]) (ds := [a, b, c]) (isL3 hx hy hz) hw
theorem bit_zero (m i : Nat) : decide (V.int ((m >>> i &&& 1 : Nat) : Int) = V.int 0) = !m.testBit i := by
  rw [bit_val]
  cases m.testBit i <;> decide
/-- limits that a list of tuples tells, one by one -/
theorem LimAt.of2 {H : Hp} {a : Addr} {x y : V} {l m : Lim} {d e : Dt} (h : H a = some (.lst [x, y])) (hx : Is H x (.tup [.int l.1, d])) (hd : SeqD d (l.2.map pr)) (hy : Is H y (.tup [.int m.1, e])) (he : SeqD e (m.2.map pr)) : LimAt H a [l, m] := by
  refine ⟨[x, y], .inl h, rfl, fun i k z h1 h2 => ?_⟩
  match i, h1, h2 with
  | 0, h1, h2 => cases h1; cases h2; exact ⟨d, hx, hd⟩
  | 1, h1, h2 => cases h1; cases h2; exact ⟨e, hy, he⟩
  | i + 2, h1, _ => simp at h1
theorem LimAt.of1 {H : Hp} {a : Addr} {x : V} {l : Lim} {d : Dt} (h : H a = some (.lst [x])) (hx : Is H x (.tup [.int l.1, d])) (hd : SeqD d (l.2.map pr)) : LimAt H a [l] := by
  refine ⟨[x], .inl h, rfl, fun i k z h1 h2 => ?_⟩
  match i, h1, h2 with
  | 0, h1, h2 => cases h1; cases h2; exact ⟨d, hx, hd⟩
  | i + 1, h1, _ => simp at h1
theorem LimAt.of0 {H : Hp} {a : Addr} (h : H a = some (.lst [])) : LimAt H a [] := ⟨[], .inl h, rfl, fun i k z h1 => by simp at h1⟩
/-- a rule just made stands, what stood stands -/
theorem made_same {H H' : Hp} {x dx C : Addr} (nx : H x = none) (ndx : H dx = none) (fr : ∀ b o, b ≠ x → (upd (upd H dx (.own x)) x (.ins C dx [])) b = some o → H' b = some o) : Same H H' := fun b o e => by
  refine fr b o (ne_of_none e nx) ?_
  rw [upd_ne (ne_of_none e nx), upd_ne (ne_of_none e ndx)]; exact e
theorem made_new {H : Hp} {x dx C : Addr} (nx : H x = none) (ndx : H dx = none) : Same H (upd (upd H dx (.own x)) x (.ins C dx [])) := fun b o e => by
  rw [upd_ne (ne_of_none e nx), upd_ne (ne_of_none e ndx)]; exact e
theorem Good.of {n : Nat} {L : List Lim} (h : n ≤ 300) (hf : ∀ l ∈ L, fits n l = true ∧ l.2.length ≤ 1000) (hl : L.length ≤ 1000) : Good n L := ⟨h, fun l hm => (hf l hm).1, hl, fun l hm => (hf l hm).2⟩
theorem IsL.of_at {H : Hp} : ∀ {xs : List V} {ds : List Dt}, xs.length = ds.length → (∀ (j : Nat) (x : V) (d : Dt), xs[j]? = some x → ds[j]? = some d → Is H x d) → IsL H xs ds
  | [], [], _, _ => isL_nil
  | x :: xs, d :: ds, hl, h => by
    unfold IsL
    refine ⟨h 0 x d rfl rfl, IsL.of_at (by simpa using hl) fun j y e h1 h2 => h (j + 1) y e (by simpa using h1) (by simpa using h2)⟩
  | [], _ :: _, hl, _ => by simp at hl
  | _ :: _, [], hl, _ => by simp at hl
theorem IsL.app {H : Hp} : ∀ {xs ys : List V} {ds es : List Dt}, IsL H xs ds → IsL H ys es → IsL H (xs ++ ys) (ds ++ es)
  | [], _, [], _, _, h => h
  | x :: xs, ys, d :: ds, es, h1, h => by
    unfold IsL at h1
    show IsL H (x :: (xs ++ ys)) (d :: (ds ++ es))
    unfold IsL
    exact ⟨h1.1, IsL.app h1.2 h⟩
  | [], _, _ :: _, _, h1, _ => by unfold IsL at h1; exact h1.elim
  | _ :: _, _, [], _, h1, _ => by unfold IsL at h1; exact h1.elim
theorem IsL.takeN {H : Hp} {xs : List V} {ds : List Dt} (h : IsL H xs ds) (n : Nat) : IsL H (xs.take n) (ds.take n) := by
  refine IsL.of_at (by rw [List.length_take, List.length_take, h.length]) fun j x d h1 h2 => ?_
  rw [List.getElem?_take] at h1 h2
  split at h1
  · rename_i c
    rw [if_pos c] at h2
    obtain ⟨e, h3, h4⟩ := h.at_ h1
    rw [h2] at h3; cases h3
    exact h4
  · cases h1
theorem IsL.dropN {H : Hp} {xs : List V} {ds : List Dt} (h : IsL H xs ds) (n : Nat) : IsL H (xs.drop n) (ds.drop n) := by
  refine IsL.of_at (by rw [List.length_drop, List.length_drop, h.length]) fun j x d h1 h2 => ?_
  rw [List.getElem?_drop] at h1 h2
  obtain ⟨e, h3, h4⟩ := h.at_ h1
  rw [h2] at h3; cases h3
  exact h4
/-- xs[n:] -/
theorem cut_from {xs : List V} {n : Nat} (h : n ≤ xs.length) : cutV xs (some (n : Int)) none = xs.drop n := by
  unfold cutV
  rw [HT.sIx_nat]
  show (xs.drop (min n xs.length)).take (xs.length - min n xs.length) = xs.drop n
  rw [Nat.min_eq_left h, List.take_of_length_le]
  rw [List.length_drop]; exact Nat.le_refl _
theorem mul_small {a b : Int} (a0 : 0 ≤ a) (a1 : a < 3) (b0 : 0 ≤ b) (b1 : b < 1000) : 0 ≤ a * b ∧ a * b ≤ 2000 := by
  rcases (by omega : a = 0 ∨ a = 1 ∨ a = 2) with rfl | rfl | rfl <;> omega
/-- the first bad limit is the one put in at k -/
theorem bad_at {n : Int} {L R : List Lim} {k : Nat} {b : Lim} (hf : ∀ l ∈ L, fits n l = true) (hk : k ≤ L.length) (hb : fits n b = false) {i : Nat} {l : Lim} (h1 : (L.take k ++ [b] ++ R)[i]? = some l) (h2 : fits n l = false) (h3 : ∀ m ∈ (L.take k ++ [b] ++ R).take i, fits n m = true) : i = k := by
  have hl : (L.take k).length = k := by rw [List.length_take]; omega
  have e : (L.take k ++ [b] ++ R)[k]? = some b := by
    rw [List.append_assoc, List.getElem?_append_right (by omega), hl, Nat.sub_self]; rfl
  rcases Nat.lt_trichotomy i k with c | c | c
  · rw [List.append_assoc, List.getElem?_append_left (by omega)] at h1
    have := hf l (List.mem_of_mem_take (List.mem_of_getElem? h1))
    rw [h2] at this; cases this
  · exact c
  · have hm : b ∈ (L.take k ++ [b] ++ R).take i := List.mem_of_getElem? (i := k) (by rw [List.getElem?_take, if_pos c]; exact e)
    have := h3 b hm
    rw [hb] at this; cases this
end G

namespace Lw
open PySem PySem.Spec PyProof.Rows L2 G
def topS (i : Nat) : Stmt := PySem.Challenge.pw_fewturnatonce_k00_sets_allowed_by_limits.main.body.getD i (.Pass ⟨0, 0, 0, 0⟩)
structure Mg (mg : Str → Option Value) : Prop where
  NotImplemented : mg "NotImplemented" = none
  ValueError : mg "ValueError" = none
  all : mg "all" = none
  bool : mg "bool" = none
  enumerate : mg "enumerate" = none
  int : mg "int" = none
  isinstance : mg "isinstance" = none
  len : mg "len" = none
  list : mg "list" = none
  max : mg "max" = none
  min : mg "min" = none
  range : mg "range" = none
  str : mg "str" = none
  sum : mg "sum" = none
  tuple : mg "tuple" = none
structure Cg (K : PySem.W.Frag) (mg : Str → Option Value) : Prop where
  e_BusError : ExF K mg "BusError"
  e_BadRule : ExF K mg "BadRule"
  e_BadWord : ExF K mg "BadWord"
  e_TooMany : ExF K mg "TooMany"
  no_BadWord_BadRule : PySem.W.subIn K (.ref (clsA K "BadWord")) (.ref (clsA K "BadRule")) = some false
  no_BadRule_BadWord : PySem.W.subIn K (.ref (clsA K "BadRule")) (.ref (clsA K "BadWord")) = some false
  no_BadWord_value : PySem.W.findIn K (.ref (clsA K "BadWord")) "value" = some none
  no_BadRule_index : PySem.W.findIn K (.ref (clsA K "BadRule")) "index" = some none
  no_TooMany_what : PySem.W.findIn K (.ref (clsA K "TooMany")) "what" = some none
  no_TooMany_limit : PySem.W.findIn K (.ref (clsA K "TooMany")) "limit" = some none
  r_Rule : RcF K mg "Rule"
  n_Rule_wires : NoAttr K (clsA K "Rule") "wires"
  n_Rule_limits : NoAttr K (clsA K "Rule") "limits"
  k_Rule_MOST_WIRES : CK K mg "Rule" "MOST_WIRES" (.int 300)
  c_MOST_BOUND : ∃ t : Tok, mg "MOST_BOUND" = some (.int 1000000 t)
  c_MOST_WEIGHT : ∃ t : Tok, mg "MOST_WEIGHT" = some (.int 1000 t)
  c_MOST_LISTED : ∃ t : Tok, mg "MOST_LISTED" = some (.int 10 t)
end Lw
namespace Lw
open PySem PySem.Spec PyProof.Rows L2 G
section
variable {P : Program} {w : World} {K : PySem.W.Frag} {mg : Str → Option Value} {base : Heap}
abbrev s_BadWord : Stmt := inClass (topS 4) 0
theorem sc_BadWord : SupScope ["self", "value"] ["self", "value"] (defScope s_BadWord) := ⟨rfl, rfl, rfl, by decide +kernel, rfl, by decide +kernel, by decide +kernel, by decide +kernel, rfl, rfl⟩
theorem xd_BadWord (M : Mg mg) {fI : Addr} {fd : FuncData} (gx : mg "BadWord" = some (.ref (clsA K "BadWord"))) (T : ExI P K mg (clsA K "BadWord") s_BadWord "BadWord.__init__" fI fd) (h_value : PySem.W.findIn K (.ref (clsA K "BadWord")) "value" = some none) : ExD P w K mg base "BadWord" 1 (spI1 (clsA K "BadWord") "value") := by
  refine ⟨T.oex, gx, fI, fd, ["self", "value"], T.iC, T.tI, fn_super T sc_BadWord rfl rfl rfl rfl (fun vs H Q E h => by unfold spI1 at h; (repeat (obtain ⟨_, h⟩ := h)); subst_vars; rfl) (fun cda cc A outer s H vs Q E hr h => ?_), ?_⟩
  · obtain ⟨a, v, rfl, hv, ha, q⟩ := h
    have nd := sc_BadWord.nd
    refine ⟨_, _, a, pa_cons (pe_op op_add_str pe_str (pe_callTy call_str_int (by rfl) M.str (by decide +kernel) (pa_cons (pv 1) pa_nil))) pa_nil, pss_one (ps_ost (pv 0) (pv 1)), rfl, ha, ?_⟩
    refine ⟨_, rfl, v, rfl, hv, _, _, rfl, rfl, ?_, by simp, ha, ?_⟩
    · have := len_toString hv
      rw [sizeLine_eq]; exact Nat.le_trans (Nat.add_le_add (show _ ≤ 1000 by decide +kernel) this) (by decide)
    · exact ⟨_, rfl, _, rfl, a, _, rfl, T.oex, h_value, .inl ⟨ha, fun dx hd hne => q dx hd hne⟩⟩
  · obtain ⟨oc, od, kV, doc, pm, an, cda, cc, ct, osl, rfl, _⟩ := T.fn
    exact Binds.all fun us hl => match us, hl with | [_, _], _ => rfl
abbrev s_BadRule : Stmt := inClass (topS 3) 0
theorem sc_BadRule : SupScope ["self", "index"] ["self", "index"] (defScope s_BadRule) := ⟨rfl, rfl, rfl, by decide +kernel, rfl, by decide +kernel, by decide +kernel, by decide +kernel, rfl, rfl⟩
theorem xd_BadRule (M : Mg mg) {fI : Addr} {fd : FuncData} (gx : mg "BadRule" = some (.ref (clsA K "BadRule"))) (T : ExI P K mg (clsA K "BadRule") s_BadRule "BadRule.__init__" fI fd) (h_index : PySem.W.findIn K (.ref (clsA K "BadRule")) "index" = some none) : ExD P w K mg base "BadRule" 1 (spI1 (clsA K "BadRule") "index") := by
  refine ⟨T.oex, gx, fI, fd, ["self", "index"], T.iC, T.tI, fn_super T sc_BadRule rfl rfl rfl rfl (fun vs H Q E h => by unfold spI1 at h; (repeat (obtain ⟨_, h⟩ := h)); subst_vars; rfl) (fun cda cc A outer s H vs Q E hr h => ?_), ?_⟩
  · obtain ⟨a, v, rfl, hv, ha, q⟩ := h
    have nd := sc_BadRule.nd
    refine ⟨_, _, a, pa_cons (pe_op op_add_str pe_str (pe_callTy call_str_int (by rfl) M.str (by decide +kernel) (pa_cons (pv 1) pa_nil))) pa_nil, pss_one (ps_ost (pv 0) (pv 1)), rfl, ha, ?_⟩
    refine ⟨_, rfl, v, rfl, hv, _, _, rfl, rfl, ?_, by simp, ha, ?_⟩
    · have := len_toString hv
      rw [sizeLine_eq]; exact Nat.le_trans (Nat.add_le_add (show _ ≤ 1000 by decide +kernel) this) (by decide)
    · exact ⟨_, rfl, _, rfl, a, _, rfl, T.oex, h_index, .inl ⟨ha, fun dx hd hne => q dx hd hne⟩⟩
  · obtain ⟨oc, od, kV, doc, pm, an, cda, cc, ct, osl, rfl, _⟩ := T.fn
    exact Binds.all fun us hl => match us, hl with | [_, _], _ => rfl
abbrev s_TooMany : Stmt := inClass (topS 5) 0
theorem sc_TooMany : SupScope ["self", "what", "limit"] ["self", "what", "limit"] (defScope s_TooMany) := ⟨rfl, rfl, rfl, by decide +kernel, rfl, by decide +kernel, by decide +kernel, by decide +kernel, rfl, rfl⟩
theorem xd_TooMany (M : Mg mg) {fI : Addr} {fd : FuncData} (gx : mg "TooMany" = some (.ref (clsA K "TooMany"))) (T : ExI P K mg (clsA K "TooMany") s_TooMany "TooMany.__init__" fI fd) (h_what : PySem.W.findIn K (.ref (clsA K "TooMany")) "what" = some none) (h_limit : PySem.W.findIn K (.ref (clsA K "TooMany")) "limit" = some none) : ExD P w K mg base "TooMany" 1 (spI2 (clsA K "TooMany") "what" "limit" okTM) := by
  refine ⟨T.oex, gx, fI, fd, ["self", "what", "limit"], T.iC, T.tI, fn_super T sc_TooMany rfl rfl rfl rfl (fun vs H Q E h => by unfold spI2 at h; (repeat (obtain ⟨_, h⟩ := h)); subst_vars; rfl) (fun cda cc A outer s H vs Q E hr h => ?_), ?_⟩
  · obtain ⟨a, v, w', rfl, hok, ha, q⟩ := h
    have nd := sc_TooMany.nd
    obtain ⟨s1, n, rfl, rfl, hl1, hl2⟩ := hok
    refine ⟨_, _, a, pa_cons (pe_op op_add_str (pe_op op_add_str (pe_op op_add_str pe_str (pe_callTy call_str_int (by rfl) M.str (by decide +kernel) (pa_cons (pv 2) pa_nil))) pe_str) (pv 1)) pa_nil, pss_cons (ps_ost (pv 0) (pv 1)) (pss_one (ps_ost (pv 0) (pv 2))), rfl, ha, ?_⟩
    have hn := len_toString hl2
    refine ⟨_, rfl, n, rfl, hl2, _, _, rfl, rfl, ?_, _, _, rfl, rfl, ?_, _, rfl, _, _, rfl, rfl, ?_, by simp, ha, ?_⟩
    · rw [sizeLine_eq]; exact Nat.le_trans (Nat.add_le_add (show _ ≤ 1000 by decide +kernel) hn) (by decide)
    · rw [sizeLine_eq, len_app]; exact Nat.le_trans (Nat.add_le_add (Nat.add_le_add (show _ ≤ 1000 by decide +kernel) hn) (show _ ≤ 1000 by decide +kernel)) (by decide)
    · rw [sizeLine_eq, len_app, len_app]; exact Nat.le_trans (Nat.add_le_add (Nat.add_le_add (Nat.add_le_add (show _ ≤ 1000 by decide +kernel) hn) (show _ ≤ 1000 by decide +kernel)) hl1) (by decide)
    · refine ⟨_, rfl, _, rfl, a, _, rfl, T.oex, h_what, .inl ⟨ha, fun dx hd hne => ?_⟩⟩
      refine ⟨_, rfl, _, rfl, a, _, rfl, T.oex, h_limit, .inr ⟨dx, _, upd_same, ?_, by simp, q dx hd hne⟩⟩
      rw [upd_ne hne, upd_same]
  · obtain ⟨oc, od, kV, doc, pm, an, cda, cc, ct, osl, rfl, _⟩ := T.fn
    exact Binds.all fun us hl => match us, hl with | [_, _, _], _ => rfl
/-- check_word(wires, word) -/
def sp_check_word (K : PySem.W.Frag) : Sp := fun vs H Q E => ∃ (n : Nat) (z : Int), vs = [.int n, .int z] ∧ n ≤ 1000000 ∧ z.natAbs.log2 < 1920 ∧
  ((z < 0 ∨ ((2 ^ n : Nat) : Int) ≤ z) → ∀ d, H d = none → E (.ref (clsA K "BadWord")) (some d) (upd H d (.xd [("value", .int z)]))) ∧ (0 ≤ z → z < ((2 ^ n : Nat) : Int) → Q .non H)
abbrev s_check_word : Stmt := topS 8
theorem sc_check_word : FnScope ["wires", "word"] ["wires", "word"] (defScope s_check_word) := ⟨rfl, rfl, rfl, by decide +kernel, rfl, by decide +kernel, by decide +kernel⟩
/-- slots: 0 wires 1 word -/
theorem dn_check_word (M : Mg mg) (C : Cg K mg) (g : Fg K mg "check_word" s_check_word) (X_BadWord : ExD P w K mg base "BadWord" 1 (spI1 (clsA K "BadWord") "value")) : Dn P w K mg base (L2.CX P w) "check_word" 3 ["wires", "word"] (sp_check_word K) := by
  refine dn_ofX g sc_check_word (fun vs H Q E h => by unfold sp_check_word at h; (repeat (obtain ⟨_, h⟩ := h)); subst_vars; rfl) (fun _ _ _ _ _ _ us hl => match us, hl with | [_, _], _ => rfl) (fun f cdv A outer s H vs Q E hr h => ?_)
  obtain ⟨n, z, rfl, hn, hz, e, q⟩ := h
  have nd := sc_check_word.nd
  refine ⟨_, (pss_one (ps_if (PW.pt (pw_or (pt_cmpR op_lt (pv 1) pe_int (nomark _)) (pw_or1 (pt_cmpR op_ge (pv 1) (pe_op G.op_shlM pe_int (pv 0)) (nomark _))))) (pss_one (ps_raise rfl (takes_of rfl rfl rfl rfl) (G.pmk_D X_BadWord (hr.mono (by decide)) (pa_cons (pv 1) pa_nil)))) pss_nil)), ?_⟩
  refine ⟨_, rfl, _, _, rfl, rfl, _, rfl, ite2d (fun h => iteT ?_) (fun h => ?_)⟩
  · exact ⟨_, rfl, raise1 hz fun d hd => e (.inl h) d hd⟩
  refine ⟨_, rfl, _, rfl, 1, n, rfl, rfl, ⟨hn, by decide⟩, _, _, rfl, rfl, _, rfl, ite2d (fun h2 => ?_) (fun h2 => ?_)⟩
  · exact ⟨_, rfl, raise1 hz fun d hd => e (.inr (by rw [← Nat.one_shiftLeft]; exact h2)) d hd⟩
  · have h3 : ¬ ((1 <<< n : Nat) : Int) ≤ z := h2
    rw [Nat.one_shiftLeft] at h3
    exact q (by omega) (by omega)
def sp_limit_fits (_K : PySem.W.Frag) : Sp := fun vs H Q _ => ∃ (n b : Int) (v : V) (its : List (Int × Int)) (e : Dt), vs = [.int n, .int b, v] ∧ Is H v e ∧ SeqD e (its.map pr) ∧ Q (.bl (fits n (b, its))) H
abbrev s_limit_fits : Stmt := topS 13
theorem sc_limit_fits : FnScope ["wires", "bound", "items", "before", "wire", "weight"] ["wires", "bound", "items"] (defScope s_limit_fits) := ⟨rfl, rfl, rfl, by decide +kernel, rfl, by decide +kernel, by decide +kernel⟩
/-- slots: 0 wires 1 bound 2 items 3 before 4 wire 5 weight -/
theorem dn_limit_fits (M : Mg mg) (C : Cg K mg) (g : Fg K mg "limit_fits" s_limit_fits) : Dn P w K mg base CX0 "limit_fits" 1 ["wires", "bound", "items"] (sp_limit_fits K) := by
  refine dn_of g sc_limit_fits (fun vs H Q E h => by unfold sp_limit_fits at h; (repeat (obtain ⟨_, h⟩ := h)); subst_vars; rfl) (fun _ _ _ _ _ _ us hl => match us, hl with | [_, _, _], _ => rfl) (fun f cdv A outer s H vs Q E hr h => ?_)
  obtain ⟨n, b, v, its, e, rfl, hv, he, q⟩ := h
  have nd := sc_limit_fits.nd
  obtain ⟨u_MOST_BOUND, c_MOST_BOUND⟩ := C.c_MOST_BOUND
  obtain ⟨u_MOST_WEIGHT, c_MOST_WEIGHT⟩ := C.c_MOST_WEIGHT
  refine ⟨_, (pss_cons (ps_set (i := 3) nd rfl (by first | exact Or.inl rfl | exact Or.inr rfl) (pe_un un_neg pe_int))
    (pss_cons (ps_for PassesOwn.never rfl (G.pi_seqK K (pv 2)) (pg_tup rfl (pgs_cons (pg_name (i := 4) nd rfl (by first | exact Or.inl rfl | exact Or.inr rfl)) (pgs_cons (pg_name (i := 5) nd rfl (by first | exact Or.inl rfl | exact Or.inr rfl)) pgs_nil))) (pss_cons (ps_if (PW.pt (pw_or (pt_cmpR op_le (pv 4) (pv 3) (nomark _)) (pw_or (pt_cmpR op_ge (pv 4) (pv 0) (nomark _)) (pw_or (pt_cmpR op_lt (pv 5) pe_int (nomark _)) (pw_or1 (pt_cmpR op_gt (pv 5) (pe_glob (v := .int 1000) rfl c_MOST_WEIGHT ⟨_, rfl⟩) (nomark _))))))) (pss_one (ps_ret pe_bl)) pss_nil)
    (pss_one (ps_set (i := 3) nd rfl (by first | exact Or.inl rfl | exact Or.inr rfl) (pv 4)))))
    (pss_one (ps_ret (pe_chain op_le op_le pe_int (pv 1) (pe_glob (v := .int 1000000) rfl c_MOST_BOUND ⟨_, rfl⟩)))))), ?_⟩
  obtain ⟨a, xs, rfl, h1, h2⟩ := hv.seq he
  refine ⟨_, rfl, _, rfl, a, rfl, for_seq h1 (fun i σ H' => H' = H ∧ ∃ (bf : Int) (v4 v5 : Option V), fitI n (-1) its = fitI n bf (its.drop i) ∧ σ = [some (.int n), some (.int b), some (.ref a), some (.int bf), v4, v5]) ⟨rfl, -1, none, none, rfl, rfl⟩ (fun i σ H' z => z.1 ▸ Same.refl _) ?_ ?_⟩
  · rintro i x σ H' hx ⟨rfl, bf, v4, v5, hf, rfl⟩
    obtain ⟨d, hd, ix⟩ := h2.at_ hx
    rw [List.getElem?_map] at hd
    cases e1 : its[i]? with
    | none => rw [e1] at hd; cases hd
    | some qq =>
      obtain ⟨w, g⟩ := qq
      rw [e1] at hd
      cases hd
      have ix : Is H' x (.tup [.int w, .int g]) := ix
      obtain ⟨t, x1, x2, rfl, ht, i1, i2⟩ := ix.pair
      cases i1.toInt
      cases i2.toInt
      have hdr : its.drop i = (w, g) :: its.drop (i + 1) := by
        obtain ⟨hlt, hg⟩ := List.getElem?_eq_some_iff.mp e1
        rw [List.drop_eq_getElem_cons hlt, hg]
      rw [hdr, fitI_cons] at hf
      have no : fitI n (-1) its = false → Q (.bl false) H' := fun z => by
        unfold fits at q
        rw [z] at q; exact q
      refine ⟨t, _, rfl, sq_tup ht, rfl, _, _, rfl, _, _, rfl, rfl, ?_⟩
      refine ⟨_, rfl, _, rfl, _, _, rfl, rfl, _, rfl, ite2d (fun c1 => iteT (no ?_)) (fun c1 => ?_)⟩
      · rw [hf, decide_eq_false (by omega)]; rfl
      refine ⟨_, rfl, _, rfl, _, _, rfl, rfl, _, rfl, ite2d (fun c2 => iteT (no ?_)) (fun c2 => ?_)⟩
      · rw [hf, decide_eq_false (by omega : ¬ w < n)]; simp
      refine ⟨_, rfl, _, _, rfl, rfl, _, rfl, ite2d (fun c3 => iteT (no ?_)) (fun c3 => ?_)⟩
      · rw [hf, decide_eq_false (by omega : ¬ 1 ≤ g)]; simp
      refine ⟨_, rfl, _, _, rfl, rfl, _, rfl, ite2d (fun c4 => no ?_) (fun c4 => ?_)⟩
      · rw [hf, decide_eq_false (by omega : ¬ g ≤ 1000)]; simp
      refine ⟨_, rfl, rfl, w, _, _, ?_, rfl⟩
      rw [hf, decide_eq_true (by omega : bf < w), decide_eq_true (by omega : w < n), decide_eq_true (by omega : 1 ≤ g), decide_eq_true (by omega : g ≤ 1000)]
      rfl
  · rintro σ H' ⟨rfl, bf, v4, v5, hf, rfl⟩
    have hl := h2.length
    rw [List.length_map] at hl
    rw [hl, List.drop_length] at hf
    unfold fits at q
    rw [hf] at q
    have q' : ∀ c : Bool, c = decide (0 ≤ b ∧ b ≤ 1000000) → Q (.bl c) H' := fun c e => by rw [e]; exact q
    refine ⟨_, rfl, _, _, rfl, rfl, _, rfl, ite2d (fun c => ⟨_, _, rfl, rfl, q' _ ?_⟩) (fun c => q' _ ?_)⟩
    · exact decide_eq_decide.mpr ⟨fun h => ⟨c, h⟩, fun h => h.2⟩
    · rw [decide_eq_false (fun h => c h.1)]
/-- Rule(wires, limits): raised at the first bad limit, or a rule -/
def sp_Rule___init__ (K : PySem.W.Frag) : Sp := fun vs H Q E => ∃ (x : Addr) (n : Int) (v : V) (L : List Lim), vs = [.ref x, .int n, v] ∧ (∃ dx, H x = some (.ins (clsA K "Rule") dx [])) ∧ LimIn K H v L ∧ L.length ≤ 100000 ∧ (∀ l ∈ L, l.2.length ≤ 100000) ∧
  ((n < 0 ∨ 300 < n) → ∀ H' d, Same H H' → H' d = some (.xd [("index", .int (-1))]) → E (.ref (clsA K "BadRule")) (some d) H') ∧
  (0 ≤ n → n ≤ 300 → ∀ (i : Nat) (l : Lim), L[i]? = some l → fits n l = false → (∀ m ∈ L.take i, fits n m = true) → ∀ H' d, Same H H' → H' d = some (.xd [("index", .int i)]) → E (.ref (clsA K "BadRule")) (some d) H') ∧
  (0 ≤ n → n ≤ 300 → (∀ l ∈ L, fits n l = true) → ∀ H', (∀ b o, b ≠ x → H b = some o → H' b = some o) → RuleAt K H' x n.toNat L → Q .non H')
theorem putWL (n t : V) : putF ("limits" : Str) t (putF ("wires" : Str) n []) = ([("wires", n), ("limits", t)] : List (Str × V)) := by
  have e : ¬ (("wires" : Str) = "limits") := by decide +kernel
  show (if ("wires" : Str) = "limits" then [(("wires" : Str), t)] else (("wires" : Str), n) :: putF "limits" t []) = ([("wires", n), ("limits", t)] : List (Str × V))
  rw [if_neg e]
  all_goals rfl
abbrev s_Rule___init__ : Stmt := inClass (topS 14) 1
theorem sc_Rule___init__ : FnScope ["self", "wires", "limits", "kept", "index", "bound", "items", "wire", "weight"] ["self", "wires", "limits"] (defScope s_Rule___init__) := ⟨rfl, rfl, rfl, by decide +kernel, rfl, by decide +kernel, by decide +kernel⟩
/-- slots: 0 self 1 wires 2 limits 3 kept 4 index 5 bound 6 items 7 wire 8 weight -/
theorem dn_Rule___init__ (M : Mg mg) (C : Cg K mg) {T0 : Addr} (g : FgI K mg "Rule" "Rule.__init__" s_Rule___init__ [.ref T0]) (D_limit_fits : Dn P w K mg base CX0 "limit_fits" 1 ["wires", "bound", "items"] (sp_limit_fits K)) (X_BadRule : ExD P w K mg base "BadRule" 1 (spI1 (clsA K "BadRule") "index")) : DnI P w K mg base (L2.CX P w) "Rule" 3 [] (sp_Rule___init__ K) ∧ DnI P w K mg base (L2.CX P w) "Rule" 3 [.ref T0] (sp_Rule___init__ K) := by
  refine dni_of1 (n := 2) g rfl sc_Rule___init__ (fun vs H Q E h => by unfold sp_Rule___init__ at h; (repeat (obtain ⟨_, h⟩ := h)); subst_vars; rfl) (fun _ _ _ _ _ _ _ us its h1 h2 => match us, its, h1, h2 with | [_, _, _], [_], _, _ => ⟨_, rfl, rfl⟩) (fun _ _ _ _ _ _ _ us its h1 h2 => match us, its, h1, h2 with | [_, _], [_], _, _ => ⟨_, rfl, rfl⟩) (fun f cdv A outer s H vs Q E hr h => ?_)
  obtain ⟨x, n, v, L, rfl, ⟨dx, hx⟩, ⟨a, xs, rfl, hS, hlx, hit⟩, hlen, hle2, e1, e2, q⟩ := h
  have nd := sc_Rule___init__.nd
  refine ⟨_, (pss_cons (ps_if (PW.pt (pw_or (pt_cmpR op_lt (pv 1) pe_int (nomark _)) (pw_or1 (pt_cmpR op_gt (pv 1) (G.pe_ck C.k_Rule_MOST_WIRES) (nomark _))))) (pss_one (ps_raise rfl (takes_of rfl rfl rfl rfl) (G.pmk_D X_BadRule (hr.mono (by decide)) (pa_cons (pe_un un_neg pe_int) pa_nil)))) pss_nil)
    (pss_cons (ps_set (i := 3) nd rfl (by first | exact Or.inl rfl | exact Or.inr rfl) (pe_lst pa_nil))
    (pss_cons (ps_for (passes_of rfl) rfl (G.pi_enumSK K (by rfl) M.enumerate (pa_cons (pv 2) pa_nil)) (pg_tup rfl (pgs_cons (pg_name (i := 4) nd rfl (by first | exact Or.inl rfl | exact Or.inr rfl)) (pgs_cons (pg_tup rfl (pgs_cons (pg_name (i := 5) nd rfl (by first | exact Or.inl rfl | exact Or.inr rfl)) (pgs_cons (pg_name (i := 6) nd rfl (by first | exact Or.inl rfl | exact Or.inr rfl)) pgs_nil))) pgs_nil))) (pss_cons (ps_if (pt_not (pt_val (G.pe_callD D_limit_fits (hr.mono (by decide)) pass0 (pa_cons (pv 1) (pa_cons (pv 5) (pa_cons (pv 6) pa_nil)))))) (pss_one (ps_raise rfl (takes_of rfl rfl rfl rfl) (G.pmk_D X_BadRule (hr.mono (by decide)) (pa_cons (pv 4) pa_nil)))) pss_nil)
    (pss_one (ps_expr (pe_bm PySem.F.plainAttrs_list PySem.F.slot_list_append PySem.F.type_list_append mt_append (pv 3) (pa_cons (pe_tup (pa_cons (pv 5) (pa_cons (pe_callTy (G.call_tupK K) (by rfl) M.tuple (by decide +kernel) (pa_cons (pe_lc (own := [("wire", 7), ("weight", 8)]) (g := (gTup K 2 (gCons (gName 7) (gCons (gName 8) gNil)))) (tt := tYes) rfl nd (G.pi_seqK K (pv 6)) (blkOk_by (by kernel_rfl)) (fun _ _ _ _ _ => (pg_tup rfl (pgs_cons (pg_name (i := 7) nd rfl (by first | exact Or.inl rfl | exact Or.inr rfl)) (pgs_cons (pg_name (i := 8) nd rfl (by first | exact Or.inl rfl | exact Or.inr rfl)) pgs_nil)))) (fun _ _ _ _ _ => pts_nil) (fun _ _ _ _ _ => (pe_tup (pa_cons (pv 7) (pa_cons (pv 8) pa_nil))))) pa_nil)) pa_nil))) pa_nil))))))
    (pss_cons (ps_fld (pv 0) (pv 1) rfl)
    (pss_one (ps_fld (pv 0) (pe_callTy (G.call_tupK K) (by rfl) M.tuple (by decide +kernel) (pa_cons (pv 3) pa_nil)) rfl)))))), ?_⟩
  refine ⟨_, rfl, _, _, rfl, rfl, _, rfl, ite2d (fun c => iteT ?_) (fun c => ?_)⟩
  · exact ⟨_, rfl, raise1 (by decide) fun d hd => e1 (.inl c) _ d (same_new hd) upd_same⟩
  refine ⟨_, rfl, _, _, rfl, rfl, _, rfl, ite2d (fun c2 => ?_) (fun c2 => ?_)⟩
  · exact ⟨_, rfl, raise1 (by decide) fun d hd => e1 (.inr c2) _ d (same_new hd) upd_same⟩
  refine ⟨Nat.zero_le _, fun o no => ?_⟩
  refine ⟨_, rfl, a, xs, rfl, for_enumG hS (fun i σ H' => Same H H' ∧ (∃ ks, H' o = some (.lst ks) ∧ ks.length = i ∧ IsL (tups H') ks ((L.take i).map limT)) ∧ (∀ m ∈ L.take i, fits n m = true) ∧ ∃ v4 v5 v6 v7 v8, σ = [some (.ref x), some (.int n), some (.ref a), some (.ref o), v4, v5, v6, v7, v8])
    ⟨same_new no, ⟨[], upd_same, rfl, isL_nil⟩, by simp, _, _, _, _, _, rfl⟩ (fun i σ H' z => z.1) ?_ ?_⟩
  · rintro i y σ H1 T hy ⟨s1, ⟨ks, ho, hkl, hks⟩, hfit, v4, v5, v6, v7, v8, rfl⟩ nT
    have hi : i < L.length := by rw [← hlx]; exact (List.getElem?_eq_some_iff.mp hy).1
    have hl := List.getElem?_eq_getElem hi
    generalize L[i] = l at hl
    obtain ⟨e, ie, se⟩ := hit i l y hl hy
    have s2 := s1.new (o := .tup [.int (i : Nat), y]) nT
    have ho2 : (upd H1 T (.tup [.int (i : Nat), y])) o = some (.lst ks) := by rw [upd_ne (ne_of_none ho nT)]; exact ho
    have hks2 := IsL.mono (tups_mono (same_new (o := .tup [.int (i : Nat), y]) nT)) hks
    have hT : (upd H1 T (.tup [.int (i : Nat), y])) T = some (.tup [.int (i : Nat), y]) := upd_same
    generalize upd H1 T (.tup [.int (i : Nat), y]) = H2 at *
    have ie2 := ie.mono s2
    obtain ⟨t, b1, w1, rfl, ht, i1, i2⟩ := ie2.pair
    have eb := i1.toInt
    subst eb
    obtain ⟨a2, ys, rfl, h3, h4⟩ := i2.seq se
    refine ⟨T, _, rfl, sq_tup hT, rfl, _, _, rfl, _, _, rfl, ⟨t, _, rfl, sq_tup ht, rfl, _, _, rfl, _, _, rfl, rfl, rfl, ?_⟩⟩
    refine ⟨_, rfl, _, rfl, _, rfl, n, l.1, .ref a2, l.2, e, rfl, i2, se, _, rfl, ?_⟩
    cases hf : fits n l with
    | false =>
      refine iteT ⟨_, rfl, raise1 (log2_small (n := i) ?_) fun d hd => ?_⟩
      · exact Nat.lt_of_lt_of_le (by omega : i < 2 ^ 17) (Nat.pow_le_pow_right (by decide) (by decide))
      exact e2 (by omega) (by omega) i l hl hf hfit _ d (s2.new hd) upd_same
    | true =>
      refine iteF ⟨_, rfl, .inl ⟨rfl, _, sq_lst ho2⟩, _, rfl, _, rfl, a2, rfl, lc_seq h3 (Same.refl _) (fun D j H' => Same H2 H' ∧ ∃ zs, H' D = some (.lst zs) ∧ zs.length = j ∧ IsL (tups H') zs ((l.2.take j).map pr)) (fun D nD => ⟨same_new nD, [], upd_same, rfl, isL_nil⟩) (fun D j H' nD z => z.1) ?_ ?_⟩
      · rintro D j z H' nD hz ⟨s3, zs, hD, hzl, hzs⟩
        obtain ⟨d, hd, iz⟩ := h4.at_ hz
        rw [List.getElem?_map] at hd
        cases e1 : l.2[j]? with
        | none => rw [e1] at hd; cases hd
        | some qq =>
          rw [e1] at hd
          cases hd
          have iz : Is H2 z (.tup [.int qq.1, .int qq.2]) := iz
          obtain ⟨t2, x1, x2, rfl, ht2, j1, j2⟩ := (iz.mono s3).pair
          have ex1 := j1.toInt
          have ex2 := j2.toInt
          subst ex1; subst ex2
          have hjl : j < l.2.length := (List.getElem?_eq_some_iff.mp e1).1
          have := hle2 l (List.mem_of_getElem? hl)
          refine ⟨t2, _, rfl, sq_tup ht2, rfl, _, _, rfl, _, _, rfl, rfl, rfl, _, rfl, _, rfl, sz (by simp), fun u nu => ?_⟩
          have s4 := same_new (o := .tup [V.int qq.1, V.int qq.2]) nu
          have hD2 : (upd H' u (.tup [V.int qq.1, V.int qq.2])) D = some (.lst zs) := by rw [upd_ne (ne_of_none hD nu)]; exact hD
          refine ⟨zs, hD2, szl (by omega), Same.mut (s3.trans s4) nD, zs ++ [.ref u], upd_same, by rw [List.length_append, hzl]; rfl, ?_⟩
          rw [take_more e1, List.map_append]
          refine IsL.mono (tups_lst hD2) (IsL.snoc (IsL.mono (tups_mono s4) hzs) (is_two (tups_at upd_same) (is_int _) (is_int _)))
      · rintro D H' nD ⟨s3, zs, hD, hzl, hzs⟩
        have hyl := h4.length
        rw [List.length_map] at hyl
        rw [hyl, List.take_length] at hzs
        refine ⟨D, zs, rfl, .inl ⟨sq_lst hD, fun u nu => ⟨sz (by simp), fun p np => ?_⟩⟩⟩
        have s4 := same_new (o := .tup zs) nu
        have iu : Is (tups (upd H' u (.tup zs))) (.ref u) (.tup (l.2.map pr)) := is_tup (tups_at upd_same) (IsL.mono (tups_mono s4) hzs)
        generalize upd H' u (.tup zs) = H3 at *
        have s5 := same_new (o := .tup [V.int l.1, V.ref u]) np
        have ip : Is (tups (upd H3 p (.tup [V.int l.1, V.ref u]))) (.ref p) (limT l) := is_two (tups_at upd_same) (is_int _) (iu.mono (tups_mono s5))
        have ho4 := s5 _ _ (s4 _ _ (s3 _ _ ho2))
        have hks4 := IsL.mono (tups_mono (s3.trans (s4.trans s5))) hks2
        generalize upd H3 p (.tup [V.int l.1, V.ref u]) = H4 at *
        refine ⟨o, ks, _, rfl, rfl, ho4, szl (by omega), ?_⟩
        refine ⟨Same.mut (s2.trans (s3.trans (s4.trans s5))) no, ⟨ks ++ [.ref p], upd_same, by rw [List.length_append, hkl]; rfl, ?_⟩, ?_, _, _, _, _, _, rfl⟩
        · rw [take_more hl, List.map_append]
          exact IsL.mono (tups_lst ho4) (IsL.snoc hks4 ip)
        · intro m hm
          rw [take_more hl, List.mem_append, List.mem_singleton] at hm
          rcases hm with hm | rfl
          · exact hfit m hm
          · exact hf
  · rintro σ H1 ⟨s1, ⟨ks, ho, hkl, hks⟩, hfit, v4, v5, v6, v7, v8, rfl⟩
    rw [hlx, List.take_length] at hks hfit
    have hx1 := s1 _ _ hx
    have nox : o ≠ x := fun z => by subst z; rw [hx] at no; cases no
    refine ⟨_, rfl, _, rfl, x, _, dx, [], rfl, hx1, C.r_Rule.cl, C.n_Rule_wires, by simp, ?_⟩
    have ho2 : (upd H1 x (.ins (clsA K "Rule") dx (putF "wires" (.int n) []))) o = some (.lst ks) := by rw [upd_ne nox]; exact ho
    refine ⟨_, rfl, o, ks, rfl, .inl ⟨sq_lst ho2, fun t nt => ?_⟩⟩
    have ntx : t ≠ x := fun z => by subst z; rw [upd_same] at nt; cases nt
    rw [upd_ne ntx] at nt
    refine ⟨_, rfl, x, _, dx, _, rfl, by rw [upd_ne (Ne.symm ntx), upd_same], C.r_Rule.cl, C.n_Rule_limits, by show 1 < 1000; decide, ?_⟩
    refine q (by omega) (by omega) hfit _ (fun b ob hb e => ?_) ⟨dx, t, ?_, is_tup ?_ (IsL.mono (fun b ob e => ?_) hks)⟩
    · rw [upd_ne hb, upd_ne (ne_of_none (s1 _ _ e) nt), upd_ne hb]
      exact s1 _ _ e
    · have en : n = ((n.toNat : Nat) : Int) := by omega
      rw [upd_same, putWL, ← en]
    · rw [upd_ne ntx, upd_same]
    · obtain ⟨ys, e', rfl⟩ := tups_iff.mp e
      have hb : b ≠ x := fun z => by subst z; rw [hx1] at e'; cases e'
      rw [upd_ne hb, upd_ne (ne_of_none e' nt), upd_ne hb]
      exact e'
/-- rule.loads(mask) -/
def sp_Rule_loads (K : PySem.W.Frag) : Sp := fun vs H Q E => ∃ (r : Addr) (n : Nat) (L : List Lim) (z : Int), vs = [.ref r, .int z] ∧ RuleAt K H r n L ∧ Good n L ∧ z.natAbs.log2 < 1920 ∧
  ((z < 0 ∨ ((2 ^ n : Nat) : Int) ≤ z) → ∀ H' d, Same H H' → H' d = some (.xd [("value", .int z)]) → E (.ref (clsA K "BadWord")) (some d) H') ∧
  (0 ≤ z → z < ((2 ^ n : Nat) : Int) → ∀ H' p, Same H H' → H p = none → H' p = some (.lst ((loadsF L z.toNat).map V.int)) → Q (.ref p) H')
abbrev s_Rule_loads : Stmt := inClass (topS 14) 4
theorem sc_Rule_loads : FnScope ["self", "mask", "bound", "items", "wire", "weight"] ["self", "mask"] (defScope s_Rule_loads) := ⟨rfl, rfl, rfl, by decide +kernel, rfl, by decide +kernel, by decide +kernel⟩
/-- slots: 0 self 1 mask 2 bound 3 items 4 wire 5 weight -/
theorem dn_Rule_loads (M : Mg mg) (C : Cg K mg) (g : FgM K "Rule" "loads" "Rule.loads" s_Rule_loads) (D_check_word : Dn P w K mg base (L2.CX P w) "check_word" 3 ["wires", "word"] (sp_check_word K)) : DnM P w K mg base (L2.CX P w) "Rule" "loads" 4 ["self", "mask"] (sp_Rule_loads K) := by
  refine dnm_ofX g sc_Rule_loads (fun vs H Q E h => by unfold sp_Rule_loads at h; (repeat (obtain ⟨_, h⟩ := h)); subst_vars; rfl) (fun _ _ _ _ _ _ us hl => match us, hl with | [_, _], _ => rfl) (fun f cdv A outer s H vs Q E hr h => ?_)
  obtain ⟨r, n, L, z, rfl, ⟨dx, t, hr1, hT⟩, G1, hz, e1, q⟩ := h
  have nd := sc_Rule_loads.nd
  refine ⟨_, (pss_cons (ps_expr (G.pe_callDS D_check_word (hr.mono (by decide)) (fun σ => passAt (takes_of rfl rfl rfl rfl) σ) (pa_cons (G.pe_fldK K (pv 0)) (pa_cons (pv 1) pa_nil))))
    (pss_one (ps_ret (pe_lc (own := [("bound", 2), ("items", 3)]) (g := (gTup K 2 (gCons (gName 2) (gCons (gName 3) gNil)))) (tt := tYes) rfl nd (G.pi_tupK K (G.pe_fldK K (pv 0))) (blkOk_by (by kernel_rfl)) (fun _ _ _ _ _ => (pg_tup rfl (pgs_cons (pg_name (i := 2) nd rfl (by first | exact Or.inl rfl | exact Or.inr rfl)) (pgs_cons (pg_name (i := 3) nd rfl (by first | exact Or.inl rfl | exact Or.inr rfl)) pgs_nil)))) (fun _ _ _ _ _ => pts_nil) (fun _ _ _ _ _ => (pe_callB (G.cr_sumK K rfl) (by rfl) M.sum (by decide +kernel) (pa_cons (pe_lc (own := [("wire", 4), ("weight", 5)]) (g := (gTup K 2 (gCons (gName 4) (gCons (gName 5) gNil)))) rfl nd (G.pi_tupK K (pv 3)) (blkOk_by (by kernel_rfl)) (fun _ _ _ _ _ => (pg_tup rfl (pgs_cons (pg_name (i := 4) nd rfl (by first | exact Or.inl rfl | exact Or.inr rfl)) (pgs_cons (pg_name (i := 5) nd rfl (by first | exact Or.inl rfl | exact Or.inr rfl)) pgs_nil)))) (fun _ _ _ _ _ => (pts_one (G.pt_truthK K (pe_op G.op_andN (pe_op G.op_shrM (pv 1) (pv 4)) pe_int) (by intro _; rfl)))) (fun _ _ _ _ _ => (pv 5))) pa_nil))))))), ?_⟩
  obtain ⟨t', xs, et, ht, hxs⟩ := Is.tup (l := L.map limT) hT
  cases et
  have hlx := hxs.length
  rw [List.length_map] at hlx
  refine ⟨_, rfl, r, _, dx, _, .int n, rfl, hr1, C.r_Rule.cl, C.n_Rule_wires, lkW _ _, _, rfl, n, z, rfl, by have := G1.n300; omega, hz, fun h d hd => e1 h _ d (same_new hd) upd_same, fun h0 h1 => ?_⟩
  obtain ⟨m, rfl⟩ := nat_ex h0
  refine ⟨_, rfl, r, _, dx, _, .ref t, rfl, hr1, C.r_Rule.cl, C.n_Rule_limits, lkL _ _, t, rfl, ⟨_, sq_tup ht⟩, fun D nD => lc_it (walk_tup (xs := xs)) (fun i H' => Same H H' ∧ H' D = some (.lst ((loadsF (L.take i) m).map V.int))) ⟨same_new nD, upd_same⟩ (fun i H' _ p => sq_tup (p.1 _ _ ht)) ?_ ?_⟩
  · rintro i y H1 H2 hi ⟨s1, hD⟩ ⟨rfl, hy⟩
    have hil : i < L.length := by omega
    have hl := List.getElem?_eq_getElem hil
    generalize L[i] = l at hl
    have lm := List.mem_of_getElem? hl
    obtain ⟨d, hd, iy⟩ := hxs.at_ hy
    rw [List.getElem?_map, hl] at hd
    cases hd
    have iy : Is H2 y (.tup [.int l.1, .tup (l.2.map pr)]) := iy.mono s1
    obtain ⟨u, b1, w1, rfl, hu, i1, i2⟩ := iy.pair
    have eb := i1.toInt
    subst eb
    obtain ⟨a2, ys, rfl, ha2, hys⟩ := i2.tup
    have hly := hys.length
    rw [List.length_map] at hly
    refine ⟨u, _, rfl, sq_tup hu, rfl, _, _, rfl, _, _, rfl, rfl, rfl, _, rfl, a2, rfl, ⟨_, sq_tup ha2⟩, fun D2 nD2 => lc_it (walk_tup (xs := ys)) (fun j H' => Same H2 H' ∧ H' D2 = some (.lst ((selI m (l.2.take j)).map V.int))) ⟨same_new nD2, upd_same⟩ (fun j H' _ p => sq_tup (p.1 _ _ ha2)) ?_ ?_⟩
    · rintro j x H3 H4 hj ⟨s3, hD2⟩ ⟨rfl, hx⟩
      have hjl : j < l.2.length := by omega
      have hq := List.getElem?_eq_getElem hjl
      generalize l.2[j] = qq at hq
      obtain ⟨d, hd, ix⟩ := hys.at_ hx
      rw [List.getElem?_map, hq] at hd
      cases hd
      have ix : Is H4 x (.tup [.int qq.1, .int qq.2]) := ix.mono s3
      obtain ⟨v1, x1, x2, rfl, hv, j1, j2⟩ := ix.pair
      have ex1 := j1.toInt
      have ex2 := j2.toInt
      subst ex1; subst ex2
      have hb := G1.fit.items lm qq (List.mem_of_getElem? hq)
      have hlen2 := G1.its l lm
      refine ⟨v1, _, rfl, sq_tup hv, rfl, _, _, rfl, _, _, rfl, rfl, rfl, _, rfl, _, rfl, m, qq.1.toNat, rfl, congrArg V.int (by omega), _, 1, rfl, rfl, _, rfl, ?_⟩
      rw [bit_true]
      refine ite2 (fun e => ?_) (fun e => ?_)
      · refine ⟨_, rfl, _, hD2, szl ?_, Same.mut s3 nD2, ?_⟩
        · have := selI_len m (l.2.take j)
          rw [List.length_take] at this
          rw [List.length_map]; omega
        · rw [upd_same, take_more hq, selI_snoc, if_pos e, List.map_append]; rfl
      · refine ⟨s3, ?_⟩
        rw [take_more hq, selI_snoc, if_neg e]; exact hD2
    · rintro H3 ⟨s3, hD2⟩
      rw [hly, List.take_length] at hD2
      refine ⟨D2, _, rfl, sq_lst hD2, _, s3 _ _ hD, szl ?_, Same.mut (s1.trans s3) nD, ?_⟩
      · have := G1.len
        rw [List.length_map]; unfold loadsF; rw [List.length_map, List.length_take]; omega
      · rw [upd_same, take_more hl]
        unfold loadsF
        rw [List.map_append, List.map_append]; rfl
  · rintro H1 ⟨s1, hD⟩
    rw [hlx, List.take_length] at hD
    exact q h0 h1 H1 D s1 nD hD
/-- rule.allows(mask) -/
def sp_Rule_allows (K : PySem.W.Frag) : Sp := fun vs H Q E => ∃ (r : Addr) (n : Nat) (L : List Lim) (z : Int), vs = [.ref r, .int z] ∧ RuleAt K H r n L ∧ Good n L ∧ z.natAbs.log2 < 1920 ∧
  ((z < 0 ∨ ((2 ^ n : Nat) : Int) ≤ z) → ∀ H' d, Same H H' → H' d = some (.xd [("value", .int z)]) → E (.ref (clsA K "BadWord")) (some d) H') ∧
  (0 ≤ z → z < ((2 ^ n : Nat) : Int) → ∀ H', Same H H' → Q (.bl (allowsF L z.toNat)) H')
abbrev s_Rule_allows : Stmt := inClass (topS 14) 5
theorem sc_Rule_allows : FnScope ["self", "mask", "loads", "index"] ["self", "mask"] (defScope s_Rule_allows) := ⟨rfl, rfl, rfl, by decide +kernel, rfl, by decide +kernel, by decide +kernel⟩
/-- slots: 0 self 1 mask 2 loads 3 index -/
theorem dn_Rule_allows (M : Mg mg) (C : Cg K mg) (g : FgM K "Rule" "allows" "Rule.allows" s_Rule_allows) (D_Rule_loads : DnM P w K mg base (L2.CX P w) "Rule" "loads" 4 ["self", "mask"] (sp_Rule_loads K)) : DnM P w K mg base (L2.CX P w) "Rule" "allows" 5 ["self", "mask"] (sp_Rule_allows K) := by
  refine dnm_ofX g sc_Rule_allows (fun vs H Q E h => by unfold sp_Rule_allows at h; (repeat (obtain ⟨_, h⟩ := h)); subst_vars; rfl) (fun _ _ _ _ _ _ us hl => match us, hl with | [_, _], _ => rfl) (fun f cdv A outer s H vs Q E hr h => ?_)
  obtain ⟨r, n, L, z, rfl, hR, G1, hz, e1, q⟩ := h
  have nd := sc_Rule_allows.nd
  refine ⟨_, (pss_cons (ps_set (i := 2) nd rfl (by first | exact Or.inl rfl | exact Or.inr rfl) (G.pe_methD K D_Rule_loads (hr.mono (by decide)) (fun σ => passAt (takes_of rfl rfl rfl rfl) σ) (pv 0) (pa_cons (pv 1) pa_nil)))
    (pss_one (ps_ret (pe_callB (G.cr_allK K rfl) (by rfl) M.all (by decide +kernel) (pa_cons (pe_lc (own := [("index", 3)]) (g := (gName 3)) (tt := tYes) rfl nd (pi_range1 rfl M.range (pa_cons (pe_callB (G.call_lenK K) (by rfl) M.len PySem.boot_len (pa_cons (pv 2) pa_nil)) pa_nil)) (blkOk_by (by kernel_rfl)) (fun _ _ _ _ _ => (pg_name (i := 3) nd rfl (by first | exact Or.inl rfl | exact Or.inr rfl))) (fun _ _ _ _ _ => pts_nil) (fun _ _ _ _ _ => (pe_cmpR op_le (pe_ix (G.ix_listK K) (pv 2) (pv 3) (fun _ _ => rfl)) (pe_ix (G.ix_tupK K) (pe_ix (G.ix_tupK K) (G.pe_fldK K (pv 0)) (pv 3) (fun _ _ => rfl)) pe_int (fun _ _ => rfl)) (nomark _)))) pa_nil))))), ?_⟩
  obtain ⟨dx, t, hr1, hT⟩ := id hR
  obtain ⟨t', xs, et, ht, hxs⟩ := Is.tup (l := L.map limT) hT
  cases et
  have hlx := hxs.length
  rw [List.length_map] at hlx
  have hlen := G1.len
  refine ⟨_, rfl, r, dx, _, rfl, hr1, lkN _ _ (by decide +kernel) (by decide +kernel), _, rfl, r, n, L, z, rfl, hR, G1, hz, e1, fun h0 h1 H1 p s1 np hp => ?_⟩
  obtain ⟨m, rfl⟩ := nat_ex h0
  rw [Int.toNat_natCast] at hp q
  have hll : (loadsF L m).length = L.length := by unfold loadsF; rw [List.length_map]
  refine ⟨_, rfl, p, _, rfl, .inl (sq_lst hp), _, rfl, by omega, by rw [List.length_map, hll]; omega, fun D nD => lc_range (lo := 0) (n := ((((loadsF L m).map V.int).length : Nat) : Int).toNat) (fun i H' => Same H1 H' ∧ H' D = some (.lst (((L.take i).map fun l => decide (loadI m l.2 ≤ l.1)).map V.bl))) ⟨same_new nD, upd_same⟩ ?_ ?_⟩
  · rintro i H2 hi ⟨s2, hD⟩
    rw [List.length_map, hll] at hi
    have hil : i < L.length := by omega
    have hl := List.getElem?_eq_getElem hil
    generalize L[i] = l at hl
    have s12 := s1.trans s2
    obtain ⟨y, hy, iy⟩ := hxs.get (i := i) (d := limT l) (by rw [List.getElem?_map, hl]; rfl)
    have iy : Is H2 y (.tup [.int l.1, .tup (l.2.map pr)]) := iy.mono s12
    obtain ⟨u, b1, w1, rfl, hu, i1, i2⟩ := iy.pair
    have eb := i1.toInt
    subst eb
    have hg : ((loadsF L m).map V.int)[i]? = some (.int (loadI m l.2)) := by
      unfold loadsF
      rw [List.getElem?_map, List.getElem?_map, hl]; rfl
    refine ⟨rfl, _, rfl, _, rfl, p, _, _, .int (loadI m l.2), rfl, rfl, sq_lst (s2 _ _ hp), atI_of (Int.zero_add _) hg, ?_⟩
    refine ⟨_, rfl, r, _, dx, _, .ref t, rfl, s12 _ _ hr1, C.r_Rule.cl, C.n_Rule_limits, lkL _ _, _, rfl, t, xs, _, .ref u, rfl, rfl, sq_tup (s12 _ _ ht), atI_of (Int.zero_add _) hy, ?_⟩
    refine ⟨u, _, 0, .int l.1, rfl, rfl, sq_tup hu, rfl, _, _, rfl, rfl, _, hD, szl (by rw [List.length_map, List.length_map, List.length_take]; omega), Same.mut s2 nD, ?_⟩
    rw [upd_same, take_more hl, List.map_append, List.map_append]; rfl
  · rintro H2 ⟨s2, hD⟩
    rw [show ((((loadsF L m).map V.int).length : Nat) : Int).toNat = L.length by rw [List.length_map, hll]; omega, List.take_length] at hD
    refine ⟨D, _, rfl, sq_lst hD, ?_⟩
    have e : ((L.map fun l => decide (loadI m l.2 ≤ l.1)).all id) = allowsF L m := by
      unfold allowsF
      rw [List.all_map]; rfl
    rw [e]
    exact q h0 h1 H2 (s1.trans s2)
/-- rule.allows_step(first, second) -/
def sp_Rule_allows_step (K : PySem.W.Frag) : Sp := fun vs H Q E => ∃ (r : Addr) (n : Nat) (L : List Lim) (y z : Int), vs = [.ref r, .int y, .int z] ∧ RuleAt K H r n L ∧ Good n L ∧ y.natAbs.log2 < 1920 ∧ z.natAbs.log2 < 1920 ∧
  ((y < 0 ∨ ((2 ^ n : Nat) : Int) ≤ y) → ∀ H' d, Same H H' → H' d = some (.xd [("value", .int y)]) → E (.ref (clsA K "BadWord")) (some d) H') ∧
  (0 ≤ y → y < ((2 ^ n : Nat) : Int) → (z < 0 ∨ ((2 ^ n : Nat) : Int) ≤ z) → ∀ H' d, Same H H' → H' d = some (.xd [("value", .int z)]) → E (.ref (clsA K "BadWord")) (some d) H') ∧
  (0 ≤ y → y < ((2 ^ n : Nat) : Int) → 0 ≤ z → z < ((2 ^ n : Nat) : Int) → ∀ H', Same H H' → Q (.bl (allowsF L (y.toNat ^^^ z.toNat))) H')
abbrev s_Rule_allows_step : Stmt := inClass (topS 14) 6
theorem sc_Rule_allows_step : FnScope ["self", "first", "second"] ["self", "first", "second"] (defScope s_Rule_allows_step) := ⟨rfl, rfl, rfl, by decide +kernel, rfl, by decide +kernel, by decide +kernel⟩
/-- slots: 0 self 1 first 2 second -/
theorem dn_Rule_allows_step (M : Mg mg) (C : Cg K mg) (g : FgM K "Rule" "allows_step" "Rule.allows_step" s_Rule_allows_step) (D_check_word : Dn P w K mg base (L2.CX P w) "check_word" 3 ["wires", "word"] (sp_check_word K)) (D_Rule_allows : DnM P w K mg base (L2.CX P w) "Rule" "allows" 5 ["self", "mask"] (sp_Rule_allows K)) : DnM P w K mg base (L2.CX P w) "Rule" "allows_step" 6 ["self", "first", "second"] (sp_Rule_allows_step K) := by
  refine dnm_ofX g sc_Rule_allows_step (fun vs H Q E h => by unfold sp_Rule_allows_step at h; (repeat (obtain ⟨_, h⟩ := h)); subst_vars; rfl) (fun _ _ _ _ _ _ us hl => match us, hl with | [_, _, _], _ => rfl) (fun f cdv A outer s H vs Q E hr h => ?_)
  obtain ⟨r, n, L, y, z, rfl, hR, G1, hy, hz, e1, e2, q⟩ := h
  have nd := sc_Rule_allows_step.nd
  refine ⟨_, (pss_cons (ps_expr (G.pe_callDS D_check_word (hr.mono (by decide)) (fun σ => passAt (takes_of rfl rfl rfl rfl) σ) (pa_cons (G.pe_fldK K (pv 0)) (pa_cons (pv 1) pa_nil))))
    (pss_cons (ps_expr (G.pe_callDS D_check_word (hr.mono (by decide)) (fun σ => passAt (takes_of rfl rfl rfl rfl) σ) (pa_cons (G.pe_fldK K (pv 0)) (pa_cons (pv 2) pa_nil))))
    (pss_one (ps_ret (G.pe_methD K D_Rule_allows (hr.mono (by decide)) (fun σ => passAt (takes_of rfl rfl rfl rfl) σ) (pv 0) (pa_cons (pe_op G.op_xorN (pv 1) (pv 2)) pa_nil)))))), ?_⟩
  obtain ⟨dx, t, hr1, hT⟩ := id hR
  have h300 := G1.n300
  refine ⟨_, rfl, r, _, dx, _, .int n, rfl, hr1, C.r_Rule.cl, C.n_Rule_wires, lkW _ _, _, rfl, n, y, rfl, by omega, hy, fun h d hd => e1 h _ d (same_new hd) upd_same, fun h0 h1 => ?_⟩
  refine ⟨_, rfl, r, _, dx, _, .int n, rfl, hr1, C.r_Rule.cl, C.n_Rule_wires, lkW _ _, _, rfl, n, z, rfl, by omega, hz, fun h d hd => e2 h0 h1 h _ d (same_new hd) upd_same, fun h2 h3 => ?_⟩
  obtain ⟨y, rfl⟩ := nat_ex h0
  obtain ⟨z, rfl⟩ := nat_ex h2
  have hx : y ^^^ z < 2 ^ n := Nat.xor_lt_two_pow (by omega) (by omega)
  have hx2 : y ^^^ z < 2 ^ 1000 := Nat.lt_of_lt_of_le hx (Nat.pow_le_pow_right (by decide) (by omega))
  refine ⟨_, rfl, r, dx, _, rfl, hr1, lkN _ _ (by decide +kernel) (by decide +kernel), _, rfl, _, rfl, y, z, rfl, rfl, r, n, L, ((y ^^^ z : Nat) : Int), rfl, hR, G1, log2_small hx2, fun h => by omega, fun _ _ H' s => ?_⟩
  exact q (by omega) h1 (by omega) h3 H' s
/-- mask in rule -/
def sp_Rule___contains__ (K : PySem.W.Frag) : Sp := fun vs H Q E => ∃ (r : Addr) (n : Nat) (L : List Lim) (z : Int), vs = [.ref r, .int z] ∧ RuleAt K H r n L ∧ Good n L ∧ z.natAbs.log2 < 1920 ∧
  ((z < 0 ∨ ((2 ^ n : Nat) : Int) ≤ z) → ∀ H' d, Same H H' → H' d = some (.xd [("value", .int z)]) → E (.ref (clsA K "BadWord")) (some d) H') ∧
  (0 ≤ z → z < ((2 ^ n : Nat) : Int) → ∀ H', Same H H' → Q (.bl (allowsF L z.toNat)) H')
abbrev s_Rule___contains__ : Stmt := inClass (topS 14) 7
theorem sc_Rule___contains__ : FnScope ["self", "mask"] ["self", "mask"] (defScope s_Rule___contains__) := ⟨rfl, rfl, rfl, by decide +kernel, rfl, by decide +kernel, by decide +kernel⟩
/-- slots: 0 self 1 mask -/
theorem dn_Rule___contains__ (M : Mg mg) (C : Cg K mg) (g : FgM K "Rule" "__contains__" "Rule.__contains__" s_Rule___contains__) (D_Rule_allows : DnM P w K mg base (L2.CX P w) "Rule" "allows" 5 ["self", "mask"] (sp_Rule_allows K)) : DnM P w K mg base (L2.CX P w) "Rule" "__contains__" 6 ["self", "mask"] (sp_Rule___contains__ K) := by
  refine dnm_ofX g sc_Rule___contains__ (fun vs H Q E h => by unfold sp_Rule___contains__ at h; (repeat (obtain ⟨_, h⟩ := h)); subst_vars; rfl) (fun _ _ _ _ _ _ us hl => match us, hl with | [_, _], _ => rfl) (fun f cdv A outer s H vs Q E hr h => ?_)
  obtain ⟨r, n, L, z, rfl, hR, G1, hz, e1, q⟩ := h
  have nd := sc_Rule___contains__.nd
  refine ⟨_, (pss_one (ps_ret (G.pe_methD K D_Rule_allows (hr.mono (by decide)) (fun σ => passAt (takes_of rfl rfl rfl rfl) σ) (pv 0) (pa_cons (pv 1) pa_nil)))), ?_⟩
  obtain ⟨dx, t, hr1, hT⟩ := id hR
  exact ⟨_, rfl, r, dx, _, rfl, hr1, lkN _ _ (by decide +kernel) (by decide +kernel), _, rfl, r, n, L, z, rfl, hR, G1, hz, e1, q⟩
/-- allowed_sets(rule): the allowed sets, ascending -/
def sp_allowed_sets (K : PySem.W.Frag) : Sp := fun vs H Q E => ∃ (r : Addr) (n : Nat) (L : List Lim), vs = [.ref r] ∧ RuleAt K H r n L ∧ Good n L ∧
  (10 < n → ∀ H' d, Same H H' → H' d = some (.xd [("limit", .int 10), ("what", .str "wires")]) → E (.ref (clsA K "TooMany")) (some d) H') ∧
  (n ≤ 10 → ∀ H' p, Same H H' → H p = none → H' p = some (.lst (nv (allL L n))) → Q (.ref p) H')
abbrev s_allowed_sets : Stmt := topS 15
theorem sc_allowed_sets : FnScope ["rule", "found", "wire", "mask"] ["rule"] (defScope s_allowed_sets) := ⟨rfl, rfl, rfl, by decide +kernel, rfl, by decide +kernel, by decide +kernel⟩
/-- slots: 0 rule 1 found 2 wire 3 mask -/
theorem dn_allowed_sets (M : Mg mg) (C : Cg K mg) (g : Fg K mg "allowed_sets" s_allowed_sets) (D_Rule_allows : DnM P w K mg base (L2.CX P w) "Rule" "allows" 5 ["self", "mask"] (sp_Rule_allows K)) (X_TooMany : ExD P w K mg base "TooMany" 1 (spI2 (clsA K "TooMany") "what" "limit" okTM)) : Dn P w K mg base (L2.CX P w) "allowed_sets" 6 ["rule"] (sp_allowed_sets K) := by
  refine dn_ofX g sc_allowed_sets (fun vs H Q E h => by unfold sp_allowed_sets at h; (repeat (obtain ⟨_, h⟩ := h)); subst_vars; rfl) (fun _ _ _ _ _ _ us hl => match us, hl with | [_], _ => rfl) (fun f cdv A outer s H vs Q E hr h => ?_)
  obtain ⟨r, n, L, rfl, hR, G1, e1, q⟩ := h
  have nd := sc_allowed_sets.nd
  obtain ⟨u_MOST_LISTED, c_MOST_LISTED⟩ := C.c_MOST_LISTED
  refine ⟨_, (pss_cons (ps_if (pt_cmpR op_gt (G.pe_fldK K (pv 0)) (pe_glob (v := .int 10) rfl c_MOST_LISTED ⟨_, rfl⟩) (nomark _)) (pss_one (ps_raise rfl (takes_of rfl rfl rfl rfl) (G.pmk_D X_TooMany (hr.mono (by decide)) (pa_cons pe_str (pa_cons (pe_glob (v := .int 10) rfl c_MOST_LISTED ⟨_, rfl⟩) pa_nil))))) pss_nil)
    (pss_cons (ps_set (i := 1) nd rfl (by first | exact Or.inl rfl | exact Or.inr rfl) (pe_lst (pa_cons pe_int pa_nil)))
    (pss_cons (ps_for (passes_of rfl) rfl (pi_range1 rfl M.range (pa_cons (G.pe_fldK K (pv 0)) pa_nil)) (pg_name (i := 2) nd rfl (by first | exact Or.inl rfl | exact Or.inr rfl)) (pss_one (ps_set (i := 1) nd rfl (by first | exact Or.inl rfl | exact Or.inr rfl) (pe_op op_cat (pv 1) (pe_lc (own := [("mask", 3)]) (g := (gName 3)) rfl nd (G.pi_listK K (pv 1)) (blkOk_by (by kernel_rfl)) (fun _ _ _ _ _ => (pg_name (i := 3) nd rfl (by first | exact Or.inl rfl | exact Or.inr rfl))) (fun _ _ _ _ _ => (pts_one (pt_val (G.pe_methD K D_Rule_allows (hr.mono (by decide)) (G.atAll passL) (pv 0) (pa_cons (pe_op G.op_orN (pv 3) (pe_op G.op_shlM pe_int (pv 2))) pa_nil))))) (fun _ _ _ _ _ => (pe_op G.op_orN (pv 3) (pe_op G.op_shlM pe_int (pv 2)))))))))
    (pss_one (ps_ret (pv 1)))))), ?_⟩
  obtain ⟨dx, t, hr1, hT⟩ := id hR
  refine ⟨_, rfl, r, _, dx, _, .int n, rfl, hr1, C.r_Rule.cl, C.n_Rule_wires, lkW _ _, _, _, rfl, rfl, _, rfl, ite2d (fun c => ?_) (fun c => ?_)⟩
  · exact raise2 ⟨"wires", 10, rfl, rfl, by decide +kernel, by decide⟩ fun d hd => e1 (by omega) _ d (same_new hd) upd_same
  refine ⟨sz (by simp), fun o no => ?_⟩
  have s1 : Same H (upd H o (.lst [.int 0])) := same_new no
  have h0 : (upd H o (.lst [.int 0])) o = some (.lst (nv (allL L 0))) := by rw [upd_same, allL_zero G1.fit]; rfl
  generalize upd H o (.lst [.int 0]) = H1 at *
  refine ⟨_, rfl, r, _, dx, _, .int n, rfl, s1 _ _ hr1, C.r_Rule.cl, C.n_Rule_wires, lkW _ _, _, rfl, by omega, by omega, for_range (lo := 0) (n := n) (fun i σ H' => Same H H' ∧ ∃ p v2 v3, H p = none ∧ H' p = some (.lst (nv (allL L i))) ∧ σ = [some (.ref r), some (.ref p), v2, v3]) ⟨s1, o, none, none, no, h0, rfl⟩ ?_ ?_⟩
  · rintro i σ H' hi ⟨s2, p, v2, v3, np, hp, rfl⟩
    have hi10 : i < 10 := by omega
    have hL : (allL L i).length ≤ 1024 := Nat.le_trans (allL_len L i) (Nat.pow_le_pow_right (by decide) (by omega : i ≤ 10))
    refine ⟨_, rfl, _, rfl, p, rfl, ⟨_, sq_lst hp⟩, fun D nD => lc_list (K := K) (a := p) (xs := nv (allL L i)) (fun j H2 => Same H' H2 ∧ H2 D = some (.lst (nv ((((allL L i).take j).map fun m => m ||| 1 <<< i).filter fun m => allowsF L m)))) ⟨same_new nD, upd_same⟩ (fun j H2 _ ⟨s3, _⟩ => sq_lst (s3 _ _ hp)) ?_ ?_⟩
    · rintro j y H2 hy ⟨s3, hD⟩
      obtain ⟨m, hm, rfl⟩ := nv_at hy
      have hj : j < (allL L i).length := (List.getElem?_eq_some_iff.mp hm).1
      have hm2 := allL_lt (List.mem_of_getElem? hm)
      have hb : m ||| 1 <<< i < 2 ^ n := Nat.or_lt_two_pow (Nat.lt_of_lt_of_le hm2 (Nat.pow_le_pow_right (by decide) (by omega))) (lt_shl (by omega))
      have hb2 : m ||| 1 <<< i < 2 ^ 1000 := Nat.lt_of_lt_of_le hb (Nat.pow_le_pow_right (by decide) (by omega))
      have s23 := s2.trans s3
      have hlt : (List.filter (fun m => allowsF L m) (List.map (fun m => m ||| 1 <<< i) (List.take j (allL L i)))).length ≤ j := Nat.le_trans (List.length_filter_le _ _) (by rw [List.length_map, List.length_take]; omega)
      refine ⟨rfl, _, rfl, r, dx, _, rfl, s23 _ _ hr1, lkN _ _ (by decide +kernel) (by decide +kernel), _, rfl, _, rfl, 1, i, rfl, congrArg V.int (Int.zero_add _), ⟨by omega, by decide⟩, m, 1 <<< i, rfl, rfl, r, n, L, ((m ||| 1 <<< i : Nat) : Int), rfl, hR.mono s23, G1, log2_small hb2, fun h => by omega, fun _ _ H3 s4 => ⟨_, rfl, ?_⟩⟩
      rw [Int.toNat_natCast]
      have hD3 := s4 _ _ hD
      refine ite2 (fun e => ?_) (fun e => ?_)
      · refine ⟨_, rfl, _, rfl, 1, i, rfl, congrArg V.int (Int.zero_add _), ⟨by omega, by decide⟩, m, 1 <<< i, rfl, rfl, _, hD3, szl (by rw [nv_len]; omega), Same.mut (s3.trans s4) nD, ?_⟩
        rw [upd_same, take_more hm, List.map_append, List.filter_append, List.map_cons, List.map_nil, List.filter_cons, if_pos e, nv_app]; rfl
      · refine ⟨s3.trans s4, ?_⟩
        rw [take_more hm, List.map_append, List.filter_append, List.map_cons, List.map_nil, List.filter_cons, if_neg e, List.filter_nil, List.append_nil]; exact hD3
    · rintro H2 ⟨s3, hD⟩
      rw [nv_len, List.take_length] at hD
      have hlt : (List.filter (fun m => allowsF L m) (List.map (fun m => m ||| 1 <<< i) (allL L i))).length ≤ 1024 := Nat.le_trans (List.length_filter_le _ _) (by rw [List.length_map]; omega)
      refine ⟨p, D, _, _, rfl, rfl, s3 _ _ hp, hD, sz (by rw [nv_len, nv_len]; omega), fun u nu => ?_⟩
      refine ⟨(s2.trans s3).new nu, u, _, _, (s2.trans s3).none nu, ?_, rfl⟩
      rw [upd_same, allL_succ G1.fit, nv_app]
  · rintro σ H' ⟨s2, p, v2, v3, np, hp, rfl⟩
    exact ⟨_, rfl, q (by omega) H' p s2 np hp⟩
/-- _law_pool(script, count): a new list of ints -/
def sp__law_pool (K : PySem.W.Frag) : Sp := fun vs H Q _ => ∃ (a : Addr) (ns : List Int) (c : Nat), vs = [.ref a, .int c] ∧ SqL K H a (ns.map V.int) ∧ ns.length ≤ 1000 ∧ c ≤ 100000 ∧
  ∀ (H' : Hp) (p : Addr) (ds : List Int), Same H H' → H p = none → H' p = some (.lst (ds.map V.int)) → Q (.ref p) H'
/-- the draws so far -/
structure Drawn1 (H H' : Hp) (o : Addr) (c : Nat) : Prop where
  same : Same H H'
  at_ : ∃ ds : List Int, H' o = some (.lst (ds.map V.int)) ∧ ds.length ≤ c
theorem Drawn1.add {H H' : Hp} {o : Addr} {c : Nat} {ds : List Int} {z : Int} (d : Drawn1 H H' o c) (hn : H o = none) (h : ds.length < c) : Drawn1 H (upd H' o (.lst (ds.map V.int ++ [.int z]))) o c :=
  ⟨Same.mut d.same hn, ds ++ [z], by rw [upd_same, List.map_append]; rfl, by rw [List.length_append]; exact h⟩
abbrev s__law_pool : Stmt := topS 17
theorem sc__law_pool : FnScope ["script", "count", "draws", "seed", "cell", "number", "k"] ["script", "count"] (defScope s__law_pool) := ⟨rfl, rfl, rfl, by decide +kernel, rfl, by decide +kernel, by decide +kernel⟩
/-- slots: 0 script 1 count 2 draws 3 seed 4 cell 5 number 6 k -/
theorem dn__law_pool (M : Mg mg) (C : Cg K mg) (g : Fg K mg "_law_pool" s__law_pool) : Dn P w K mg base CX0 "_law_pool" 1 ["script", "count"] (sp__law_pool K) := by
  refine dn_of g sc__law_pool (fun vs H Q E h => by unfold sp__law_pool at h; (repeat (obtain ⟨_, h⟩ := h)); subst_vars; rfl) (fun _ _ _ _ _ _ us hl => match us, hl with | [_, _], _ => rfl) (fun f cdv A outer s H vs Q E hr h => ?_)
  obtain ⟨a, ns, c, rfl, hS, hlen, hc, q⟩ := h
  have nd := sc__law_pool.nd
  refine ⟨_, (pss_cons (ps_set (i := 2) nd rfl (by first | exact Or.inl rfl | exact Or.inr rfl) (pe_lst pa_nil))
    (pss_cons (ps_set (i := 3) nd rfl (by first | exact Or.inl rfl | exact Or.inr rfl) (pe_op op_add pe_int (pe_callB (G.call_lenK K) (by rfl) M.len PySem.boot_len (pa_cons (pv 0) pa_nil))))
    (pss_cons (ps_for PassesOwn.never rfl (G.pi_listK K (pv 0)) (pg_name (i := 4) nd rfl (by first | exact Or.inl rfl | exact Or.inr rfl)) (pss_cons (ps_set (i := 5) nd rfl (by first | exact Or.inl rfl | exact Or.inr rfl) (pe_callTy call_int1 (by rfl) M.int (by decide +kernel) (pa_cons (pv 4) pa_nil)))
    (Evl.pss_cut (ps_if (pt_cmpR op_ge (pv 5) (pe_op op_pow pe_int pe_int) (nomark _)) (pss_one (ps_for PassesOwn.never rfl (pi_range1 rfl M.range (pa_cons pe_int pa_nil)) (pg_name (i := 6) nd rfl (by first | exact Or.inl rfl | exact Or.inr rfl)) (pss_one (ps_if (PW.pt (pw_and (pt_cmpR op_gt (pv 5) pe_int (nomark _)) (pw_and1 (pt_cmpR op_lt (pe_callB (G.call_lenK K) (by rfl) M.len PySem.boot_len (pa_cons (pv 2) pa_nil)) (pv 1) (nomark _))))) (pss_cons (ps_expr (pe_bm PySem.F.plainAttrs_list PySem.F.slot_list_append PySem.F.type_list_append mt_append (pv 2) (pa_cons (pe_op op_mod (pe_callTy call_int1 (by rfl) M.int (by decide +kernel) (pa_cons (pv 5) pa_nil)) pe_int) pa_nil)))
    (pss_one (ps_set (i := 5) nd rfl (by first | exact Or.inl rfl | exact Or.inr rfl) (pe_op op_fdiv (pv 5) pe_int)))) pss_nil)))) (pss_one (ps_if (pt_cmpR op_lt (pe_callB (G.call_lenK K) (by rfl) M.len PySem.boot_len (pa_cons (pv 2) pa_nil)) (pv 1) (nomark _)) (pss_one (ps_expr (pe_bm PySem.F.plainAttrs_list PySem.F.slot_list_append PySem.F.type_list_append mt_append (pv 2) (pa_cons (pe_op op_mod (pe_callTy call_int1 (by rfl) M.int (by decide +kernel) (pa_cons (pv 5) pa_nil)) pe_int) pa_nil)))) pss_nil)))
    (pss_one (ps_set (i := 3) nd rfl (by first | exact Or.inl rfl | exact Or.inr rfl) (pe_op op_mod (pe_callTy call_int1 (by rfl) M.int (by decide +kernel) (pa_cons (pe_op op_add (pe_op op_add (pe_op op_mul (pv 3) pe_int) (pe_op op_mod (pe_callTy call_int1 (by rfl) M.int (by decide +kernel) (pa_cons (pv 5) pa_nil)) pe_int)) pe_int) pa_nil)) pe_int))))))
    (pss_cons (ps_for PassesOwn.never rfl (pi_range1 rfl M.range (pa_cons (pv 1) pa_nil)) (pg_name (i := 6) nd rfl (by first | exact Or.inl rfl | exact Or.inr rfl)) (pss_cons (ps_set (i := 3) nd rfl (by first | exact Or.inl rfl | exact Or.inr rfl) (pe_op op_mod (pe_callTy call_int1 (by rfl) M.int (by decide +kernel) (pa_cons (pe_op op_add (pe_op op_add (pe_op op_mul (pv 3) pe_int) pe_int) (pv 6)) pa_nil)) pe_int))
    (pss_one (ps_if (pt_cmpR op_lt (pe_callB (G.call_lenK K) (by rfl) M.len PySem.boot_len (pa_cons (pv 2) pa_nil)) (pv 1) (nomark _)) (pss_one (ps_expr (pe_bm PySem.F.plainAttrs_list PySem.F.slot_list_append PySem.F.type_list_append mt_append (pv 2) (pa_cons (pe_op op_mod (pe_op op_fdiv (pe_op op_mod (pe_callTy call_int1 (by rfl) M.int (by decide +kernel) (pa_cons (pe_op op_mul (pe_op op_add (pe_op op_fdiv (pv 3) pe_int) pe_int) (pe_op op_add (pe_op op_fdiv (pv 3) pe_int) pe_int)) pa_nil)) pe_int) pe_int) pe_int) pa_nil)))) pss_nil))))
    (pss_cons (ps_expr (pe_bm0 PySem.F.plainAttrs_list PySem.F.slot_list_reverse PySem.F.type_list_reverse mt_reverse (pv 2)))
    (pss_one (ps_ret (pv 2)))))))), ?_⟩
  refine ⟨Nat.zero_le _, fun o no => ?_⟩
  have s1 : Same H (upd H o (.lst [])) := same_new no
  refine ⟨_, rfl, a, _, rfl, .inl (s1.seq hS), _, _, rfl, rfl, ?_⟩
  refine ⟨_, rfl, a, rfl, ⟨_, s1.seq hS⟩, for_ints (ns := ns) (fun i σ H' => Drawn1 H H' o c ∧ ∃ (seed : Int) (v4 v5 v6 : Option V), σ = [some (.ref a), some (.int c), some (.ref o), some (.int seed), v4, v5, v6] ∧ 0 ≤ seed ∧ seed < 2147483647)
    ⟨⟨s1, [], upd_same, Nat.zero_le _⟩, _, none, none, none, rfl, by omega, by rw [List.length_map]; omega⟩ (fun i σ H' _ p => p.1.same.seq hS) ?_ ?_⟩
  · rintro i n σ H' hi ⟨d, seed, v4, v5, v6, rfl, h0, h1⟩
    refine ⟨_, rfl, .inl ⟨n, rfl, ?_⟩⟩
    refine ⟨fun σ2 H2 => Drawn1 H H2 o c ∧ ∃ (number : Int) (w6 : Option V), σ2 = [some (.ref a), some (.int c), some (.ref o), some (.int seed), some (.int n), some (.int number), w6], ?_, ?_⟩
    rotate_left
    · rintro σ2 H2 ⟨d2, number, w6, rfl⟩
      refine ⟨_, rfl, _, _, rfl, rfl, .inl ⟨by omega, by omega⟩, _, rfl, .inl ⟨_, rfl, _, _, rfl, rfl, by omega, _, _, rfl, rfl, _, _, rfl, rfl, .inl ⟨_, rfl, _, _, rfl, rfl, by omega, ?_⟩⟩⟩
      exact ⟨d2, _, _, _, _, rfl, by omega, by omega⟩
    refine ⟨_, rfl, _, _, rfl, rfl, ⟨by omega, by omega, by decide⟩, _, _, rfl, rfl, _, rfl, ite2d (fun e => ?_) (fun e => ?_)⟩
    · refine ⟨_, rfl, by omega, by omega, for_range (lo := 0) (n := 60) (fun j σ2 H2 => Drawn1 H H2 o c ∧ ∃ (number : Int) (v6 : Option V), σ2 = [some (.ref a), some (.int c), some (.ref o), some (.int seed), some (.int n), some (.int number), v6])
        ⟨d, n, v6, rfl⟩ ?_ ?_⟩
      · rintro j σ2 H2 hj ⟨d2, number, w6, rfl⟩
        refine ⟨_, rfl, _, _, rfl, rfl, _, rfl, ite2d (fun e1 => ?_) (fun e1 => ?_)⟩
        · obtain ⟨ds, ed, ld⟩ := d2.at_
          refine ⟨_, rfl, o, _, rfl, .inl (sq_lst ed), _, rfl, _, _, rfl, rfl, _, rfl, ite2d (fun e2 => ?_) (fun e2 => ?_)⟩
          · rw [List.length_map] at e2
            refine ⟨_, rfl, .inl ⟨rfl, _, sq_lst ed⟩, _, rfl, .inl ⟨_, rfl, _, _, rfl, rfl, by omega, o, _, _, rfl, rfl, ed, szl (by rw [List.length_map]; omega), ?_⟩⟩
            refine ⟨_, rfl, _, _, rfl, rfl, ⟨by omega, by omega⟩, ?_⟩
            exact ⟨d2.add no (by omega), _, _, rfl⟩
          · exact ⟨d2, _, _, rfl⟩
        · exact ⟨d2, _, _, rfl⟩
      · rintro σ2 H2 ⟨d2, number, w6, rfl⟩
        exact ⟨d2, number, w6, rfl⟩
    · obtain ⟨ds, ed, ld⟩ := d.at_
      refine ⟨_, rfl, o, _, rfl, .inl (sq_lst ed), _, rfl, _, _, rfl, rfl, _, rfl, ite2d (fun e2 => ?_) (fun e2 => ?_)⟩
      · rw [List.length_map] at e2
        refine ⟨_, rfl, .inl ⟨rfl, _, sq_lst ed⟩, _, rfl, .inl ⟨_, rfl, _, _, rfl, rfl, by omega, o, _, _, rfl, rfl, ed, szl (by rw [List.length_map]; omega), ?_⟩⟩
        exact ⟨d.add no (by omega), _, _, rfl⟩
      · exact ⟨d, _, _, rfl⟩
  · rintro σ H' ⟨d, seed, v4, v5, v6, rfl, h0, h1⟩
    refine ⟨_, rfl, _, rfl, by omega, by omega, for_range (lo := 0) (n := c) (fun i σ H' => Drawn1 H H' o c ∧ ∃ (seed : Int) (v6 : Option V), σ = [some (.ref a), some (.int c), some (.ref o), some (.int seed), v4, v5, v6] ∧ 0 ≤ seed ∧ seed < 2147483647)
      ⟨d, seed, v6, rfl, h0, h1⟩ ?_ ?_⟩
    · rintro i σ2 H2 hi ⟨d2, sd, w6, rfl, g0, g1⟩
      refine ⟨_, rfl, _, _, rfl, rfl, .inl ⟨by omega, by omega⟩, _, _, rfl, rfl, _, rfl, _, _, rfl, rfl, .inl ⟨_, rfl, _, _, rfl, rfl, by omega, ?_⟩⟩
      obtain ⟨ds, ed, ld⟩ := d2.at_
      refine ⟨_, rfl, o, _, rfl, .inl (sq_lst ed), _, rfl, _, _, rfl, rfl, _, rfl, ite2d (fun e2 => ?_) (fun e2 => ?_)⟩
      · rw [List.length_map] at e2
        refine ⟨_, rfl, .inl ⟨rfl, _, sq_lst ed⟩, _, rfl, _, _, rfl, rfl, ⟨by omega, by omega⟩, _, _, rfl, rfl, _, rfl, _, _, rfl, rfl, ⟨by omega, by omega⟩, _, _, rfl, rfl, _, _, rfl, rfl, .inl ⟨by omega, by omega⟩, .inl ⟨_, rfl, _, _, rfl, rfl, by omega, _, _, rfl, rfl, ⟨by omega, by omega⟩, _, _, rfl, rfl, by omega, o, _, _, rfl, rfl, ed, szl (by rw [List.length_map]; omega), ?_⟩⟩
        exact ⟨d2.add no (by omega), _, _, rfl, by omega, by omega⟩
      · exact ⟨d2, _, _, rfl, by omega, by omega⟩
    · rintro σ2 H2 ⟨d2, sd, w6, rfl, g0, g1⟩
      obtain ⟨ds, ed, ld⟩ := d2.at_
      refine ⟨_, rfl, .inl ⟨rfl, _, sq_lst ed⟩, o, _, rfl, rfl, ed, ?_⟩
      refine ⟨_, rfl, q _ o ds.reverse (Same.mut d2.same no) no ?_⟩
      rw [upd_same, List.map_reverse]
/-- _law_take(pool, limit): some number from 0 to limit - 1; of the pool alone a list of ints is left -/
def sp__law_take (_K : PySem.W.Frag) : Sp := fun vs H Q _ => ∃ (p : Addr) (lim : Int), vs = [.ref p, .int lim] ∧ PoolAt H p ∧ 0 < lim ∧
  ∀ (r : Int) (ns : List Int), 0 ≤ r → r < lim → Q (.int r) (upd H p (.lst (ns.map V.int)))
abbrev s__law_take : Stmt := topS 18
theorem sc__law_take : FnScope ["pool", "limit"] ["pool", "limit"] (defScope s__law_take) := ⟨rfl, rfl, rfl, by decide +kernel, rfl, by decide +kernel, by decide +kernel⟩
/-- slots: 0 pool 1 limit -/
theorem dn__law_take (M : Mg mg) (C : Cg K mg) (g : Fg K mg "_law_take" s__law_take) : Dn P w K mg base CX0 "_law_take" 1 ["pool", "limit"] (sp__law_take K) := by
  refine dn_of g sc__law_take (fun vs H Q E h => by unfold sp__law_take at h; (repeat (obtain ⟨_, h⟩ := h)); subst_vars; rfl) (fun _ _ _ _ _ _ us hl => match us, hl with | [_, _], _ => rfl) (fun f cdv A outer s H vs Q E hr h => ?_)
  obtain ⟨p, lim, rfl, ⟨ns, hp⟩, hl, q⟩ := h
  have nd := sc__law_take.nd
  refine ⟨_, (pss_cons (ps_if (pt_cmpR op_gt (pe_callB (G.call_lenK K) (by rfl) M.len PySem.boot_len (pa_cons (pv 0) pa_nil)) pe_int (nomark _)) (pss_one (ps_ret (pe_op op_mod (pe_callTy call_int1 (by rfl) M.int (by decide +kernel) (pa_cons (pe_bm0 PySem.F.plainAttrs_list PySem.F.slot_list_pop PySem.F.type_list_pop mt_pop (pv 0)) pa_nil)) (pv 1)))) pss_nil)
    (pss_one (ps_ret pe_int))), ?_⟩
  refine ⟨_, rfl, p, ns.map V.int, rfl, .inl (sq_lst hp), _, _, rfl, rfl, _, rfl, ite2d (fun e => ?_) (fun e => ?_)⟩
  · have hne : ns ≠ [] := fun z => by subst z; simp at e
    obtain ⟨l, z, rfl⟩ : ∃ l z, ns = l ++ [z] := ⟨ns.dropLast, ns.getLast hne, (List.dropLast_concat_getLast hne).symm⟩
    refine ⟨_, rfl, .inl ⟨rfl, _, sq_lst hp⟩, p, _, .int z, rfl, rfl, hp, ?_, .inl ⟨z, rfl, .int lim, rfl, z, lim, rfl, rfl, hl, ?_⟩⟩
    · simp
    · have hd : ((l ++ [z]).map V.int).dropLast = l.map V.int := by rw [List.map_append]; simp
      rw [hd]
      exact q _ _ (Int.emod_nonneg _ (by omega)) (Int.emod_lt_of_pos _ hl)
  · have hz : ns = [] := by
      cases ns with
      | nil => rfl
      | cons a b => exfalso; apply e; rw [List.length_map, List.length_cons]; omega
    subst hz
    have hu : upd H p (.lst (([] : List Int).map V.int)) = H := by
      funext b; unfold upd; split
      · rename_i eb; subst eb; exact hp.symm
      · rfl
    have := q 0 [] (by omega) hl
    rw [hu] at this
    exact this
/-- _law_mask(pool, wires): some set of the wires -/
def sp__law_mask (_K : PySem.W.Frag) : Sp := fun vs H Q _ => ∃ (p : Addr) (w : Nat), vs = [.ref p, .int w] ∧ PoolAt H p ∧ w ≤ 100000 ∧ ∀ (r : Nat) (H' : Hp), r < 2 ^ w → Pl p H H' → Q (.int r) H'
abbrev s__law_mask : Stmt := topS 19
theorem sc__law_mask : FnScope ["pool", "wires", "mask", "start"] ["pool", "wires"] (defScope s__law_mask) := ⟨rfl, rfl, rfl, by decide +kernel, rfl, by decide +kernel, by decide +kernel⟩
/-- slots: 0 pool 1 wires 2 mask 3 start -/
theorem dn__law_mask (M : Mg mg) (C : Cg K mg) (g : Fg K mg "_law_mask" s__law_mask) (D__law_take : Dn P w K mg base CX0 "_law_take" 1 ["pool", "limit"] (sp__law_take K)) : Dn P w K mg base CX0 "_law_mask" 2 ["pool", "wires"] (sp__law_mask K) := by
  refine dn_of g sc__law_mask (fun vs H Q E h => by unfold sp__law_mask at h; (repeat (obtain ⟨_, h⟩ := h)); subst_vars; rfl) (fun _ _ _ _ _ _ us hl => match us, hl with | [_, _], _ => rfl) (fun f cdv A outer s H vs Q E hr h => ?_)
  obtain ⟨p, n, rfl, hp, hw, q⟩ := h
  have nd := sc__law_mask.nd
  refine ⟨_, (pss_cons (ps_set (i := 2) nd rfl (by first | exact Or.inl rfl | exact Or.inr rfl) pe_int)
    (pss_cons (ps_for PassesOwn.never rfl (pi_range3 rfl M.range (pa_cons pe_int (pa_cons (pv 1) (pa_cons pe_int pa_nil)))) (pg_name (i := 3) nd rfl (by first | exact Or.inl rfl | exact Or.inr rfl)) (pss_one (ps_set (i := 2) nd rfl (by first | exact Or.inl rfl | exact Or.inr rfl) (pe_op op_add (pv 2) (pe_op G.op_shlM (G.pe_callD D__law_take (hr.mono (by decide)) pass0 (pa_cons (pv 0) (pa_cons pe_int pa_nil))) (pv 3))))))
    (pss_one (ps_ret (pe_op op_mod (pe_callTy call_int1 (by rfl) M.int (by decide +kernel) (pa_cons (pv 2) pa_nil)) (pe_op G.op_shlM pe_int (pv 1))))))), ?_⟩
  refine ⟨_, rfl, 0, (n : Int), 9, (n + 9 - 1) / 9, rfl, rg_up (c := 9) (by omega) (by omega) (by omega), for_rangeC (lo := 0) (c := 9) (n := (n + 9 - 1) / 9) (fun i σ H' => Pl p H H' ∧ ∃ (m : Nat) (v : Option V), σ = [some (.ref p), some (.int n), some (.int m), v])
    ⟨Pl.refl hp, 0, none, rfl⟩ ?_ ?_⟩
  · rintro i σ H' hi ⟨hl, m, v, rfl⟩
    have hi2 : i * 9 ≤ 1000000 := by
      have := Nat.div_mul_le_self (n + 9 - 1) 9
      omega
    refine ⟨_, rfl, _, rfl, p, 512, rfl, hl.at_, by omega, fun r ns h0 h1 => ?_⟩
    obtain ⟨r, rfl⟩ := nat_ex h0
    refine ⟨_, rfl, r, i * 9, rfl, congrArg V.int (by simp), ⟨by omega, by omega⟩, _, _, rfl, rfl, hl.draw ns, m + r <<< (i * 9), _, rfl⟩
  · rintro σ H' ⟨hl, m, v, rfl⟩
    refine ⟨_, rfl, .inl ⟨_, rfl, _, rfl, 1, n, rfl, rfl, ⟨by omega, by decide⟩, m, ((1 <<< n : Nat) : Int), rfl, rfl, ?_, ?_⟩⟩
    · rw [Nat.one_shiftLeft]
      have := Nat.two_pow_pos n
      omega
    · have := q (m % 1 <<< n) H' (by rw [Nat.one_shiftLeft]; exact Nat.mod_lt _ (Nat.two_pow_pos n)) hl
      rw [Int.natCast_emod] at this
      exact this
/-- _law_limits(pool, wires): a new list of limits that fit -/
def sp__law_limits (_K : PySem.W.Frag) : Sp := fun vs H Q _ => ∃ (p : Addr) (n : Nat), vs = [.ref p, .int n] ∧ PoolAt H p ∧ n ≤ 300 ∧
  ∀ H' a L, Pl p H H' → H a = none → a ≠ p → Is (del H' p) (.ref a) (.lst (L.map limL)) → Good n L → L.length ≤ 4 → Q (.ref a) H'
structure ItemsAt (p : Addr) (B : Hp) (q : Addr) (ys : List V) (its : List (Int × Int)) (H' : Hp) : Prop where
  pl : Pl p B H'
  at_ : H' q = some (.lst ys)
  is : IsL (tups H') ys (its.map pr)
theorem ItemsAt.draw {p q : Addr} {B H' : Hp} {ys : List V} {its : List (Int × Int)} (h : ItemsAt p B q ys its H') (hq : q ≠ p) (ns : List Int) : ItemsAt p B q ys its (upd H' p (.lst (ns.map V.int))) :=
  ⟨h.pl.draw ns, by rw [upd_ne hq]; exact h.at_, IsL.mono (by obtain ⟨ms, e⟩ := h.pl.at_; exact tups_lst e) h.is⟩
theorem ItemsAt.len {p q : Addr} {B H' : Hp} {ys : List V} {its : List (Int × Int)} (h : ItemsAt p B q ys its H') : ys.length = its.length := by rw [h.is.length, List.length_map]
abbrev s__law_limits : Stmt := topS 20
theorem sc__law_limits : FnScope ["pool", "wires", "limits", "k", "kind", "mask", "top", "items", "total", "wire", "weight", "bound"] ["pool", "wires"] (defScope s__law_limits) := ⟨rfl, rfl, rfl, by decide +kernel, rfl, by decide +kernel, by decide +kernel⟩
/-- slots: 0 pool 1 wires 2 limits 3 k 4 kind 5 mask 6 top 7 items 8 total 9 wire 10 weight 11 bound -/
theorem dn__law_limits (M : Mg mg) (C : Cg K mg) (g : Fg K mg "_law_limits" s__law_limits) (D__law_take : Dn P w K mg base CX0 "_law_take" 1 ["pool", "limit"] (sp__law_take K)) (D__law_mask : Dn P w K mg base CX0 "_law_mask" 2 ["pool", "wires"] (sp__law_mask K)) : Dn P w K mg base CX0 "_law_limits" 3 ["pool", "wires"] (sp__law_limits K) := by
  refine dn_of g sc__law_limits (fun vs H Q E h => by unfold sp__law_limits at h; (repeat (obtain ⟨_, h⟩ := h)); subst_vars; rfl) (fun _ _ _ _ _ _ us hl => match us, hl with | [_, _], _ => rfl) (fun f cdv A outer s H vs Q E hr h => ?_)
  obtain ⟨p, n, rfl, hp, hn, q⟩ := h
  have nd := sc__law_limits.nd
  refine ⟨_, (pss_cons (ps_set (i := 2) nd rfl (by first | exact Or.inl rfl | exact Or.inr rfl) (pe_lst pa_nil))
    (pss_cons (ps_for PassesOwn.never rfl (pi_range1 rfl M.range (pa_cons (G.pe_callD D__law_take (hr.mono (by decide)) pass0 (pa_cons (pv 0) (pa_cons pe_int pa_nil))) pa_nil)) (pg_name (i := 3) nd rfl (by first | exact Or.inl rfl | exact Or.inr rfl)) (pss_cons (ps_set (i := 4) nd rfl (by first | exact Or.inl rfl | exact Or.inr rfl) (G.pe_callD D__law_take (hr.mono (by decide)) pass0 (pa_cons (pv 0) (pa_cons pe_int pa_nil))))
    (pss_cons (ps_set (i := 5) nd rfl (by first | exact Or.inl rfl | exact Or.inr rfl) (G.pe_callD D__law_mask (hr.mono (by decide)) pass0 (pa_cons (pv 0) (pa_cons (pv 1) pa_nil))))
    (pss_cons (ps_set (i := 6) nd rfl (by first | exact Or.inl rfl | exact Or.inr rfl) pe_int)
    (Evl.pss_cut (ps_if (pt_cmpR op_eq (pv 4) pe_int (nomark _)) (pss_one (ps_set (i := 6) nd rfl (by first | exact Or.inl rfl | exact Or.inr rfl) pe_int)) pss_nil)
    (Evl.pss_cut (ps_if (pt_cmpR op_eq (pv 4) pe_int (nomark _)) (pss_one (ps_set (i := 6) nd rfl (by first | exact Or.inl rfl | exact Or.inr rfl) pe_int)) pss_nil)
    (pss_cons (ps_set (i := 7) nd rfl (by first | exact Or.inl rfl | exact Or.inr rfl) (pe_lst pa_nil))
    (pss_cons (ps_set (i := 8) nd rfl (by first | exact Or.inl rfl | exact Or.inr rfl) pe_int)
    (pss_cons (ps_for PassesOwn.never rfl (pi_range1 rfl M.range (pa_cons (pv 1) pa_nil)) (pg_name (i := 9) nd rfl (by first | exact Or.inl rfl | exact Or.inr rfl)) (pss_one (ps_if (PW.pt (pw_or (pt_cmpR op_eq (pv 4) pe_int (nomark _)) (pw_or1 (pt_cmpR op_eq (pe_op G.op_andN (pe_op G.op_shrM (pv 5) (pv 9)) pe_int) pe_int (nomark _))))) (pss_cons (ps_set (i := 10) nd rfl (by first | exact Or.inl rfl | exact Or.inr rfl) (pe_op op_add pe_int (G.pe_callD D__law_take (hr.mono (by decide)) pass0 (pa_cons (pv 0) (pa_cons (pv 6) pa_nil)))))
    (pss_cons (ps_expr (pe_bm PySem.F.plainAttrs_list PySem.F.slot_list_append PySem.F.type_list_append mt_append (pv 7) (pa_cons (pe_tup (pa_cons (pv 9) (pa_cons (pv 10) pa_nil))) pa_nil)))
    (pss_one (ps_set (i := 8) nd rfl (by first | exact Or.inl rfl | exact Or.inr rfl) (pe_op op_add (pv 8) (pv 10)))))) pss_nil)))
    (pss_cons (ps_set (i := 11) nd rfl (by first | exact Or.inl rfl | exact Or.inr rfl) (pe_op op_mod (pe_callTy call_int1 (by rfl) M.int (by decide +kernel) (pa_cons (pe_op op_add (pe_op op_mul (G.pe_callD D__law_take (hr.mono (by decide)) pass0 (pa_cons (pv 0) (pa_cons pe_int pa_nil))) pe_int) (G.pe_callD D__law_take (hr.mono (by decide)) pass0 (pa_cons (pv 0) (pa_cons pe_int pa_nil)))) pa_nil)) (pe_op op_add (pv 8) pe_int)))
    (Evl.pss_cut (ps_if (pt_cmpR op_eq (pv 4) pe_int (nomark _)) (pss_one (ps_set (i := 11) nd rfl (by first | exact Or.inl rfl | exact Or.inr rfl) (pe_callB (call_max2 rfl) (by rfl) M.max (by decide +kernel) (pa_cons pe_int (pa_cons (pe_op op_sub (pv 8) pe_int) pa_nil))))) pss_nil)
    (Evl.pss_cut (ps_if (pt_cmpR op_eq (pv 4) pe_int (nomark _)) (pss_one (ps_set (i := 11) nd rfl (by first | exact Or.inl rfl | exact Or.inr rfl) (G.pe_callD D__law_take (hr.mono (by decide)) pass0 (pa_cons (pv 0) (pa_cons pe_int pa_nil))))) pss_nil)
    (pss_one (ps_expr (pe_bm PySem.F.plainAttrs_list PySem.F.slot_list_append PySem.F.type_list_append mt_append (pv 2) (pa_cons (pe_tup (pa_cons (pv 11) (pa_cons (pv 7) pa_nil))) pa_nil))))))))))))))))
    (pss_one (ps_ret (pv 2))))), ?_⟩
  refine ⟨Nat.zero_le _, fun o no => ?_⟩
  have l0 : Pl p H (upd H o (.lst [])) := (Pl.refl hp).new no
  have nop := hp.ne no
  refine ⟨_, rfl, p, 5, rfl, l0.at_, by omega, fun r ns h0 h1 => ?_⟩
  obtain ⟨r, rfl⟩ := nat_ex h0
  refine ⟨_, rfl, by omega, by omega, for_range (lo := 0) (n := r) (fun k σ H' => Pl p H H' ∧ ∃ ks L v3 v4 v5 v6 v7 v8 v9 v10 v11, H' o = some (.lst ks) ∧ IsL (del (del H' p) o) ks (L.map limL) ∧ L.length = k ∧ (∀ l ∈ L, fits n l = true ∧ l.2.length ≤ 300) ∧ σ = [some (.ref p), some (.int n), some (.ref o), v3, v4, v5, v6, v7, v8, v9, v10, v11])
    ⟨l0.draw ns, [], [], _, _, _, _, _, _, _, _, _, by rw [upd_ne nop]; exact upd_same, isL_nil, rfl, by simp, rfl⟩ ?_ ?_⟩
  · rintro k σ B hk ⟨lB, ks, L, v3, v4, v5, v6, v7, v8, v9, v10, v11, ho, hks, hL, hf, rfl⟩
    have hpB := lB.at_
    refine ⟨_, rfl, p, 7, rfl, hpB, by omega, fun kind ns2 k0 k1 => ?_⟩
    have l1 := (Pl.refl hpB).draw ns2
    generalize upd B p (.lst (ns2.map V.int)) = H1 at l1 ⊢
    refine ⟨_, rfl, _, rfl, p, n, rfl, l1.at_, by omega, fun m H2 hm l12 => ?_⟩
    have l2 := l1.trans l12
    refine ⟨fun σ H' => H' = H2 ∧ ∃ t : Int, 1 ≤ t ∧ t ≤ 1000 ∧ σ = [some (.ref p), some (.int n), some (.ref o), some (.int (0 + (k : Int))), some (.int kind), some (.int m), some (.int t), v7, v8, v9, v10, v11], ?_, ?_⟩
    · exact ⟨_, rfl, rfl, _, rfl, ite2i (fun e => ⟨rfl, 5, by omega, by omega, rfl⟩) (fun e => ⟨rfl, 1, by omega, by omega, rfl⟩)⟩
    rintro σ H' ⟨rfl, t1, ht1, ht2, rfl⟩
    refine ⟨fun σ H'' => H'' = H' ∧ ∃ t : Int, 1 ≤ t ∧ t ≤ 1000 ∧ σ = [some (.ref p), some (.int n), some (.ref o), some (.int (0 + (k : Int))), some (.int kind), some (.int m), some (.int t), v7, v8, v9, v10, v11], ?_, ?_⟩
    · exact ⟨_, rfl, rfl, _, rfl, ite2i (fun e => ⟨rfl, 1000, by omega, by omega, rfl⟩) (fun e => ⟨rfl, t1, by omega, by omega, rfl⟩)⟩
    rintro σ H2 ⟨rfl, t, ht1, ht2, rfl⟩
    refine ⟨Nat.zero_le _, fun qq nq => ?_⟩
    have nqB := l2.none hpB nq
    have nqp := hpB.ne nqB
    have l3 := l2.new (o := .lst []) nq
    refine ⟨_, rfl, n, rfl, by omega, by omega, for_range (lo := 0) (n := n) (fun i σ H' => ∃ ys its tot v9 v10, ItemsAt p B qq ys its H' ∧ fitI n (-1) its = true ∧ (∀ x ∈ its, x.1 < (i : Int)) ∧ its.length ≤ i ∧ 0 ≤ tot ∧ tot ≤ 1000 * (i : Int) ∧
        σ = [some (.ref p), some (.int n), some (.ref o), some (.int (0 + (k : Int))), some (.int kind), some (.int m), some (.int t), some (.ref qq), some (.int tot), v9, v10, v11])
      ⟨[], [], 0, _, _, ⟨l3, upd_same, isL_nil⟩, rfl, by simp, Nat.zero_le _, by omega, by omega, rfl⟩ ?_ ?_⟩
    · rintro i σ H' hi ⟨ys, its, tot, w9, w10, hI, hfi, hlt, hlen, t0, t1, rfl⟩
      refine ⟨_, rfl, rfl, _, rfl, ite2d (fun e => iteT ?y1) (fun e => ⟨_, rfl, _, rfl, m, i, rfl, congrArg V.int (Int.zero_add _), _, 1, rfl, rfl, rfl, _, rfl, ite2d (fun e2 => ?y2) (fun e2 => ?no)⟩)⟩
      case no => exact ⟨ys, its, tot, _, _, hI, hfi, fun x hx => by have := hlt x hx; omega, by omega, t0, by omega, rfl⟩
      all_goals
        refine ⟨_, rfl, _, rfl, p, t, rfl, hI.pl.at_, by omega, fun r5 ns5 g0 g1 => ⟨_, _, rfl, rfl, ?_⟩⟩
        have hJ := hI.draw nqp ns5
        generalize upd H' p (.lst (ns5.map V.int)) = H5 at hJ ⊢
        refine ⟨_, rfl, .inl ⟨rfl, _, sq_lst hJ.at_⟩, _, rfl, _, rfl, sz (by simp), fun u nu => ?_⟩
        have s6 := same_new (o := .tup [V.int (0 + (i : Int)), V.int (1 + r5)]) nu
        have hq6 := s6 _ _ hJ.at_
        have hn := hJ.len
        refine ⟨qq, ys, .ref u, rfl, rfl, hq6, szl (by omega), ?_⟩
        refine ⟨_, rfl, _, rfl, _, _, rfl, rfl, ys ++ [.ref u], its ++ [((i : Int), 1 + r5)], tot + (1 + r5), _, _, ⟨(hJ.pl.same s6).mut nqB nqp, upd_same, ?_⟩, fitI_snoc hfi hlt (by omega) (by omega) (by omega) (by omega), ?_, by rw [List.length_append]; exact Nat.succ_le_succ hlen, by omega, by omega, rfl⟩
        · rw [List.map_append]
          refine IsL.mono (tups_lst hq6) (IsL.snoc (IsL.mono (tups_mono s6) hJ.is) (is_two (tups_at upd_same) ?_ (is_int _)))
          rw [Int.zero_add]; exact is_int _
        · intro x hx
          rw [List.mem_append, List.mem_singleton] at hx
          rcases hx with hx | rfl
          · have := hlt x hx; omega
          · show (i : Int) < ((i + 1 : Nat) : Int)
            omega
    · rintro σ H' ⟨ys, its, tot, w9, w10, hI, hfi, hlt, hlen, t0, t1, rfl⟩
      refine ⟨_, rfl, p, 1000, rfl, hI.pl.at_, by omega, fun a ns6 a0 a1 => ⟨_, _, rfl, rfl, .inl ⟨by omega, by omega⟩, ?_⟩⟩
      have hJ := hI.draw nqp ns6
      generalize upd H' p (.lst (ns6.map V.int)) = H6 at hJ ⊢
      refine ⟨_, rfl, p, 1000, rfl, hJ.pl.at_, by omega, fun b ns7 b0 b1 => ⟨_, _, rfl, rfl, .inl ⟨_, rfl, _, rfl, _, _, rfl, rfl, _, _, rfl, rfl, by omega, ?_⟩⟩⟩
      have hM := hJ.draw nqp ns7
      generalize upd H6 p (.lst (ns7.map V.int)) = H7 at hM ⊢
      have hz0 : 0 ≤ (a * 1000 + b) % (tot + 2) := Int.emod_nonneg _ (by omega)
      have hz1 : (a * 1000 + b) % (tot + 2) < tot + 2 := Int.emod_lt_of_pos _ (by omega)
      refine ⟨fun σ H'' => H'' = H7 ∧ ∃ z : Int, 0 ≤ z ∧ z ≤ 1000000 ∧ σ = [some (.ref p), some (.int n), some (.ref o), some (.int (0 + (k : Int))), some (.int kind), some (.int m), some (.int t), some (.ref qq), some (.int tot), w9, w10, some (.int z)], ?_, ?_⟩
      · refine ⟨_, rfl, rfl, _, rfl, ite2i (fun e => ?_) (fun e => ⟨rfl, _, hz0, by omega, rfl⟩)⟩
        refine ⟨_, rfl, _, _, rfl, rfl, _, _, rfl, rfl, (if tot - 1 > 0 then tot - 1 else 0), ?_, ?_, rfl⟩
        · split <;> omega
        · split <;> omega
      rintro σ H'' ⟨rfl, z, z0, z1, rfl⟩
      refine ⟨fun σ H8 => ItemsAt p B qq ys its H8 ∧ ∃ z : Int, 0 ≤ z ∧ z ≤ 1000000 ∧ σ = [some (.ref p), some (.int n), some (.ref o), some (.int (0 + (k : Int))), some (.int kind), some (.int m), some (.int t), some (.ref qq), some (.int tot), w9, w10, some (.int z)], ?_, ?_⟩
      · refine ⟨_, rfl, rfl, _, rfl, ite2i (fun e => ?_) (fun e => ⟨hM, _, z0, z1, rfl⟩)⟩
        exact ⟨_, rfl, p, 4, rfl, hM.pl.at_, by omega, fun c ns8 c0 c1 => ⟨hM.draw nqp ns8, c, by omega, by omega, rfl⟩⟩
      rintro σ H8 ⟨hN, z, z0, z1, rfl⟩
      have noq : o ≠ qq := ne_of_none ho nqB
      have ho8 := hN.pl.get nop ho
      refine ⟨_, rfl, .inl ⟨rfl, _, sq_lst ho8⟩, _, rfl, _, rfl, sz (by simp), fun u nu => ?_⟩
      have s9 := same_new (o := .tup [V.int z, V.ref qq]) nu
      have ho9 := s9 _ _ ho8
      have hq9 := s9 _ _ hN.at_
      have nuo : u ≠ o := fun e => by subst e; rw [ho8] at nu; cases nu
      have nup : u ≠ p := hN.pl.at_.ne nu
      have hkl := hks.length
      rw [List.length_map] at hkl
      refine ⟨o, ks, .ref u, rfl, rfl, ho9, szl (by omega), ?_⟩
      have lB9 : Pl p B (upd H8 u (.tup [V.int z, V.ref qq])) := hN.pl.same s9
      have e9 : (upd H8 u (.tup [V.int z, V.ref qq])) u = some (.tup [V.int z, V.ref qq]) := upd_same
      have his := IsL.mono (tups_mono s9) hN.is
      generalize upd H8 u (.tup [V.int z, V.ref qq]) = H9 at *
      refine ⟨(lB.trans lB9).mut no nop, ks ++ [.ref u], L ++ [(z, its)], _, _, _, _, _, _, _, _, _, upd_same, ?_, by rw [List.length_append, hL]; rfl, ?_, rfl⟩
      · rw [List.map_append]
        have nopU : ∀ x, del (upd H9 o x) p = upd (del H9 p) o x := fun x => by
          funext b
          by_cases hb : b = p
          · subst hb; rw [del_same, upd_ne (Ne.symm nop), del_same]
          · rw [del_ne hb]
            by_cases hb2 : b = o
            · subst hb2; rw [upd_same, upd_same]
            · rw [upd_ne hb2, upd_ne hb2, del_ne hb]
        rw [nopU, del_upd]
        refine IsL.snoc (IsL.mono (del_same' (del_pl lB9)) hks) ?_
        have dd : ∀ {b x}, b ≠ p → b ≠ o → H9 b = some x → (del (del H9 p) o) b = some x := fun h1 h2 e => by rw [del_ne h2, del_ne h1]; exact e
        have tt : Same (tups H9) (del (del H9 p) o) := fun b x e => by
          obtain ⟨xs, e1, rfl⟩ := tups_iff.mp e
          refine dd (fun h => ?_) (fun h => ?_) e1
          · subst h; obtain ⟨ms, e2⟩ := lB9.at_; rw [e1] at e2; cases e2
          · subst h; rw [e1] at ho9; cases ho9
        exact is_two (dd nup nuo e9) (is_int _) (is_lst (dd nqp (Ne.symm noq) hq9) (IsL.mono tt his))
      · intro l hl
        rw [List.mem_append, List.mem_singleton] at hl
        rcases hl with hl | rfl
        · exact hf l hl
        · refine ⟨?_, by show its.length ≤ 300; omega⟩
          unfold fits
          rw [show ((z, its) : Lim).2 = its from rfl, hfi]
          exact decide_eq_true ⟨z0, z1⟩
  · rintro σ H' ⟨lp, ks, L, v3, v4, v5, v6, v7, v8, v9, v10, v11, ho, hks, hL, hf, rfl⟩
    refine ⟨_, rfl, q H' o L lp no nop (is_lst (by rw [del_ne nop]; exact ho) (IsL.mono (same_del _ _) hks)) ⟨hn, fun l hl => (hf l hl).1, by omega, fun l hl => by have := (hf l hl).2; omega⟩ (by omega)⟩
def sp__law_due (_K : PySem.W.Frag) : Sp := fun vs H Q _ => ∃ (a : Addr) (n m : Nat) (L : List Lim), vs = [.ref a, .int m] ∧ LimAt H a L ∧ Good n L ∧ ∀ H' p, Same H H' → H p = none → H' p = some (.lst ((loadsF L m).map V.int)) → Q (.ref p) H'
abbrev s__law_due : Stmt := topS 21
theorem sc__law_due : FnScope ["limits", "mask", "limit", "item"] ["limits", "mask"] (defScope s__law_due) := ⟨rfl, rfl, rfl, by decide +kernel, rfl, by decide +kernel, by decide +kernel⟩
/-- slots: 0 limits 1 mask 2 limit 3 item -/
theorem dn__law_due (M : Mg mg) (C : Cg K mg) (g : Fg K mg "_law_due" s__law_due) : Dn P w K mg base CX0 "_law_due" 1 ["limits", "mask"] (sp__law_due K) := by
  refine dn_of g sc__law_due (fun vs H Q E h => by unfold sp__law_due at h; (repeat (obtain ⟨_, h⟩ := h)); subst_vars; rfl) (fun _ _ _ _ _ _ us hl => match us, hl with | [_, _], _ => rfl) (fun f cdv A outer s H vs Q E hr h => ?_)
  obtain ⟨a, n, m, L, rfl, ⟨xs, hxs, hlx, hat⟩, G1, q⟩ := h
  have nd := sc__law_due.nd
  refine ⟨_, (pss_one (ps_ret (pe_lc (own := [("limit", 2)]) (g := (gName 2)) (tt := tYes) rfl nd (G.pi_listK K (pv 0)) (blkOk_by (by kernel_rfl)) (fun _ _ _ _ _ => (pg_name (i := 2) nd rfl (by first | exact Or.inl rfl | exact Or.inr rfl))) (fun _ _ _ _ _ => pts_nil) (fun _ _ _ _ _ => (pe_callB (G.cr_sumK K rfl) (by rfl) M.sum (by decide +kernel) (pa_cons (pe_lc (own := [("item", 3)]) (g := (gName 3)) rfl nd (G.pi_seqK K (pe_ix (G.ix_tupK K) (pv 2) pe_int (fun _ _ => rfl))) (blkOk_by (by kernel_rfl)) (fun _ _ _ _ _ => (pg_name (i := 3) nd rfl (by first | exact Or.inl rfl | exact Or.inr rfl))) (fun _ _ _ _ _ => (pts_one (pt_cmpR op_eq (pe_op G.op_andN (pe_op G.op_shrM (pv 1) (pe_ix (G.ix_tupK K) (pv 3) pe_int (fun _ _ => rfl))) pe_int) pe_int (nomark _)))) (fun _ _ _ _ _ => (pe_ix (G.ix_tupK K) (pv 3) pe_int (fun _ _ => rfl)))) pa_nil)))))), ?_⟩
  refine ⟨_, rfl, a, rfl, ⟨_, hxs.sq⟩, fun D nD => lc_it (walk_list (xs := xs)) (fun i H' => Same H H' ∧ H' D = some (.lst ((loadsF (L.take i) m).map V.int))) ⟨same_new nD, upd_same⟩ (fun i H' _ p => (hxs.mono p.1).sq) ?_ ?_⟩
  · rintro i y H1 H2 hi ⟨s1, hD⟩ ⟨rfl, hy⟩
    have hil : i < L.length := by omega
    have hl := List.getElem?_eq_getElem hil
    generalize L[i] = l at hl
    have lm := List.mem_of_getElem? hl
    obtain ⟨e, iy, se⟩ := hat i l y hl hy
    obtain ⟨u, b1, w1, rfl, hu, i1, i2⟩ := (iy.mono s1).pair
    obtain ⟨a2, ys, rfl, h3, h4⟩ := i2.seq se
    have hly := h4.length
    rw [List.length_map] at hly
    refine ⟨rfl, _, rfl, u, _, 1, .ref a2, rfl, rfl, sq_tup hu, rfl, a2, rfl, lc_seq h3 (Same.refl _) (fun D2 j H' => Same H2 H' ∧ H' D2 = some (.lst ((selI m (l.2.take j)).map V.int))) (fun D2 nD2 => ⟨same_new nD2, upd_same⟩) (fun D2 j H' nD2 z => z.1) ?_ ?_⟩
    · rintro D2 j x H4 nD2 hx ⟨s3, hD2⟩
      obtain ⟨d, hd, ix⟩ := h4.at_ hx
      have hjl : j < l.2.length := by have := (List.getElem?_eq_some_iff.mp hx).1; omega
      have hq := List.getElem?_eq_getElem hjl
      generalize l.2[j] = qq at hq
      rw [List.getElem?_map, hq] at hd
      cases hd
      have ix : Is H4 x (.tup [.int qq.1, .int qq.2]) := ix.mono s3
      obtain ⟨v1, x1, x2, rfl, hv, j1, j2⟩ := ix.pair
      have ex1 := j1.toInt
      have ex2 := j2.toInt
      subst ex1; subst ex2
      have hb := G1.fit.items lm qq (List.mem_of_getElem? hq)
      have hlen2 := G1.its l lm
      refine ⟨rfl, _, rfl, _, rfl, v1, _, 0, .int qq.1, rfl, rfl, sq_tup hv, rfl, m, qq.1.toNat, rfl, congrArg V.int (by omega), _, 1, rfl, rfl, rfl, _, rfl, ?_⟩
      rw [bit_one]
      refine ite2 (fun e => ?_) (fun e => ?_)
      · refine ⟨_, rfl, v1, _, 1, .int qq.2, rfl, rfl, sq_tup hv, rfl, _, hD2, szl ?_, Same.mut s3 nD2, ?_⟩
        · have := selI_len m (l.2.take j)
          rw [List.length_take] at this
          rw [List.length_map]; omega
        · rw [upd_same, take_more hq, selI_snoc, if_pos e, List.map_append]; rfl
      · refine ⟨s3, ?_⟩
        rw [take_more hq, selI_snoc, if_neg e]; exact hD2
    · rintro D2 H3 nD2 ⟨s3, hD2⟩
      rw [hly, List.take_length] at hD2
      refine ⟨D2, _, rfl, sq_lst hD2, _, s3 _ _ hD, szl ?_, Same.mut (s1.trans s3) nD, ?_⟩
      · have := G1.len
        rw [List.length_map]; unfold loadsF; rw [List.length_map, List.length_take]; omega
      · rw [upd_same, take_more hl]
        unfold loadsF
        rw [List.map_append, List.map_append]; rfl
  · rintro H1 ⟨s1, hD⟩
    rw [hlx, List.take_length] at hD
    exact q H1 D s1 nD hD
def sp__law_ints (_K : PySem.W.Frag) : Sp := fun vs H Q _ => ∃ (t d : Addr) (ns : List Int), vs = [.ref t, .ref d] ∧ H t = some (.lst (ns.map V.int)) ∧ H d = some (.lst (ns.map V.int)) ∧ ∀ H', Same H H' → Q (.bl true) H'
abbrev s__law_ints : Stmt := topS 22
theorem sc__law_ints : FnScope ["told", "due", "one"] ["told", "due"] (defScope s__law_ints) := ⟨rfl, rfl, rfl, by decide +kernel, rfl, by decide +kernel, by decide +kernel⟩
/-- slots: 0 told 1 due 2 one -/
theorem dn__law_ints (M : Mg mg) (C : Cg K mg) (g : Fg K mg "_law_ints" s__law_ints) : Dn P w K mg base CX0 "_law_ints" 1 ["told", "due"] (sp__law_ints K) := by
  refine dn_of g sc__law_ints (fun vs H Q E h => by unfold sp__law_ints at h; (repeat (obtain ⟨_, h⟩ := h)); subst_vars; rfl) (fun _ _ _ _ _ _ us hl => match us, hl with | [_, _], _ => rfl) (fun f cdv A outer s H vs Q E hr h => ?_)
  obtain ⟨t, d, ns, rfl, ht, hd, q⟩ := h
  have nd := sc__law_ints.nd
  refine ⟨_, (pss_cons (ps_if (PW.pt (pw_or (pt_not (pt_val (pe_callB (G.call_isiK' K) (by rfl) M.isinstance (by decide +kernel) (pa_cons (pv 0) (pa_cons (pe_bltn (v := .ty "list") (by rfl) M.list (by decide +kernel) rfl) pa_nil))))) (pw_or1 (pt_cmpR (G.op_neDK K hr.units) (pv 0) (pv 1) (nomark _))))) (pss_one (ps_ret pe_bl)) pss_nil)
    (pss_one (ps_ret (pe_cmpR op_eq (pe_callB (G.call_lenK K) (by rfl) M.len PySem.boot_len (pa_cons (pe_lc (own := [("one", 2)]) (g := (gName 2)) rfl nd (G.pi_listK K (pv 0)) (blkOk_by (by kernel_rfl)) (fun _ _ _ _ _ => (pg_name (i := 2) nd rfl (by first | exact Or.inl rfl | exact Or.inr rfl))) (fun _ _ _ _ _ => (pts_one (PW.pt (pw_or (pt_not (pt_val (pe_callB (G.call_isiK' K) (by rfl) M.isinstance (by decide +kernel) (pa_cons (pv 2) (pa_cons (pe_bltn (v := .ty "int") (by rfl) M.int (by decide +kernel) rfl) pa_nil))))) (pw_or1 (pt_val (pe_callB (G.call_isiK' K) (by rfl) M.isinstance (by decide +kernel) (pa_cons (pv 2) (pa_cons (pe_bltn (v := .ty "bool") (by rfl) M.bool (by decide +kernel) rfl) pa_nil))))))))) (fun _ _ _ _ _ => (pv 2))) pa_nil)) pe_int (nomark _))))), ?_⟩
  refine isi_b (i := 0) true (by simp) (by simp only [Dt.ty]; decide +kernel) rfl (is_ints ht) ⟨_, rfl, iteF ⟨_, rfl, _, rfl, ne_ints (sq_lst ht) (sq_lst hd) ⟨_, rfl, iteF ?_⟩⟩⟩
  refine ⟨_, rfl, t, rfl, ⟨_, sq_lst ht⟩, fun D nD => lc_it (walk_list (xs := ns.map V.int)) (fun i H' => Same H H' ∧ H' D = some (.lst [])) ⟨same_new nD, upd_same⟩ (fun i H' _ p => sq_lst (p.1 _ _ ht)) ?_ ?_⟩
  · rintro i y H1 H2 hi ⟨s1, hD⟩ ⟨rfl, hy⟩
    obtain ⟨n, hn, rfl⟩ := map_int_at hy
    refine ⟨rfl, isi_b (i := 2) true (by simp) (by simp only [Dt.ty]; decide +kernel) rfl (is_int n) ⟨_, rfl, iteF (isi_b (i := 2) false (by simp) (by simp only [Dt.ty]; decide +kernel) rfl (is_int n) ⟨_, rfl, iteF ⟨s1, hD⟩⟩)⟩⟩
  · rintro H1 ⟨s1, hD⟩
    exact ⟨D, _, rfl, .inl (sq_lst hD), rfl, q H1 s1⟩
def sp__law_listed (K : PySem.W.Frag) : Sp := fun vs H Q _ => ∃ (r a : Addr) (n : Nat) (L : List Lim), vs = [.ref r, .ref a, .int n] ∧ RuleAt K H r n L ∧ LimAt H a L ∧ Good n L ∧ ∀ H', Same H H' → Q (.bl true) H'
abbrev s__law_listed : Stmt := topS 23
theorem sc__law_listed : FnScope ["rule", "limits", "wires", "told", "e", "due", "mask", "loads", "k"] ["rule", "limits", "wires"] (defScope s__law_listed) := ⟨rfl, rfl, rfl, by decide +kernel, rfl, by decide +kernel, by decide +kernel⟩
/-- slots: 0 rule 1 limits 2 wires 3 told 4 e 5 due 6 mask 7 loads 8 k -/
theorem dn__law_listed (M : Mg mg) (C : Cg K mg) (g : Fg K mg "_law_listed" s__law_listed) (D__law_ints : Dn P w K mg base CX0 "_law_ints" 1 ["told", "due"] (sp__law_ints K)) (D_allowed_sets : Dn P w K mg base (L2.CX P w) "allowed_sets" 6 ["rule"] (sp_allowed_sets K)) (D__law_due : Dn P w K mg base CX0 "_law_due" 1 ["limits", "mask"] (sp__law_due K)) : Dn P w K mg base CX0 "_law_listed" 7 ["rule", "limits", "wires"] (sp__law_listed K) := by
  refine dn_of g sc__law_listed (fun vs H Q E h => by unfold sp__law_listed at h; (repeat (obtain ⟨_, h⟩ := h)); subst_vars; rfl) (fun _ _ _ _ _ _ us hl => match us, hl with | [_, _, _], _ => rfl) (fun f cdv A outer s H vs Q E hr h => ?_)
  obtain ⟨r, a, n, L, rfl, hR, hL, G1, q⟩ := h
  have nd := sc__law_listed.nd
  refine ⟨_, (pss_cons (ps_try_as (i := 4) rfl rfl nd rfl rfl ⟨rfl, by decide, Or.inl C.e_BusError.g⟩ takes0 (fun W pn xe tk po => (pss_one (ps_set (i := 3) nd rfl (by first | exact Or.inl rfl | exact Or.inr rfl) (G.pe_callDS D_allowed_sets (hr.mono (by decide)) (fun σ => passAt tk σ) (pa_cons (pv 0) pa_nil))))) (fun a oe cls d pn hz hf => (pss_one (ps_ret (pe_and (pe_cmpR op_gt (pv 2) pe_int (nomark _)) (pe_and (pe_callB (G.call_isX hz hf) (by rfl) M.isinstance (by decide +kernel) (pa_cons (pv 4) (pa_cons (pe_glob (v := .ref (G.clsA K "TooMany")) rfl C.e_TooMany.g rfl) pa_nil))) (pe_and (pe_cmpR op_eq (G.pe_xfA hz hf (pv 4)) pe_str (nomark _)) (pe_one (pe_cmpR op_eq (G.pe_xfA hz hf (pv 4)) pe_int (nomark _))))))))))
    (pss_cons (ps_set (i := 5) nd rfl (by first | exact Or.inl rfl | exact Or.inr rfl) (pe_lst pa_nil))
    (pss_cons (ps_for PassesOwn.never rfl (pi_range1 rfl M.range (pa_cons (pe_op G.op_shlM pe_int (pe_callB (call_min2 rfl) (by rfl) M.min (by decide +kernel) (pa_cons (pv 2) (pa_cons pe_int pa_nil)))) pa_nil)) (pg_name (i := 6) nd rfl (by first | exact Or.inl rfl | exact Or.inr rfl)) (pss_cons (ps_set (i := 7) nd rfl (by first | exact Or.inl rfl | exact Or.inr rfl) (G.pe_callD D__law_due (hr.mono (by decide)) pass0 (pa_cons (pv 1) (pa_cons (pv 6) pa_nil))))
    (pss_one (ps_if (pt_cmpR op_eq (pe_callB (G.call_lenK K) (by rfl) M.len PySem.boot_len (pa_cons (pe_lc (own := [("k", 8)]) (g := (gName 8)) rfl nd (pi_range1 rfl M.range (pa_cons (pe_callB (G.call_lenK K) (by rfl) M.len PySem.boot_len (pa_cons (pv 1) pa_nil)) pa_nil)) (blkOk_by (by kernel_rfl)) (fun _ _ _ _ _ => (pg_name (i := 8) nd rfl (by first | exact Or.inl rfl | exact Or.inr rfl))) (fun _ _ _ _ _ => (pts_one (pt_cmpR op_gt (pe_ix (G.ix_listK K) (pv 7) (pv 8) (fun _ _ => rfl)) (pe_ix (G.ix_tupK K) (pe_ix (G.ix_listK K) (pv 1) (pv 8) (fun _ _ => rfl)) pe_int (fun _ _ => rfl)) (nomark _)))) (fun _ _ _ _ _ => (pv 8))) pa_nil)) pe_int (nomark _)) (pss_one (ps_expr (pe_bm PySem.F.plainAttrs_list PySem.F.slot_list_append PySem.F.type_list_append mt_append (pv 5) (pa_cons (pv 6) pa_nil)))) pss_nil))))
    (pss_cons (ps_if (PW.pt (pw_or (pt_cmpR op_gt (pv 2) pe_int (nomark _)) (pw_or1 (pt_not (pt_val (G.pe_callD D__law_ints (hr.mono (by decide)) pass0 (pa_cons (pv 3) (pa_cons (pv 5) pa_nil)))))))) (pss_one (ps_ret pe_bl)) pss_nil)
    (pss_cons (ps_expr (pe_bm PySem.F.plainAttrs_list PySem.F.slot_list_append PySem.F.type_list_append mt_append (pv 3) (pa_cons pe_int pa_nil)))
    (pss_one (ps_ret (G.pe_callD D__law_ints (hr.mono (by decide)) pass0 (pa_cons (G.pe_callD D_allowed_sets (hr.mono (by decide)) passL (pa_cons (pv 0) pa_nil)) (pa_cons (pv 5) pa_nil)))))))))), ?_⟩
  refine ⟨_, rfl, r, n, L, rfl, hR, G1, fun h H' d s hd => ⟨true, C.e_TooMany.exm C.e_BusError, fun _ ex hex => ?_, fun h => nomatch h⟩, fun h H1 p s1 np hp => ?_⟩
  · refine ⟨_, rfl, _, _, rfl, rfl, _, rfl, ite2d (fun _ => ?_) (fun k => absurd (by omega) k)⟩
    refine ⟨_, rfl, _, d, _, _, _, true, rfl, C.e_TooMany.exc, rfl, hd, rfl, fun u h => h, C.e_TooMany.kitS, _, rfl, iteT ?_⟩
    refine ⟨_, rfl, rfl, _, d, _, .str "wires", rfl, C.e_TooMany.xf, C.no_TooMany_what, rfl, hd, rfl, rfl, _, rfl, ite2d (fun _ => ?_) (fun k => absurd rfl k)⟩
    refine ⟨_, rfl, rfl, _, d, _, .int 10, rfl, C.e_TooMany.xf, C.no_TooMany_limit, rfl, hd, rfl, rfl, ?_⟩
    show Q (.bl (decide (V.int 10 = V.int 10))) _
    rw [decide_eq_true (rfl : V.int 10 = V.int 10)]
    exact q _ s
  have hL1 := hL.mono s1
  obtain ⟨xs, hxs, hlx, hat⟩ := id hL1
  have hlen := G1.len
  refine ⟨Nat.zero_le _, fun o no => ?_⟩
  have s2 : Same H1 (upd H1 o (.lst [])) := same_new no
  have h1024 : 2 ^ n ≤ 1024 := Nat.pow_le_pow_right (by decide) (by omega : n ≤ 10)
  have e1 : (1 <<< n : Nat) = 2 ^ n := Nat.one_shiftLeft n
  have hz1 : (((1 <<< n : Nat)) : Int) ≤ 1024 := (by have h := h1024; rw [← e1] at h; exact Int.ofNat_le.mpr h)
  have hz0 : (0 : Int) ≤ (((1 <<< n : Nat)) : Int) := Int.natCast_nonneg _
  refine ⟨_, rfl, _, _, rfl, 1, n, rfl, congrArg V.int (if_neg (by omega)), ⟨by omega, by decide⟩, (((1 <<< n : Nat)) : Int), rfl, Int.le_trans (by decide) hz0, Int.lt_of_le_of_lt hz1 (by decide), for_range (lo := 0) (n := (((1 <<< n : Nat)) : Int).toNat) (fun i σ H' => Same H1 H' ∧ H' o = some (.lst (nv ((List.range i).filter fun m => allowsF L m))) ∧ ∃ v4 v6 v7 v8, σ = [some (.ref r), some (.ref a), some (.int n), some (.ref p), v4, some (.ref o), v6, v7, v8]) ⟨s2, upd_same, _, _, _, _, rfl⟩ ?_ ?_⟩
  · rintro i σ H2 hi ⟨sb, ho, v4, v6, v7, v8, rfl⟩
    rw [Int.toNat_natCast, e1] at hi
    refine ⟨_, rfl, _, rfl, a, n, i, L, (by rw [Int.zero_add]; rfl), hL1.mono sb, G1, fun H3 w s3 nw hw => ?_⟩
    have s13 := sb.trans s3
    have hxs3 := hxs.mono s13
    have hll : (loadsF L i).length = L.length := by unfold loadsF; rw [List.length_map]
    refine ⟨_, rfl, a, _, rfl, .inl hxs3.sq, _, rfl, by omega, by omega, fun D nD => lc_range (lo := 0) (n := ((xs.length : Nat) : Int).toNat) (fun j H' => Same H3 H' ∧ ∃ ws : List Nat, H' D = some (.lst (nv ws)) ∧ ws.length ≤ j ∧ (ws = [] ↔ allowsF (L.take j) i = true)) ⟨same_new nD, [], upd_same, Nat.le_refl _, by simp [allowsF]⟩ ?_ ?_⟩
    · rintro j H4 hj ⟨s4, ws, hD, hwl, hws⟩
      have hjl : j < L.length := by omega
      have hl := List.getElem?_eq_getElem hjl
      generalize L[j] = l at hl
      have hjx : j < xs.length := by omega
      obtain ⟨e, iy, se⟩ := hat j l _ hl (List.getElem?_eq_getElem hjx)
      have hgx := List.getElem?_eq_getElem hjx
      generalize xs[j] = y at iy hgx
      have s14 := s13.trans s4
      obtain ⟨u2, b2, w2, rfl, hu2, j1, j2⟩ := (iy.mono s14).pair
      have eb := j1.toInt
      subst eb
      have hg : ((loadsF L i).map V.int)[j]? = some (.int (loadI i l.2)) := by
        unfold loadsF
        rw [List.getElem?_map, List.getElem?_map, hl]; rfl
      refine ⟨rfl, _, rfl, _, rfl, w, _, _, .int (loadI i l.2), rfl, rfl, sq_lst (s4 _ _ hw), atI_of (Int.zero_add _) hg, _, rfl, _, rfl, a, xs, _, .ref u2, rfl, rfl, (hxs.mono s14).sq, atI_of (Int.zero_add _) hgx, u2, _, 0, .int l.1, rfl, rfl, sq_tup hu2, rfl, _, _, rfl, rfl, _, rfl, ite2d (fun c => ?_) (fun c => ?_)⟩
      · refine ⟨_, rfl, _, hD, szl (by rw [nv_len]; omega), Same.mut s4 nD, ws ++ [j], by rw [upd_same, nv_app, Int.zero_add]; rfl, by rw [List.length_append]; exact Nat.succ_le_succ hwl, ?_⟩
        rw [allows_take hl, decide_eq_false (by omega)]
        simp
      · refine ⟨s4, ws, hD, by omega, ?_⟩
        rw [allows_take hl, decide_eq_true (by omega), Bool.and_true]
        exact hws
    · rintro H4 ⟨s4, ws, hD, hwl, hws⟩
      rw [show ((xs.length : Nat) : Int).toNat = L.length by omega, List.take_length] at hws
      have ho4 := s4 _ _ (s3 _ _ ho)
      have noH1 := no
      refine ⟨D, _, rfl, .inl (sq_lst hD), rfl, _, rfl, ite2i (fun c => ?_) (fun c => ?_)⟩
      · rw [nv_len] at c
        have hw0 : ws = [] := List.length_eq_zero_iff.mp (by omega)
        refine ⟨_, rfl, .inl ⟨rfl, _, sq_lst ho4⟩, _, rfl, o, _, _, rfl, rfl, ho4, szl ?_, Same.mut (sb.trans (s3.trans s4)) no, ?_, _, _, _, _, rfl⟩
        · rw [nv_len]
          have := List.length_filter_le (fun m => allowsF L m) (List.range i)
          rw [List.length_range] at this
          omega
        · rw [upd_same, range_step, if_pos (hws.mp hw0), nv_app, Int.zero_add]; rfl
      · rw [nv_len] at c
        refine ⟨sb.trans (s3.trans s4), ?_, _, _, _, _, rfl⟩
        rw [range_step, if_neg (fun k => c (by rw [hws.mpr k]; rfl))]; exact ho4
  · rintro σ H2 ⟨sb, ho, v4, v6, v7, v8, rfl⟩
    rw [Int.toNat_natCast, e1] at ho
    have hp2 := sb _ _ hp
    have ho2 : H2 o = some (.lst (nv (allL L n))) := ho
    rw [nv_nz] at hp2 ho2
    refine ⟨_, rfl, _, _, rfl, rfl, _, rfl, ite2d (fun k => absurd k (by omega)) (fun _ => ?_)⟩
    refine ⟨_, rfl, _, rfl, p, o, _, rfl, hp2, ho2, fun H3 s3 => ⟨true, rfl, iteF ?_⟩⟩
    have hp3 := s3 _ _ hp2
    have hal : (allL L n).length ≤ 1024 := Nat.le_trans (allL_len L n) h1024
    refine ⟨_, rfl, .inl ⟨rfl, _, sq_lst hp3⟩, p, _, _, rfl, rfl, hp3, szl (by rw [← nv_nz, nv_len]; omega), ?_⟩
    have sH : Same H (upd H3 p (.lst ((nz (allL L n)).map V.int ++ [V.int 0]))) := Same.mut (s1.trans (sb.trans s3)) np
    have nop : o ≠ p := fun z => by subst z; rw [hp] at no; cases no
    have ho3 : (upd H3 p (.lst ((nz (allL L n)).map V.int ++ [V.int 0]))) o = some (.lst ((nz (allL L n)).map V.int)) := by rw [upd_ne nop]; exact s3 _ _ ho2
    generalize upd H3 p (.lst ((nz (allL L n)).map V.int ++ [V.int 0])) = H4 at *
    refine ⟨_, rfl, r, n, L, rfl, hR.mono sH, G1, fun k => absurd k (by omega), fun _ H5 p2 s5 np2 hp5 => ?_⟩
    rw [nv_nz] at hp5
    exact ⟨_, rfl, p2, o, _, rfl, hp5, s5 _ _ ho3, fun H6 s6 => q _ (sH.trans (s5.trans s6))⟩
def sp__law_told_word (K : PySem.W.Frag) : Sp := fun vs H Q _ => ∃ (r : Addr) (n : Nat) (L : List Lim) (way y z u : Int), vs = [.ref r, .int way, .int y, .int z] ∧ RuleAt K H r n L ∧ Good n L ∧ y.natAbs.log2 < 1920 ∧ z.natAbs.log2 < 1920 ∧
  (((y < 0 ∨ ((2 ^ n : Nat) : Int) ≤ y) ∧ u = y) ∨ (way = 3 ∧ 0 ≤ y ∧ y < ((2 ^ n : Nat) : Int) ∧ (z < 0 ∨ ((2 ^ n : Nat) : Int) ≤ z) ∧ u = z)) ∧ ∀ H' p, Same H H' → Is H' (.ref p) (.tup [.str "bad", .int u]) → Q (.ref p) H'
abbrev s__law_told_word : Stmt := topS 24
theorem sc__law_told_word : FnScope ["rule", "way", "first", "second", "told", "e"] ["rule", "way", "first", "second"] (defScope s__law_told_word) := ⟨rfl, rfl, rfl, by decide +kernel, rfl, by decide +kernel, by decide +kernel⟩
/-- slots: 0 rule 1 way 2 first 3 second 4 told 5 e -/
theorem dn__law_told_word (M : Mg mg) (C : Cg K mg) (g : Fg K mg "_law_told_word" s__law_told_word) (D_Rule_allows : DnM P w K mg base (L2.CX P w) "Rule" "allows" 5 ["self", "mask"] (sp_Rule_allows K)) (D_Rule_loads : DnM P w K mg base (L2.CX P w) "Rule" "loads" 4 ["self", "mask"] (sp_Rule_loads K)) (D_Rule_allows_step : DnM P w K mg base (L2.CX P w) "Rule" "allows_step" 6 ["self", "first", "second"] (sp_Rule_allows_step K)) (D_Rule___contains__ : DnM P w K mg base (L2.CX P w) "Rule" "__contains__" 6 ["self", "mask"] (sp_Rule___contains__ K)) : Dn P w K mg base CX0 "_law_told_word" 7 ["rule", "way", "first", "second"] (sp__law_told_word K) := by
  refine dn_of g sc__law_told_word (fun vs H Q E h => by unfold sp__law_told_word at h; (repeat (obtain ⟨_, h⟩ := h)); subst_vars; rfl) (fun _ _ _ _ _ _ us hl => match us, hl with | [_, _, _, _], _ => rfl) (fun f cdv A outer s H vs Q E hr h => ?_)
  obtain ⟨r, n, L, way, y, z, u, rfl, hR, G1, hy, hz, hu, q⟩ := h
  have nd := sc__law_told_word.nd
  refine ⟨_, (pss_cons (ps_try_as (i := 5) rfl rfl nd rfl rfl ⟨rfl, by decide, Or.inl C.e_BusError.g⟩ takes0 (fun W pn xe tk po => (pss_one (ps_if (pt_cmpR op_eq (pv 1) pe_int (nomark _)) (pss_one (ps_expr (G.pe_methD K D_Rule_allows (hr.mono (by decide)) (fun σ => passAt tk σ) (pv 0) (pa_cons (pv 2) pa_nil)))) (pss_one (ps_if (pt_cmpR op_eq (pv 1) pe_int (nomark _)) (pss_one (ps_expr (G.pe_methD K D_Rule_loads (hr.mono (by decide)) (fun σ => passAt tk σ) (pv 0) (pa_cons (pv 2) pa_nil)))) (pss_one (ps_if (pt_cmpR op_eq (pv 1) pe_int (nomark _)) (pss_one (ps_set (i := 4) nd rfl (by first | exact Or.inl rfl | exact Or.inr rfl) (pe_cmp (G.pc_inD K D_Rule___contains__ (hr.mono (by decide)) (fun σ => passAt tk σ) (pv 2) (pv 0))))) (pss_one (ps_expr (G.pe_methD K D_Rule_allows_step (hr.mono (by decide)) (fun σ => passAt tk σ) (pv 0) (pa_cons (pv 2) (pa_cons (pv 3) pa_nil)))))))))))) (fun a oe cls d pn hz hf => (pss_cons (ps_if (PW.pt (pw_and (pt_val (pe_callB (G.call_isX hz hf) (by rfl) M.isinstance (by decide +kernel) (pa_cons (pv 5) (pa_cons (pe_glob (v := .ref (G.clsA K "BadWord")) rfl C.e_BadWord.g rfl) pa_nil)))) (pw_and (pt_val (pe_callB (G.call_isX hz hf) (by rfl) M.isinstance (by decide +kernel) (pa_cons (pv 5) (pa_cons (pe_bltn (v := .ty "ValueError") (by rfl) M.ValueError (by decide +kernel) rfl) pa_nil)))) (pw_and1 (pt_not (pt_val (pe_callB (G.call_isX hz hf) (by rfl) M.isinstance (by decide +kernel) (pa_cons (pv 5) (pa_cons (pe_glob (v := .ref (G.clsA K "BadRule")) rfl C.e_BadRule.g rfl) pa_nil))))))))) (pss_one (ps_ret (pe_tup (pa_cons pe_str (pa_cons (G.pe_xfA hz hf (pv 5)) pa_nil))))) pss_nil)
    (pss_one (ps_ret (pe_tup (pa_cons pe_str (pa_cons pe_int pa_nil))))))))
    (pss_one (ps_ret (pe_tup (pa_cons pe_str (pa_cons pe_int pa_nil)))))), ?_⟩
  obtain ⟨dx, t, hr1, hT⟩ := id hR
  have hb : ¬ way = 3 → (y < 0 ∨ ((2 ^ n : Nat) : Int) ≤ y) ∧ u = y := fun h => hu.elim id fun k => absurd k.1 h
  have lk : ∀ {m : Str} (n t : V), (m == "wires") = false → (m == "limits") = false → ([("wires", n), ("limits", t)] : List (Str × V)).lookup m = none := fun a b h1 h2 => lkN a b h1 h2
  refine ⟨_, rfl, rfl, _, rfl, ite2i (fun w0 => ?w0) (fun w0 => ⟨_, rfl, rfl, _, rfl, ite2i (fun w1 => ?w1) (fun w1 => ⟨_, rfl, rfl, _, rfl, ite2i (fun w2 => ?w2) (fun w2 => ?w3)⟩)⟩)⟩
  case w0 =>
    obtain ⟨h1, h2⟩ := hb (by omega)
    refine ⟨_, rfl, r, dx, _, rfl, hr1, lk _ _ (by decide +kernel) (by decide +kernel), _, rfl, r, n, L, y, rfl, hR, G1, hy, fun _ H' d s hd => ?e0, fun h3 h4 => by omega⟩
    subst h2
    refine ⟨true, C.e_BadWord.exm C.e_BusError, fun _ ex hex => ?_, fun h => nomatch h⟩
    refine ⟨_, rfl, _, d, _, _, _, true, rfl, C.e_BadWord.exc, rfl, hd, rfl, fun u h => h, C.e_BadWord.kitS, _, rfl, iteT ?_⟩
    refine ⟨_, rfl, _, d, _, _, _, true, rfl, C.e_BadWord.exc, rfl, hd, rfl, fun u h => h, C.e_BadWord.kitV, _, rfl, iteT ?_⟩
    refine ⟨_, rfl, _, d, _, _, _, false, rfl, C.e_BadWord.exc, rfl, hd, rfl, fun u h => h, C.e_BadRule.kit C.no_BadWord_BadRule, _, rfl, iteT ?_⟩
    refine ⟨_, rfl, rfl, _, d, _, .int u, rfl, C.e_BadWord.xf, C.no_BadWord_value, rfl, hd, rfl, sz (by simp), fun t nt => ?_⟩
    exact q _ t (s.new nt) (is_two upd_same (is_str _) (is_int _))
  case w1 =>
    obtain ⟨h1, h2⟩ := hb (by omega)
    refine ⟨_, rfl, r, dx, _, rfl, hr1, lk _ _ (by decide +kernel) (by decide +kernel), _, rfl, r, n, L, y, rfl, hR, G1, hy, fun _ H' d s hd => ?e1, fun h3 h4 => by omega⟩
    subst h2
    refine ⟨true, C.e_BadWord.exm C.e_BusError, fun _ ex hex => ?_, fun h => nomatch h⟩
    refine ⟨_, rfl, _, d, _, _, _, true, rfl, C.e_BadWord.exc, rfl, hd, rfl, fun u h => h, C.e_BadWord.kitS, _, rfl, iteT ?_⟩
    refine ⟨_, rfl, _, d, _, _, _, true, rfl, C.e_BadWord.exc, rfl, hd, rfl, fun u h => h, C.e_BadWord.kitV, _, rfl, iteT ?_⟩
    refine ⟨_, rfl, _, d, _, _, _, false, rfl, C.e_BadWord.exc, rfl, hd, rfl, fun u h => h, C.e_BadRule.kit C.no_BadWord_BadRule, _, rfl, iteT ?_⟩
    refine ⟨_, rfl, rfl, _, d, _, .int u, rfl, C.e_BadWord.xf, C.no_BadWord_value, rfl, hd, rfl, sz (by simp), fun t nt => ?_⟩
    exact q _ t (s.new nt) (is_two upd_same (is_str _) (is_int _))
  case w2 =>
    obtain ⟨h1, h2⟩ := hb (by omega)
    refine ⟨_, rfl, _, rfl, r, dx, _, rfl, hr1, r, n, L, y, rfl, hR, G1, hy, fun _ H' d s hd => ?e2, fun h3 h4 => by omega⟩
    subst h2
    refine ⟨true, C.e_BadWord.exm C.e_BusError, fun _ ex hex => ?_, fun h => nomatch h⟩
    refine ⟨_, rfl, _, d, _, _, _, true, rfl, C.e_BadWord.exc, rfl, hd, rfl, fun u h => h, C.e_BadWord.kitS, _, rfl, iteT ?_⟩
    refine ⟨_, rfl, _, d, _, _, _, true, rfl, C.e_BadWord.exc, rfl, hd, rfl, fun u h => h, C.e_BadWord.kitV, _, rfl, iteT ?_⟩
    refine ⟨_, rfl, _, d, _, _, _, false, rfl, C.e_BadWord.exc, rfl, hd, rfl, fun u h => h, C.e_BadRule.kit C.no_BadWord_BadRule, _, rfl, iteT ?_⟩
    refine ⟨_, rfl, rfl, _, d, _, .int u, rfl, C.e_BadWord.xf, C.no_BadWord_value, rfl, hd, rfl, sz (by simp), fun t nt => ?_⟩
    exact q _ t (s.new nt) (is_two upd_same (is_str _) (is_int _))
  case w3 =>
    refine ⟨_, rfl, r, dx, _, rfl, hr1, lk _ _ (by decide +kernel) (by decide +kernel), _, rfl, _, rfl, r, n, L, y, z, rfl, hR, G1, hy, hz, fun h H' d s hd => ?a, fun h1 h2 h H' d s hd => ?b, fun h1 h2 h3 h4 => by omega⟩
    case a => have e : u = y := by omega
              subst e
              refine ⟨true, C.e_BadWord.exm C.e_BusError, fun _ ex hex => ?_, fun h => nomatch h⟩
              refine ⟨_, rfl, _, d, _, _, _, true, rfl, C.e_BadWord.exc, rfl, hd, rfl, fun u h => h, C.e_BadWord.kitS, _, rfl, iteT ?_⟩
              refine ⟨_, rfl, _, d, _, _, _, true, rfl, C.e_BadWord.exc, rfl, hd, rfl, fun u h => h, C.e_BadWord.kitV, _, rfl, iteT ?_⟩
              refine ⟨_, rfl, _, d, _, _, _, false, rfl, C.e_BadWord.exc, rfl, hd, rfl, fun u h => h, C.e_BadRule.kit C.no_BadWord_BadRule, _, rfl, iteT ?_⟩
              refine ⟨_, rfl, rfl, _, d, _, .int u, rfl, C.e_BadWord.xf, C.no_BadWord_value, rfl, hd, rfl, sz (by simp), fun t nt => ?_⟩
              exact q _ t (s.new nt) (is_two upd_same (is_str _) (is_int _))
    case b => have e : u = z := by omega
              subst e
              refine ⟨true, C.e_BadWord.exm C.e_BusError, fun _ ex hex => ?_, fun h => nomatch h⟩
              refine ⟨_, rfl, _, d, _, _, _, true, rfl, C.e_BadWord.exc, rfl, hd, rfl, fun u h => h, C.e_BadWord.kitS, _, rfl, iteT ?_⟩
              refine ⟨_, rfl, _, d, _, _, _, true, rfl, C.e_BadWord.exc, rfl, hd, rfl, fun u h => h, C.e_BadWord.kitV, _, rfl, iteT ?_⟩
              refine ⟨_, rfl, _, d, _, _, _, false, rfl, C.e_BadWord.exc, rfl, hd, rfl, fun u h => h, C.e_BadRule.kit C.no_BadWord_BadRule, _, rfl, iteT ?_⟩
              refine ⟨_, rfl, rfl, _, d, _, .int u, rfl, C.e_BadWord.xf, C.no_BadWord_value, rfl, hd, rfl, sz (by simp), fun t nt => ?_⟩
              exact q _ t (s.new nt) (is_two upd_same (is_str _) (is_int _))
def sp__law_told_rule (K : PySem.W.Frag) : Sp := fun vs H Q _ => ∃ (n : Int) (a : Addr) (L : List Lim), vs = [.int n, .ref a] ∧ LimAt H a L ∧ L.length ≤ 1000 ∧ (∀ l ∈ L, l.2.length ≤ 1000) ∧
  ((n < 0 ∨ 300 < n) → ∀ H' p, Same H H' → Is H' (.ref p) (.tup [.str "bad", .int (-1)]) → Q (.ref p) H') ∧
  (0 ≤ n → n ≤ 300 → ∀ (i : Nat) (l : Lim), L[i]? = some l → fits n l = false → (∀ m ∈ L.take i, fits n m = true) → ∀ H' p, Same H H' → Is H' (.ref p) (.tup [.str "bad", .int i]) → Q (.ref p) H') ∧
  (0 ≤ n → n ≤ 300 → (∀ l ∈ L, fits n l = true) → ∀ H' p, Same H H' → Is H' (.ref p) (.tup [.str "none", .int 0]) → Q (.ref p) H')
abbrev s__law_told_rule : Stmt := topS 25
theorem sc__law_told_rule : FnScope ["wires", "limits", "e"] ["wires", "limits"] (defScope s__law_told_rule) := ⟨rfl, rfl, rfl, by decide +kernel, rfl, by decide +kernel, by decide +kernel⟩
/-- slots: 0 wires 1 limits 2 e -/
theorem dn__law_told_rule (M : Mg mg) (C : Cg K mg) (g : Fg K mg "_law_told_rule" s__law_told_rule) (D_Rule___init__ : DnI P w K mg base (L2.CX P w) "Rule" 3 [] (sp_Rule___init__ K)) : Dn P w K mg base CX0 "_law_told_rule" 5 ["wires", "limits"] (sp__law_told_rule K) := by
  refine dn_of g sc__law_told_rule (fun vs H Q E h => by unfold sp__law_told_rule at h; (repeat (obtain ⟨_, h⟩ := h)); subst_vars; rfl) (fun _ _ _ _ _ _ us hl => match us, hl with | [_, _], _ => rfl) (fun f cdv A outer s H vs Q E hr h => ?_)
  obtain ⟨n, a, L, rfl, hL, hl1, hl2, q1, q2, q3⟩ := h
  have nd := sc__law_told_rule.nd
  refine ⟨_, (pss_cons (ps_try_as (i := 2) rfl rfl nd rfl rfl ⟨rfl, by decide, Or.inl C.e_BusError.g⟩ takes0 (fun W pn xe tk po => (pss_one (ps_expr (G.pe_makeD K D_Rule___init__ (hr.mono (by decide)) (fun σ => passAt tk σ) (pa_cons (pv 0) (pa_cons (pv 1) pa_nil)))))) (fun a oe cls d pn hz hf => (pss_cons (ps_if (PW.pt (pw_and (pt_val (pe_callB (G.call_isX hz hf) (by rfl) M.isinstance (by decide +kernel) (pa_cons (pv 2) (pa_cons (pe_glob (v := .ref (G.clsA K "BadRule")) rfl C.e_BadRule.g rfl) pa_nil)))) (pw_and (pt_val (pe_callB (G.call_isX hz hf) (by rfl) M.isinstance (by decide +kernel) (pa_cons (pv 2) (pa_cons (pe_bltn (v := .ty "ValueError") (by rfl) M.ValueError (by decide +kernel) rfl) pa_nil)))) (pw_and1 (pt_not (pt_val (pe_callB (G.call_isX hz hf) (by rfl) M.isinstance (by decide +kernel) (pa_cons (pv 2) (pa_cons (pe_glob (v := .ref (G.clsA K "BadWord")) rfl C.e_BadWord.g rfl) pa_nil))))))))) (pss_one (ps_ret (pe_tup (pa_cons pe_str (pa_cons (G.pe_xfA hz hf (pv 2)) pa_nil))))) pss_nil)
    (pss_one (ps_ret (pe_tup (pa_cons pe_str (pa_cons pe_int pa_nil))))))))
    (pss_one (ps_ret (pe_tup (pa_cons pe_str (pa_cons pe_int pa_nil)))))), ?_⟩
  refine ⟨_, rfl, _, rfl, fun x dx nx ndx nex => ?_⟩
  have s0 : Same H (upd (upd H dx (.own x)) x (.ins (clsA K "Rule") dx [])) := (same_new ndx).new (by rw [upd_ne (Ne.symm nex)]; exact nx)
  have hx0 : (upd (upd H dx (.own x)) x (.ins (clsA K "Rule") dx [])) x = some (.ins (clsA K "Rule") dx []) := upd_same
  refine ⟨x, n, .ref a, L, rfl, ⟨dx, hx0⟩, (hL.mono s0).in_, by omega, fun l hl => by have := hl2 l hl; omega, fun hn H' d s hd => ?e1, fun h0 h1 i l hi hf hb H' d s hd => ?e2, fun h0 h1 hf H' fr hR => ⟨rfl, ?ok⟩⟩
  case ok =>
    refine ⟨sz (by simp), fun t nt => q3 h0 h1 hf _ t ?_ (is_two upd_same (is_str _) (is_int _))⟩
    refine Same.new (fun b o e => ?_) nt
    have hb : b ≠ x := ne_of_none e nx
    exact fr b o hb (s0 _ _ e)
  all_goals
    refine ⟨true, C.e_BadRule.exm C.e_BusError, fun _ ex hex => ?_, fun h => nomatch h⟩
    refine ⟨_, rfl, _, d, _, _, _, true, rfl, C.e_BadRule.exc, rfl, hd, rfl, fun u h => h, C.e_BadRule.kitS, _, rfl, iteT ?_⟩
    refine ⟨_, rfl, _, d, _, _, _, true, rfl, C.e_BadRule.exc, rfl, hd, rfl, fun u h => h, C.e_BadRule.kitV, _, rfl, iteT ?_⟩
    refine ⟨_, rfl, _, d, _, _, _, false, rfl, C.e_BadRule.exc, rfl, hd, rfl, fun u h => h, C.e_BadWord.kit C.no_BadRule_BadWord, _, rfl, iteT ?_⟩
  case e1 =>
    refine ⟨_, rfl, rfl, _, d, _, .int (-1), rfl, C.e_BadRule.xf, C.no_BadRule_index, rfl, hd, rfl, sz (by simp), fun t nt => ?_⟩
    exact q1 hn _ t ((s0.trans s).new nt) (is_two upd_same (is_str _) (is_int _))
  case e2 =>
    refine ⟨_, rfl, rfl, _, d, _, .int i, rfl, C.e_BadRule.xf, C.no_BadRule_index, rfl, hd, rfl, sz (by simp), fun t nt => ?_⟩
    exact q2 h0 h1 i l hi hf hb _ t ((s0.trans s).new nt) (is_two upd_same (is_str _) (is_int _))
def sp__law_bad_limit (_K : PySem.W.Frag) : Sp := fun vs H Q _ => ∃ (p : Addr) (n : Nat), vs = [.ref p, .int n] ∧ PoolAt H p ∧ n ≤ 300 ∧
  ∀ H' t l, Pl p H H' → H t = none → t ≠ p → Is (del H' p) (.ref t) (limL l) → fits n l = false → l.2.length ≤ 2 → Q (.ref t) H'
/-- (b, []) -/
theorem bad0 {p : Addr} {H H1 : Hp} {q t : Addr} {b : Int} (hp : PoolAt H p) (l : Pl p H H1) (nq : H1 q = none) (nt : (upd H1 q (.lst [])) t = none) :
    Pl p H (upd (upd H1 q (.lst [])) t (.tup [.int b, .ref q])) ∧ H t = none ∧ t ≠ p ∧ Is (del (upd (upd H1 q (.lst [])) t (.tup [.int b, .ref q])) p) (.ref t) (limL (b, [])) := by
  have l1 := l.new (o := .lst []) nq
  have ht := l1.none hp nt
  have ntp := l1.at_.ne nt
  have nqp := l.at_.ne nq
  refine ⟨l1.new nt, ht, ntp, is_two (by rw [del_ne ntp, upd_same]) (is_int _) (is_lst (xs := []) ?_ isL_nil)⟩
  rw [del_ne nqp, upd_ne (ne_of_none (show (upd H1 q (.lst [])) q = some (.lst []) from upd_same) nt), upd_same]
/-- (b, [(w, g)]) -/
theorem bad1 {p : Addr} {H H1 : Hp} {u q t : Addr} {b w g : Int} (hp : PoolAt H p) (l : Pl p H H1) (nu : H1 u = none) (nq : (upd H1 u (.tup [.int w, .int g])) q = none) (nt : (upd (upd H1 u (.tup [.int w, .int g])) q (.lst [.ref u])) t = none) :
    Pl p H (upd (upd (upd H1 u (.tup [.int w, .int g])) q (.lst [.ref u])) t (.tup [.int b, .ref q])) ∧ H t = none ∧ t ≠ p ∧ Is (del (upd (upd (upd H1 u (.tup [.int w, .int g])) q (.lst [.ref u])) t (.tup [.int b, .ref q])) p) (.ref t) (limL (b, [(w, g)])) := by
  have l1 := l.new (o := .tup [.int w, .int g]) nu
  have l2 := l1.new (o := .lst [.ref u]) nq
  have s2 := same_new (o := .lst [.ref u]) nq
  have s3 := same_new (o := .tup [.int b, .ref q]) nt
  refine ⟨l2.new nt, l2.none hp nt, l2.at_.ne nt, is_two (by rw [del_ne (l2.at_.ne nt), upd_same]) (is_int _) (is_lst (xs := [.ref u]) ?_ (IsL.snoc isL_nil (is_two ?_ (is_int _) (is_int _))))⟩
  · rw [del_ne (l1.at_.ne nq)]; exact s3 _ _ upd_same
  · rw [del_ne (l.at_.ne nu)]; exact s3 _ _ (s2 _ _ upd_same)
/-- (b, [(w, g), (w2, g2)]) -/
theorem bad2 {p : Addr} {H H1 : Hp} {u u2 q t : Addr} {b w g w2 g2 : Int} (hp : PoolAt H p) (l : Pl p H H1) (nu : H1 u = none) (nu2 : (upd H1 u (.tup [.int w, .int g])) u2 = none) (nq : (upd (upd H1 u (.tup [.int w, .int g])) u2 (.tup [.int w2, .int g2])) q = none)
    (nt : (upd (upd (upd H1 u (.tup [.int w, .int g])) u2 (.tup [.int w2, .int g2])) q (.lst [.ref u, .ref u2])) t = none) :
    Pl p H (upd (upd (upd (upd H1 u (.tup [.int w, .int g])) u2 (.tup [.int w2, .int g2])) q (.lst [.ref u, .ref u2])) t (.tup [.int b, .ref q])) ∧ H t = none ∧ t ≠ p ∧
      Is (del (upd (upd (upd (upd H1 u (.tup [.int w, .int g])) u2 (.tup [.int w2, .int g2])) q (.lst [.ref u, .ref u2])) t (.tup [.int b, .ref q])) p) (.ref t) (limL (b, [(w, g), (w2, g2)])) := by
  have l1 := l.new (o := .tup [.int w, .int g]) nu
  have l1b := l1.new (o := .tup [.int w2, .int g2]) nu2
  have l2 := l1b.new (o := .lst [.ref u, .ref u2]) nq
  have s1 := same_new (o := .tup [.int w2, .int g2]) nu2
  have s2 := same_new (o := .lst [.ref u, .ref u2]) nq
  have s3 := same_new (o := .tup [.int b, .ref q]) nt
  refine ⟨l2.new nt, l2.none hp nt, l2.at_.ne nt, is_two (by rw [del_ne (l2.at_.ne nt), upd_same]) (is_int _) (is_lst (xs := [.ref u, .ref u2]) ?_ (IsL.snoc (xs := [.ref u]) (IsL.snoc isL_nil (is_two ?_ (is_int _) (is_int _))) (is_two ?_ (is_int _) (is_int _))))⟩
  · rw [del_ne (l1b.at_.ne nq)]; exact s3 _ _ upd_same
  · rw [del_ne (l.at_.ne nu)]; exact s3 _ _ (s2 _ _ (s1 _ _ upd_same))
  · rw [del_ne (l1.at_.ne nu2)]; exact s3 _ _ (s2 _ _ upd_same)
theorem fits_b {n b : Int} {its : List (Int × Int)} (h : ¬ (0 ≤ b ∧ b ≤ 1000000)) : fits n (b, its) = false := by unfold fits; rw [decide_eq_false h]; simp
theorem fits_1 {n b w g : Int} {r : List (Int × Int)} (h : ¬ (-1 < w ∧ w < n ∧ 1 ≤ g ∧ g ≤ 1000)) : fits n (b, (w, g) :: r) = false := by
  unfold fits
  show (fitI n (-1) ((w, g) :: r) && _) = false
  rw [fitI_cons]
  by_cases h1 : -1 < w
  · by_cases h2 : w < n
    · by_cases h3 : 1 ≤ g
      · have h4 : ¬ g ≤ 1000 := fun z => h ⟨h1, h2, h3, z⟩
        simp [h4]
      · simp [h3]
    · simp [h2]
  · simp [h1]
theorem fits_2 {n b w g w2 g2 : Int} (h : ¬ w < w2) : fits n (b, [(w, g), (w2, g2)]) = false := by
  unfold fits
  show (fitI n (-1) [(w, g), (w2, g2)] && _) = false
  rw [fitI_cons, fitI_cons]
  simp [h]
abbrev s__law_bad_limit : Stmt := topS 26
theorem sc__law_bad_limit : FnScope ["pool", "wires", "kind", "far", "wire"] ["pool", "wires"] (defScope s__law_bad_limit) := ⟨rfl, rfl, rfl, by decide +kernel, rfl, by decide +kernel, by decide +kernel⟩
/-- slots: 0 pool 1 wires 2 kind 3 far 4 wire -/
theorem dn__law_bad_limit (M : Mg mg) (C : Cg K mg) (g : Fg K mg "_law_bad_limit" s__law_bad_limit) (D__law_take : Dn P w K mg base CX0 "_law_take" 1 ["pool", "limit"] (sp__law_take K)) : Dn P w K mg base CX0 "_law_bad_limit" 2 ["pool", "wires"] (sp__law_bad_limit K) := by
  refine dn_of g sc__law_bad_limit (fun vs H Q E h => by unfold sp__law_bad_limit at h; (repeat (obtain ⟨_, h⟩ := h)); subst_vars; rfl) (fun _ _ _ _ _ _ us hl => match us, hl with | [_, _], _ => rfl) (fun f cdv A outer s H vs Q E hr h => ?_)
  obtain ⟨p, n, rfl, hp, hn, q⟩ := h
  have nd := sc__law_bad_limit.nd
  refine ⟨_, (pss_cons (ps_set (i := 2) nd rfl (by first | exact Or.inl rfl | exact Or.inr rfl) (G.pe_callD D__law_take (hr.mono (by decide)) pass0 (pa_cons (pv 0) (pa_cons pe_int pa_nil))))
    (pss_cons (ps_set (i := 3) nd rfl (by first | exact Or.inl rfl | exact Or.inr rfl) (pe_op op_mul (G.pe_callD D__law_take (hr.mono (by decide)) pass0 (pa_cons (pv 0) (pa_cons pe_int pa_nil))) (G.pe_callD D__law_take (hr.mono (by decide)) pass0 (pa_cons (pv 0) (pa_cons pe_int pa_nil)))))
    (pss_cons (ps_if (pt_cmpR op_eq (pv 2) pe_int (nomark _)) (pss_one (ps_ret (pe_tup (pa_cons (pe_op op_sub (pe_un un_neg pe_int) (pv 3)) (pa_cons (pe_lst pa_nil) pa_nil))))) pss_nil)
    (pss_cons (ps_if (pt_cmpR op_eq (pv 2) pe_int (nomark _)) (pss_one (ps_ret (pe_tup (pa_cons (pe_op op_add pe_int (pv 3)) (pa_cons (pe_lst pa_nil) pa_nil))))) pss_nil)
    (pss_cons (ps_if (pt_cmpR op_eq (pv 2) pe_int (nomark _)) (pss_one (ps_ret (pe_tup (pa_cons pe_int (pa_cons (pe_lst (pa_cons (pe_tup (pa_cons (pe_op op_add (pv 1) (pv 3)) (pa_cons pe_int pa_nil))) pa_nil)) pa_nil))))) pss_nil)
    (pss_cons (ps_if (pt_cmpR op_eq (pv 2) pe_int (nomark _)) (pss_one (ps_ret (pe_tup (pa_cons pe_int (pa_cons (pe_lst (pa_cons (pe_tup (pa_cons (pe_op op_sub (pe_un un_neg pe_int) (pv 3)) (pa_cons pe_int pa_nil))) pa_nil)) pa_nil))))) pss_nil)
    (pss_cons (ps_set (i := 4) nd rfl (by first | exact Or.inl rfl | exact Or.inr rfl) (pe_op op_mod (pe_callTy call_int1 (by rfl) M.int (by decide +kernel) (pa_cons (pv 3) pa_nil)) (pe_callB (call_max2 rfl) (by rfl) M.max (by decide +kernel) (pa_cons pe_int (pa_cons (pv 1) pa_nil)))))
    (pss_cons (ps_if (PW.pt (pw_or (pt_cmpR op_eq (pv 2) pe_int (nomark _)) (pw_or1 (pt_cmpR op_eq (pv 1) pe_int (nomark _))))) (pss_one (ps_ret (pe_tup (pa_cons pe_int (pa_cons (pe_lst (pa_cons (pe_tup (pa_cons (pv 4) (pa_cons (pe_op op_sub pe_int (pe_op op_mod (pe_callTy call_int1 (by rfl) M.int (by decide +kernel) (pa_cons (pv 3) pa_nil)) pe_int)) pa_nil))) pa_nil)) pa_nil))))) pss_nil)
    (pss_cons (ps_if (pt_cmpR op_eq (pv 2) pe_int (nomark _)) (pss_one (ps_ret (pe_tup (pa_cons pe_int (pa_cons (pe_lst (pa_cons (pe_tup (pa_cons (pv 4) (pa_cons (pe_op op_add pe_int (pv 3)) pa_nil))) pa_nil)) pa_nil))))) pss_nil)
    (pss_cons (ps_if (pt_cmpR op_eq (pv 2) pe_int (nomark _)) (pss_one (ps_ret (pe_tup (pa_cons pe_int (pa_cons (pe_lst (pa_cons (pe_tup (pa_cons (pv 4) (pa_cons pe_int pa_nil))) (pa_cons (pe_tup (pa_cons (pv 4) (pa_cons pe_int pa_nil))) pa_nil))) pa_nil))))) pss_nil)
    (pss_one (ps_ret (pe_tup (pa_cons pe_int (pa_cons (pe_lst (pa_cons (pe_tup (pa_cons (pe_op op_sub (pv 1) pe_int) (pa_cons pe_int pa_nil))) (pa_cons (pe_tup (pa_cons (pe_op op_mod (pe_callTy call_int1 (by rfl) M.int (by decide +kernel) (pa_cons (pv 3) pa_nil)) (pv 1)) (pa_cons pe_int pa_nil))) pa_nil))) pa_nil))))))))))))))), ?_⟩
  refine ⟨_, rfl, p, 8, rfl, hp, by omega, fun kind ns1 k0 k1 => ?_⟩
  have l1 := (Pl.refl hp).draw ns1
  generalize upd H p (.lst (ns1.map V.int)) = H1 at l1 ⊢
  refine ⟨_, rfl, p, 3, rfl, l1.at_, by omega, fun f1 ns2 a0 a1 => ?_⟩
  have l2 := l1.draw ns2
  generalize upd H1 p (.lst (ns2.map V.int)) = H2 at l2 ⊢
  refine ⟨_, rfl, p, 1000, rfl, l2.at_, by omega, fun f2 ns3 b0 b1 => ?_⟩
  have l3 := l2.draw ns3
  generalize upd H2 p (.lst (ns3.map V.int)) = H3 at l3 ⊢
  refine ⟨_, _, rfl, rfl, .inl ⟨by omega, by omega⟩, ?_⟩
  dsimp only
  have hf : 0 ≤ f1 * f2 := Int.mul_nonneg a0 b0
  generalize f1 * f2 = far at hf ⊢
  refine ⟨_, rfl, rfl, _, rfl, ite2i (fun e => ?_) (fun e0 => ?_)⟩
  · refine ⟨_, rfl, _, rfl, _, _, rfl, rfl, Nat.zero_le _, fun qq nq => ⟨sz (by simp), fun t nt => ?_⟩⟩
    obtain ⟨h1, h2, h3, h4⟩ := bad0 hp l3 nq nt
    exact q _ t _ h1 h2 h3 h4 (fits_b (by omega)) (by simp)
  refine ⟨_, rfl, rfl, _, rfl, ite2i (fun e => ?_) (fun e1 => ?_)⟩
  · refine ⟨_, rfl, _, _, rfl, rfl, Nat.zero_le _, fun qq nq => ⟨sz (by simp), fun t nt => ?_⟩⟩
    obtain ⟨h1, h2, h3, h4⟩ := bad0 hp l3 nq nt
    exact q _ t _ h1 h2 h3 h4 (fits_b (by omega)) (by simp)
  refine ⟨_, rfl, rfl, _, rfl, ite2i (fun e => ?_) (fun e2 => ?_)⟩
  · refine ⟨_, rfl, _, rfl, _, _, rfl, rfl, sz (by simp), fun u nu => ⟨sz (by simp), fun qq nq => ⟨sz (by simp), fun t nt => ?_⟩⟩⟩
    obtain ⟨h1, h2, h3, h4⟩ := bad1 hp l3 nu nq nt
    exact q _ t _ h1 h2 h3 h4 (fits_1 (by omega)) (by simp)
  refine ⟨_, rfl, rfl, _, rfl, ite2i (fun e => ?_) (fun e3 => ?_)⟩
  · refine ⟨_, rfl, _, rfl, _, _, rfl, rfl, sz (by simp), fun u nu => ⟨sz (by simp), fun qq nq => ⟨sz (by simp), fun t nt => ?_⟩⟩⟩
    obtain ⟨h1, h2, h3, h4⟩ := bad1 hp l3 nu nq nt
    exact q _ t _ h1 h2 h3 h4 (fits_1 (by omega)) (by simp)
  refine ⟨_, rfl, .inl ⟨_, rfl, _, rfl, _, _, rfl, _, _, rfl, rfl, ?_, ?_⟩⟩
  · dsimp only; split <;> omega
  dsimp only
  generalize far % (if (n : Int) > 1 then (n : Int) else 1) = wire
  refine ⟨_, rfl, rfl, _, rfl, ite2i (fun e => iteT ?y1) (fun e4 => ⟨_, rfl, rfl, _, rfl, ite2i (fun e => ?y2) (fun e5 => ?no)⟩)⟩
  case no =>
    refine ⟨_, rfl, rfl, _, rfl, ite2i (fun e => ?_) (fun e6 => ?_)⟩
    · refine ⟨_, rfl, _, rfl, _, _, rfl, rfl, sz (by simp), fun u nu => ⟨sz (by simp), fun qq nq => ⟨sz (by simp), fun t nt => ?_⟩⟩⟩
      obtain ⟨h1, h2, h3, h4⟩ := bad1 hp l3 nu nq nt
      exact q _ t _ h1 h2 h3 h4 (fits_1 (by omega)) (by simp)
    refine ⟨_, rfl, rfl, _, rfl, ite2i (fun e => ?_) (fun e7 => ?_)⟩
    · refine ⟨_, rfl, sz (by simp), fun u nu => ⟨_, rfl, sz (by simp), fun u2 nu2 => ⟨sz (by simp), fun qq nq => ⟨sz (by simp), fun t nt => ?_⟩⟩⟩⟩
      obtain ⟨h1, h2, h3, h4⟩ := bad2 hp l3 nu nu2 nq nt
      exact q _ t _ h1 h2 h3 h4 (fits_2 (by omega)) (by simp)
    · have hz := Int.emod_lt_of_pos far (show (0 : Int) < n by omega)
      refine ⟨_, rfl, _, _, rfl, rfl, sz (by simp), fun u nu => ⟨_, rfl, .inl ⟨_, rfl, _, rfl, _, _, rfl, rfl, by omega, sz (by simp), fun u2 nu2 => ⟨sz (by simp), fun qq nq => ⟨sz (by simp), fun t nt => ?_⟩⟩⟩⟩⟩
      obtain ⟨h1, h2, h3, h4⟩ := bad2 hp l3 nu nu2 nq nt
      exact q _ t _ h1 h2 h3 h4 (fits_2 (by omega)) (by simp)
  all_goals
    refine ⟨_, rfl, _, rfl, .inl ⟨_, rfl, _, _, rfl, rfl, by omega, _, _, rfl, rfl, sz (by simp), fun u nu => ⟨sz (by simp), fun qq nq => ⟨sz (by simp), fun t nt => ?_⟩⟩⟩⟩
    obtain ⟨h1, h2, h3, h4⟩ := bad1 hp l3 nu nq nt
    exact q _ t _ h1 h2 h3 h4 (fits_1 (by omega)) (by simp)
def sp__law_kept (K : PySem.W.Frag) : Sp := fun vs H Q _ => ∃ (r a : Addr) (n : Nat) (L : List Lim), vs = [.ref r, .int n, .ref a] ∧ RuleAt K H r n L ∧ LimAt H a L ∧ Good n L ∧ ∀ H', Same H H' → Q (.bl true) H'
theorem deep_items (its : List (Int × Int)) : (Dt.tup (its.map pr)).dep ≤ 60 ∧ (Dt.tup (its.map pr)).sok = true := by
  constructor
  · unfold Dt.dep
    have : depL (its.map pr) ≤ 1 := depL_map fun q _ => by simp [pr, Dt.dep, depL]
    omega
  · unfold Dt.sok
    exact sokL_map fun q _ => by simp [pr, Dt.sok, sokL]
abbrev s__law_kept : Stmt := topS 27
theorem sc__law_kept : FnScope ["rule", "wires", "limits", "k", "told"] ["rule", "wires", "limits"] (defScope s__law_kept) := ⟨rfl, rfl, rfl, by decide +kernel, rfl, by decide +kernel, by decide +kernel⟩
/-- slots: 0 rule 1 wires 2 limits 3 k 4 told -/
theorem dn__law_kept (M : Mg mg) (C : Cg K mg) (g : Fg K mg "_law_kept" s__law_kept) : Dn P w K mg base CX0 "_law_kept" 1 ["rule", "wires", "limits"] (sp__law_kept K) := by
  refine dn_of g sc__law_kept (fun vs H Q E h => by unfold sp__law_kept at h; (repeat (obtain ⟨_, h⟩ := h)); subst_vars; rfl) (fun _ _ _ _ _ _ us hl => match us, hl with | [_, _, _], _ => rfl) (fun f cdv A outer s H vs Q E hr h => ?_)
  obtain ⟨r, a, n, L, rfl, ⟨dx, t, hr1, hT⟩, ⟨xs, hxs, hlx, hat⟩, G1, q⟩ := h
  have nd := sc__law_kept.nd
  refine ⟨_, (pss_cons (ps_if (PW.pt (pw_or (pt_cmpR op_ne (G.pe_fldK K (pv 0)) (pv 1) (nomark _)) (pw_or (pt_not (pt_val (pe_callB (G.call_isiK' K) (by rfl) M.isinstance (by decide +kernel) (pa_cons (G.pe_fldK K (pv 0)) (pa_cons (pe_bltn (v := .ty "int") (by rfl) M.int (by decide +kernel) rfl) pa_nil))))) (pw_or1 (pt_not (pt_val (pe_callB (G.call_isiK' K) (by rfl) M.isinstance (by decide +kernel) (pa_cons (G.pe_fldK K (pv 0)) (pa_cons (pe_bltn (v := .ty "tuple") (by rfl) M.tuple (by decide +kernel) rfl) pa_nil))))))))) (pss_one (ps_ret pe_bl)) pss_nil)
    (pss_cons (ps_if (PW.pt (pw_or (pt_cmpR op_ne (pe_callB (G.call_lenK K) (by rfl) M.len PySem.boot_len (pa_cons (G.pe_fldK K (pv 0)) pa_nil)) (pe_callB (G.call_lenK K) (by rfl) M.len PySem.boot_len (pa_cons (pv 2) pa_nil)) (nomark _)) (pw_or1 (pt_cmpR op_ne (G.pe_ck C.k_Rule_MOST_WIRES) pe_int (nomark _))))) (pss_one (ps_ret pe_bl)) pss_nil)
    (pss_cons (ps_for PassesOwn.never rfl (pi_range1 rfl M.range (pa_cons (pe_callB (G.call_lenK K) (by rfl) M.len PySem.boot_len (pa_cons (pv 2) pa_nil)) pa_nil)) (pg_name (i := 3) nd rfl (by first | exact Or.inl rfl | exact Or.inr rfl)) (pss_cons (ps_set (i := 4) nd rfl (by first | exact Or.inl rfl | exact Or.inr rfl) (pe_ix (G.ix_tupK K) (G.pe_fldK K (pv 0)) (pv 3) (fun _ _ => rfl)))
    (pss_cons (ps_if (PW.pt (pw_or (pt_not (pt_val (pe_callB (G.call_isiK' K) (by rfl) M.isinstance (by decide +kernel) (pa_cons (pv 4) (pa_cons (pe_bltn (v := .ty "tuple") (by rfl) M.tuple (by decide +kernel) rfl) pa_nil))))) (pw_or (pt_cmpR op_ne (pe_callB (G.call_lenK K) (by rfl) M.len PySem.boot_len (pa_cons (pv 4) pa_nil)) pe_int (nomark _)) (pw_or1 (pt_not (pt_val (pe_callB (G.call_isiK' K) (by rfl) M.isinstance (by decide +kernel) (pa_cons (pe_ix (G.ix_tupK K) (pv 4) pe_int (fun _ _ => rfl)) (pa_cons (pe_bltn (v := .ty "tuple") (by rfl) M.tuple (by decide +kernel) rfl) pa_nil))))))))) (pss_one (ps_ret pe_bl)) pss_nil)
    (pss_one (ps_if (PW.pt (pw_or (pt_cmpR (G.op_neDK K hr.units) (pe_ix (G.ix_tupK K) (pv 4) pe_int (fun _ _ => rfl)) (pe_ix (G.ix_tupK K) (pe_ix (G.ix_listK K) (pv 2) (pv 3) (fun _ _ => rfl)) pe_int (fun _ _ => rfl)) (nomark _)) (pw_or1 (pt_cmpR (G.op_neDK K hr.units) (pe_ix (G.ix_tupK K) (pv 4) pe_int (fun _ _ => rfl)) (pe_callTy (G.call_tupK K) (by rfl) M.tuple (by decide +kernel) (pa_cons (pe_ix (G.ix_tupK K) (pe_ix (G.ix_listK K) (pv 2) (pv 3) (fun _ _ => rfl)) pe_int (fun _ _ => rfl)) pa_nil)) (nomark _))))) (pss_one (ps_ret pe_bl)) pss_nil)))))
    (pss_one (ps_ret pe_bl))))), ?_⟩
  obtain ⟨t', ts, et, ht, hts⟩ := Is.tup (l := L.map limT) hT
  cases et
  have hlt := hts.length
  rw [List.length_map] at hlt
  have hlen := G1.len
  refine ⟨_, rfl, r, _, dx, _, .int n, rfl, hr1, C.r_Rule.cl, C.n_Rule_wires, lkW _ _, _, rfl, rfl, _, rfl, iteNS rfl ?_⟩
  refine ⟨_, rfl, r, _, dx, _, .int n, rfl, hr1, C.r_Rule.cl, C.n_Rule_wires, lkW _ _, isi_t (d := .int n) true (by simp) (by simp only [Dt.ty]; decide +kernel) (is_int _) ⟨_, rfl, iteF ?_⟩⟩
  refine ⟨_, rfl, r, _, dx, _, .ref t, rfl, hr1, C.r_Rule.cl, C.n_Rule_limits, lkL _ _, isi_t (d := limsD L) true (by simp) (by simp only [limsD, Dt.ty]; decide +kernel) hT ⟨_, rfl, iteF ?_⟩⟩
  refine ⟨_, rfl, r, _, dx, _, .ref t, rfl, hr1, C.r_Rule.cl, C.n_Rule_limits, lkL _ _, t, _, rfl, .inr (sq_tup ht), _, rfl, a, _, rfl, .inl hxs.sq, rfl, _, rfl, iteNS (by rw [hlt, hlx]) ?_⟩
  refine ⟨rfl, _, rfl, iteNS rfl ?_⟩
  refine ⟨_, rfl, a, _, rfl, .inl hxs.sq, _, rfl, by omega, by omega, for_range (lo := 0) (n := ((xs.length : Nat) : Int).toNat) (fun k σ H' => Same H H' ∧ ∃ v3 v4, σ = [some (.ref r), some (.int n), some (.ref a), v3, v4]) ⟨Same.refl _, _, _, rfl⟩ ?_ ?_⟩
  · rintro k σ H' hk ⟨s, v3, v4, rfl⟩
    have hil : k < L.length := by omega
    have hl := List.getElem?_eq_getElem hil
    generalize L[k] = l at hl
    have hkx : k < xs.length := by omega
    obtain ⟨e, iy, se⟩ := hat k l _ hl (List.getElem?_eq_getElem hkx)
    have hgx := List.getElem?_eq_getElem hkx
    generalize xs[k] = y at iy hgx
    obtain ⟨u2, b2, w2, rfl, hu2, j1, j2⟩ := (iy.mono s).pair
    have eb := j1.toInt
    subst eb
    obtain ⟨z, hz, iz⟩ := hts.get (i := k) (d := limT l) (by rw [List.getElem?_map, hl]; rfl)
    have iz : Is H' z (.tup [.int l.1, .tup (l.2.map pr)]) := iz.mono s
    obtain ⟨u, b1, w1, rfl, hu, i1, i2⟩ := id iz.pair
    have eb := i1.toInt
    subst eb
    have hxs' := hxs.mono s
    refine ⟨_, rfl, r, _, dx, _, .ref t, rfl, s _ _ hr1, C.r_Rule.cl, C.n_Rule_limits, lkL _ _, _, rfl, t, ts, _, .ref u, rfl, rfl, sq_tup (s _ _ ht), atI_of (Int.zero_add _) hz, ?_⟩
    refine isi_b (i := 4) true (by simp) (by simp only [Dt.ty]; decide +kernel) rfl iz ⟨_, rfl, iteF ?_⟩
    refine ⟨_, rfl, u, _, rfl, .inr (sq_tup hu), rfl, _, rfl, iteNS rfl ?_⟩
    refine ⟨_, rfl, u, _, 1, w1, rfl, rfl, sq_tup hu, rfl, isi_t true (by simp) (by simp only [Dt.ty]; decide +kernel) i2 ⟨_, rfl, iteF ?_⟩⟩
    refine ⟨_, rfl, u, _, 0, .int l.1, rfl, rfl, sq_tup hu, rfl, _, rfl, _, rfl, a, xs, _, .ref u2, rfl, rfl, hxs'.sq, atI_of (Int.zero_add _) hgx, u2, _, 0, .int l.1, rfl, rfl, sq_tup hu2, rfl, ne_dt (is_int _) (is_int _) ⟨by simp [Dt.dep], by simp [Dt.sok]⟩ ⟨_, rfl, iteF ?_⟩⟩
    refine ⟨_, rfl, u, _, 1, w1, rfl, rfl, sq_tup hu, rfl, _, rfl, _, rfl, a, xs, _, .ref u2, rfl, rfl, hxs'.sq, atI_of (Int.zero_add _) hgx, u2, _, 1, w2, rfl, rfl, sq_tup hu2, rfl, ?_⟩
    have fin : ∀ {H2 : Hp} {g : Addr} {w : V}, Same H' H2 → Is H2 w (.tup (l.2.map pr)) → rNeD K w1 w H2 (fun x H3 => ∃ k', x = .bl k' ∧ if k' = true then Q (.bl false) H3 else Same H H3 ∧ ∃ v3 v4, ([some (.ref r), some (.int n), some (.ref a), some (.int (0 + (k : Int))), some (.ref u)] : L2.St) = [some (.ref r), some (.int n), some (.ref a), v3, v4]) := fun s2 hw =>
      ne_dt (i2.mono s2) hw (deep_items _) ⟨_, rfl, iteF ⟨s.trans s2, _, _, rfl⟩⟩
    rcases se with rfl | rfl
    · unfold Is at j2
      obtain ⟨a3, zs, rfl, h5, h6⟩ := j2
      exact ⟨a3, zs, rfl, .inl ⟨h5.sq, fun p np => fin (g := p) (same_new np) (is_tup upd_same (IsL.mono (same_new np) h6))⟩⟩
    · obtain ⟨a3, zs, rfl, h5, h6⟩ := id (Is.tup j2)
      exact ⟨a3, zs, rfl, .inr ⟨sq_tup h5, fin (g := a3) (Same.refl _) j2⟩⟩
  · rintro σ H' ⟨s, v3, v4, rfl⟩
    exact q H' s
def sp__law_asked (K : PySem.W.Frag) : Sp := fun vs H Q _ => ∃ (r a : Addr) (n m w : Nat) (L : List Lim), vs = [.ref r, .ref a, .int m, .int w] ∧ RuleAt K H r n L ∧ LimAt H a L ∧ Good n L ∧ m < 2 ^ n ∧ w < 2 ^ n ∧ ∀ H', Same H H' → Q (.bl true) H'
theorem xor_back (w m : Nat) : w ^^^ (w ^^^ m) = m := by
  apply Nat.eq_of_testBit_eq
  intro i
  rw [Nat.testBit_xor, Nat.testBit_xor]
  cases w.testBit i <;> cases m.testBit i <;> rfl
theorem xor_back2 (w m : Nat) : (w ^^^ m) ^^^ w = m := by
  apply Nat.eq_of_testBit_eq
  intro i
  rw [Nat.testBit_xor, Nat.testBit_xor]
  cases w.testBit i <;> cases m.testBit i <;> rfl
abbrev s__law_asked : Stmt := topS 28
theorem sc__law_asked : FnScope ["rule", "limits", "mask", "word", "due", "fine", "k", "loads", "told"] ["rule", "limits", "mask", "word"] (defScope s__law_asked) := ⟨rfl, rfl, rfl, by decide +kernel, rfl, by decide +kernel, by decide +kernel⟩
/-- slots: 0 rule 1 limits 2 mask 3 word 4 due 5 fine 6 k 7 loads 8 told -/
theorem dn__law_asked (M : Mg mg) (C : Cg K mg) (g : Fg K mg "_law_asked" s__law_asked) (D__law_due : Dn P w K mg base CX0 "_law_due" 1 ["limits", "mask"] (sp__law_due K)) (D_Rule_loads : DnM P w K mg base (L2.CX P w) "Rule" "loads" 4 ["self", "mask"] (sp_Rule_loads K)) (D__law_ints : Dn P w K mg base CX0 "_law_ints" 1 ["told", "due"] (sp__law_ints K)) (D_Rule_allows : DnM P w K mg base (L2.CX P w) "Rule" "allows" 5 ["self", "mask"] (sp_Rule_allows K)) (D_Rule_allows_step : DnM P w K mg base (L2.CX P w) "Rule" "allows_step" 6 ["self", "first", "second"] (sp_Rule_allows_step K)) (D_Rule___contains__ : DnM P w K mg base (L2.CX P w) "Rule" "__contains__" 6 ["self", "mask"] (sp_Rule___contains__ K)) : Dn P w K mg base CX0 "_law_asked" 7 ["rule", "limits", "mask", "word"] (sp__law_asked K) := by
  refine dn_of g sc__law_asked (fun vs H Q E h => by unfold sp__law_asked at h; (repeat (obtain ⟨_, h⟩ := h)); subst_vars; rfl) (fun _ _ _ _ _ _ us hl => match us, hl with | [_, _, _, _], _ => rfl) (fun f cdv A outer s H vs Q E hr h => ?_)
  obtain ⟨r, a, n, m, w', L, rfl, hR, hL, G1, hm, hw, q⟩ := h
  have nd := sc__law_asked.nd
  refine ⟨_, (pss_cons (ps_set (i := 4) nd rfl (by first | exact Or.inl rfl | exact Or.inr rfl) (G.pe_callD D__law_due (hr.mono (by decide)) pass0 (pa_cons (pv 1) (pa_cons (pv 2) pa_nil))))
    (pss_cons (ps_set (i := 5) nd rfl (by first | exact Or.inl rfl | exact Or.inr rfl) pe_bl)
    (pss_cons (ps_for PassesOwn.never rfl (pi_range1 rfl M.range (pa_cons (pe_callB (G.call_lenK K) (by rfl) M.len PySem.boot_len (pa_cons (pv 1) pa_nil)) pa_nil)) (pg_name (i := 6) nd rfl (by first | exact Or.inl rfl | exact Or.inr rfl)) (pss_one (ps_if (pt_cmpR op_gt (pe_ix (G.ix_listK K) (pv 4) (pv 6) (fun _ _ => rfl)) (pe_ix (G.ix_tupK K) (pe_ix (G.ix_listK K) (pv 1) (pv 6) (fun _ _ => rfl)) pe_int (fun _ _ => rfl)) (nomark _)) (pss_one (ps_set (i := 5) nd rfl (by first | exact Or.inl rfl | exact Or.inr rfl) pe_bl)) pss_nil)))
    (pss_cons (ps_set (i := 7) nd rfl (by first | exact Or.inl rfl | exact Or.inr rfl) (G.pe_methD K D_Rule_loads (hr.mono (by decide)) (G.atAll passL) (pv 0) (pa_cons (pv 2) pa_nil)))
    (pss_cons (ps_if (PW.pt (pw_or (pt_not (pt_val (G.pe_callD D__law_ints (hr.mono (by decide)) pass0 (pa_cons (pv 7) (pa_cons (pv 4) pa_nil))))) (pw_or1 (pt_cmpR op_ne (pe_cmp (G.pc_inD K D_Rule___contains__ (hr.mono (by decide)) (G.atAll passL) (pv 2) (pv 0))) (pv 5) (nomark _))))) (pss_one (ps_ret pe_bl)) pss_nil)
    (pss_cons (ps_expr (pe_bm PySem.F.plainAttrs_list PySem.F.slot_list_append PySem.F.type_list_append mt_append (pv 7) (pa_cons pe_int pa_nil)))
    (pss_cons (ps_if (pt_not (pt_val (G.pe_callD D__law_ints (hr.mono (by decide)) pass0 (pa_cons (G.pe_methD K D_Rule_loads (hr.mono (by decide)) (G.atAll passL) (pv 0) (pa_cons (pv 2) pa_nil)) (pa_cons (pv 4) pa_nil))))) (pss_one (ps_ret pe_bl)) pss_nil)
    (pss_cons (ps_for PassesOwn.never rfl (G.pi_listK K (pe_lst (pa_cons (G.pe_methD K D_Rule_allows (hr.mono (by decide)) (G.atAll passL) (pv 0) (pa_cons (pv 2) pa_nil)) (pa_cons (G.pe_methD K D_Rule_allows_step (hr.mono (by decide)) (G.atAll passL) (pv 0) (pa_cons (pv 3) (pa_cons (pe_op G.op_xorN (pv 3) (pv 2)) pa_nil))) (pa_cons (G.pe_methD K D_Rule_allows_step (hr.mono (by decide)) (G.atAll passL) (pv 0) (pa_cons (pe_op G.op_xorN (pv 3) (pv 2)) (pa_cons (pv 3) pa_nil))) pa_nil))))) (pg_name (i := 8) nd rfl (by first | exact Or.inl rfl | exact Or.inr rfl)) (pss_one (ps_if (PW.pt (pw_or (pt_not (pt_val (pe_callB (G.call_isiK' K) (by rfl) M.isinstance (by decide +kernel) (pa_cons (pv 8) (pa_cons (pe_bltn (v := .ty "bool") (by rfl) M.bool (by decide +kernel) rfl) pa_nil))))) (pw_or1 (pt_cmpR op_ne (pv 8) (pv 5) (nomark _))))) (pss_one (ps_ret pe_bl)) pss_nil)))
    (pss_one (ps_ret pe_bl)))))))))), ?_⟩
  have h300 := G1.n300
  have b2 : ∀ {x : Nat}, x < 2 ^ n → x < 2 ^ 1000 := fun h => Nat.lt_of_lt_of_le h (Nat.pow_le_pow_right (by decide) (by omega))
  have ok : ∀ {x : Nat}, x < 2 ^ n → (0 : Int) ≤ (x : Int) ∧ (x : Int) < ((2 ^ n : Nat) : Int) := fun h => ⟨by omega, by omega⟩
  have nb : ∀ {x : Nat} {P : Prop}, x < 2 ^ n → ((x : Int) < 0 ∨ ((2 ^ n : Nat) : Int) ≤ (x : Int)) → P := fun h k => by omega
  have hx : w' ^^^ m < 2 ^ n := Nat.xor_lt_two_pow hw hm
  obtain ⟨dx, t, hr1, hT⟩ := id hR
  obtain ⟨xs, hxs, hlx, hat⟩ := id hL
  have hlen := G1.len
  have hll : (loadsF L m).length = L.length := by unfold loadsF; rw [List.length_map]
  refine ⟨_, rfl, _, rfl, a, n, m, L, rfl, hL, G1, fun H1 d s1 nd1 hd => ?_⟩
  have hxs1 := hxs.mono s1
  refine ⟨_, rfl, a, _, rfl, .inl hxs1.sq, _, rfl, by omega, by omega, for_range (lo := 0) (n := ((xs.length : Nat) : Int).toNat) (fun k σ H' => H' = H1 ∧ ∃ v6, σ = [some (.ref r), some (.ref a), some (.int m), some (.int w'), some (.ref d), some (.bl (allowsF (L.take k) m)), v6, none, none]) ⟨rfl, none, by simp [allowsF]; rfl⟩ ?_ ?_⟩
  · rintro k σ H2 hk ⟨rfl, v6, rfl⟩
    have hjl : k < L.length := by omega
    have hl := List.getElem?_eq_getElem hjl
    generalize L[k] = l at hl
    have hjx : k < xs.length := by omega
    obtain ⟨e, iy, se⟩ := hat k l _ hl (List.getElem?_eq_getElem hjx)
    have hgx := List.getElem?_eq_getElem hjx
    generalize xs[k] = y at iy hgx
    obtain ⟨u2, b2', w2, rfl, hu2, j1, j2⟩ := (iy.mono s1).pair
    have eb := j1.toInt
    subst eb
    have hg : ((loadsF L m).map V.int)[k]? = some (.int (loadI m l.2)) := by
      unfold loadsF
      rw [List.getElem?_map, List.getElem?_map, hl]; rfl
    refine ⟨_, rfl, _, rfl, d, _, _, .int (loadI m l.2), rfl, rfl, sq_lst hd, atI_of (Int.zero_add _) hg, _, rfl, _, rfl, a, xs, _, .ref u2, rfl, rfl, hxs1.sq, atI_of (Int.zero_add _) hgx, u2, _, 0, .int l.1, rfl, rfl, sq_tup hu2, rfl, _, _, rfl, rfl, _, rfl, ite2d (fun c => ?_) (fun c => ?_)⟩
    · refine ⟨rfl, some (.int (0 + (k : Int))), ?_⟩
      rw [allows_take hl, decide_eq_false (by omega), Bool.and_false]; rfl
    · refine ⟨rfl, some (.int (0 + (k : Int))), ?_⟩
      rw [allows_take hl, decide_eq_true (by omega), Bool.and_true]; rfl
  rintro σ H2 ⟨rfl, v6, rfl⟩
  rw [show ((xs.length : Nat) : Int).toNat = L.length by omega, List.take_length]
  refine ⟨_, rfl, r, dx, _, rfl, s1 _ _ hr1, lkN _ _ (by decide +kernel) (by decide +kernel), _, rfl, r, n, L, m, rfl, hR.mono s1, G1, log2_small (b2 hm), fun k => nb hm k, fun _ _ H3 p s3 np hp => ?_⟩
  rw [Int.toNat_natCast] at hp
  refine ⟨_, rfl, _, rfl, p, d, _, rfl, hp, s3 _ _ hd, fun H4 s4 => ⟨true, rfl, iteF ?_⟩⟩
  have s14 := s1.trans (s3.trans s4)
  refine ⟨_, rfl, _, rfl, r, dx, _, rfl, s14 _ _ hr1, r, n, L, m, rfl, hR.mono s14, G1, log2_small (b2 hm), fun k => nb hm k, fun _ _ H5 s5 => ⟨_, rfl, _, rfl, rfl, _, rfl, iteNS (by rw [Int.toNat_natCast]) ?_⟩⟩
  have hp5 := s5 _ _ (s4 _ _ hp)
  have hd5 := s5 _ _ (s4 _ _ (s3 _ _ hd))
  refine ⟨_, rfl, .inl ⟨rfl, _, sq_lst hp5⟩, p, _, _, rfl, rfl, hp5, szl (by rw [List.length_map, hll]; omega), ?_⟩
  have s26 : Same H2 (upd H5 p (.lst ((loadsF L m).map V.int ++ [V.int 1]))) := Same.mut (s3.trans (s4.trans s5)) np
  generalize upd H5 p (.lst ((loadsF L m).map V.int ++ [V.int 1])) = H6 at s26 ⊢
  have s6 := s1.trans s26
  refine ⟨_, rfl, r, dx, _, rfl, s6 _ _ hr1, lkN _ _ (by decide +kernel) (by decide +kernel), _, rfl, r, n, L, m, rfl, hR.mono s6, G1, log2_small (b2 hm), fun k => nb hm k, fun _ _ H7 p2 s7 np2 hp2 => ?_⟩
  rw [Int.toNat_natCast] at hp2
  refine ⟨_, rfl, p2, d, _, rfl, hp2, s7 _ _ (s26 _ _ hd), fun H8 s8 => ⟨true, rfl, iteF ?_⟩⟩
  have t8 := s6.trans (s7.trans s8)
  refine ⟨_, rfl, r, dx, _, rfl, t8 _ _ hr1, lkN _ _ (by decide +kernel) (by decide +kernel), _, rfl, r, n, L, m, rfl, hR.mono t8, G1, log2_small (b2 hm), fun k => nb hm k, fun _ _ H9 s9 => ?_⟩
  have t9 := t8.trans s9
  refine ⟨_, rfl, r, dx, _, rfl, t9 _ _ hr1, lkN _ _ (by decide +kernel) (by decide +kernel), _, rfl, _, rfl, _, rfl, w', m, rfl, rfl, r, n, L, w', ((w' ^^^ m : Nat) : Int), rfl, hR.mono t9, G1, log2_small (b2 hw), log2_small (b2 hx), fun k => nb hw k, fun _ _ k => nb hx k, fun _ _ _ _ H10 s10 => ?_⟩
  have t10 := t9.trans s10
  refine ⟨_, rfl, r, dx, _, rfl, t10 _ _ hr1, lkN _ _ (by decide +kernel) (by decide +kernel), _, rfl, _, rfl, w', m, rfl, rfl, _, rfl, r, n, L, ((w' ^^^ m : Nat) : Int), w', rfl, hR.mono t10, G1, log2_small (b2 hx), log2_small (b2 hw), fun k => nb hx k, fun _ _ k => nb hw k, fun _ _ _ _ H11 s11 => ?_⟩
  have t11 := t10.trans s11
  rw [Int.toNat_natCast, Int.toNat_natCast, Int.toNat_natCast, xor_back, xor_back2]
  refine ⟨sz (by simp), fun lt nlt => ?_⟩
  have t12 := t11.new (o := .lst [V.bl (allowsF L m), V.bl (allowsF L m), V.bl (allowsF L m)]) nlt
  have hlt : (upd H11 lt (.lst [V.bl (allowsF L m), V.bl (allowsF L m), V.bl (allowsF L m)])) lt = some (.lst [V.bl (allowsF L m), V.bl (allowsF L m), V.bl (allowsF L m)]) := upd_same
  generalize upd H11 lt (.lst [V.bl (allowsF L m), V.bl (allowsF L m), V.bl (allowsF L m)]) = H12 at *
  refine ⟨lt, rfl, ⟨_, sq_lst hlt⟩, for_list (xs := [V.bl (allowsF L m), V.bl (allowsF L m), V.bl (allowsF L m)]) (fun i σ H' => Same H12 H' ∧ ∃ v8, σ = [some (.ref r), some (.ref a), some (.int m), some (.int w'), some (.ref d), some (.bl (allowsF L m)), v6, some (.ref p), v8]) ⟨Same.refl _, _, rfl⟩ (fun i σ H' _ z => sq_lst (z.1 _ _ hlt)) ?_ ?_⟩
  · rintro i x σ H' hx ⟨s, v8, rfl⟩
    have ex : x = V.bl (allowsF L m) := by
      have := List.mem_of_getElem? hx
      simpa using this
    subst ex
    exact isi_b (i := 8) true (by simp) (by simp only [Dt.ty]; decide +kernel) rfl (is_bl _) ⟨_, rfl, iteF ⟨_, rfl, _, rfl, rfl, _, rfl, iteNS rfl ⟨s, _, rfl⟩⟩⟩
  · rintro σ H' ⟨s, v8, rfl⟩
    exact q H' (t12.trans s)
def sp__law_widest (_K : PySem.W.Frag) : Sp := fun vs H Q _ => ∃ (p : Addr), vs = [.ref p] ∧ PoolAt H p ∧ ∀ H', Q (.bl true) H'
/-- the wires that are not free -/
def stuckI (f k : Nat) : List (Int × Int) := ((List.range k).filter fun i => !f.testBit i).map fun i : Nat => ((i : Int), (1 : Int))
theorem stuckI_succ (f k : Nat) : stuckI f (k + 1) = if !f.testBit k then stuckI f k ++ [((k : Int), 1)] else stuckI f k := by
  unfold stuckI
  rw [List.range_succ, List.filter_append, List.map_append]
  by_cases h : f.testBit k <;> simp [h]
theorem stuckI_fit (f n : Nat) : ∀ k : Nat, k ≤ n → fitI (n : Int) (-1) (stuckI f k) = true ∧ (∀ q ∈ stuckI f k, q.1 < (k : Int)) ∧ (stuckI f k).length ≤ k
  | 0, _ => ⟨rfl, by simp [stuckI], Nat.zero_le _⟩
  | k + 1, h => by
    obtain ⟨h1, h2, h3⟩ := stuckI_fit f n k (by omega)
    rw [stuckI_succ]
    split
    · refine ⟨fitI_snoc h1 h2 (by omega) (by omega) (by omega) (by omega), fun q hq => ?_, by rw [List.length_append]; exact Nat.succ_le_succ h3⟩
      rw [List.mem_append, List.mem_singleton] at hq
      rcases hq with hq | rfl
      · have := h2 q hq; omega
      · show (k : Int) < ((k + 1 : Nat) : Int)
        omega
    · exact ⟨h1, fun q hq => by have := h2 q hq; omega, by omega⟩
abbrev s__law_widest : Stmt := topS 29
theorem sc__law_widest : FnScope ["pool", "low", "pair", "limits", "rule", "mask", "free", "wires", "stuck", "wire", "spoilt"] ["pool"] (defScope s__law_widest) := ⟨rfl, rfl, rfl, by decide +kernel, rfl, by decide +kernel, by decide +kernel⟩
/-- slots: 0 pool 1 low 2 pair 3 limits 4 rule 5 mask 6 free 7 wires 8 stuck 9 wire 10 spoilt -/
theorem dn__law_widest (M : Mg mg) (C : Cg K mg) (g : Fg K mg "_law_widest" s__law_widest) (D__law_take : Dn P w K mg base CX0 "_law_take" 1 ["pool", "limit"] (sp__law_take K)) (D_Rule___init__ : DnI P w K mg base (L2.CX P w) "Rule" 3 [] (sp_Rule___init__ K)) (D__law_kept : Dn P w K mg base CX0 "_law_kept" 1 ["rule", "wires", "limits"] (sp__law_kept K)) (D__law_mask : Dn P w K mg base CX0 "_law_mask" 2 ["pool", "wires"] (sp__law_mask K)) (D__law_told_rule : Dn P w K mg base CX0 "_law_told_rule" 5 ["wires", "limits"] (sp__law_told_rule K)) (D__law_asked : Dn P w K mg base CX0 "_law_asked" 7 ["rule", "limits", "mask", "word"] (sp__law_asked K)) (D__law_listed : Dn P w K mg base CX0 "_law_listed" 7 ["rule", "limits", "wires"] (sp__law_listed K)) : Dn P w K mg base CX0 "_law_widest" 8 ["pool"] (sp__law_widest K) := by
  refine dn_of g sc__law_widest (fun vs H Q E h => by unfold sp__law_widest at h; (repeat (obtain ⟨_, h⟩ := h)); subst_vars; rfl) (fun _ _ _ _ _ _ us hl => match us, hl with | [_], _ => rfl) (fun f cdv A outer s H vs Q E hr h => ?_)
  obtain ⟨p, rfl, hp, q⟩ := h
  have nd := sc__law_widest.nd
  refine ⟨_, (pss_cons (ps_set (i := 1) nd rfl (by first | exact Or.inl rfl | exact Or.inr rfl) (G.pe_callD D__law_take (hr.mono (by decide)) pass0 (pa_cons (pv 0) (pa_cons pe_int pa_nil))))
    (pss_cons (ps_set (i := 2) nd rfl (by first | exact Or.inl rfl | exact Or.inr rfl) (pe_tup (pa_cons (pe_tup (pa_cons (pv 1) (pa_cons pe_int pa_nil))) (pa_cons (pe_tup (pa_cons pe_int (pa_cons pe_int pa_nil))) pa_nil))))
    (pss_cons (ps_set (i := 3) nd rfl (by first | exact Or.inl rfl | exact Or.inr rfl) (pe_lst (pa_cons (pe_tup (pa_cons pe_int (pa_cons (pv 2) pa_nil))) (pa_cons (pe_tup (pa_cons pe_int (pa_cons (pv 2) pa_nil))) (pa_cons (pe_tup (pa_cons pe_int (pa_cons (pe_tup pa_nil) pa_nil))) (pa_cons (pe_tup (pa_cons pe_int (pa_cons (pe_slice (G.sl_tupK K) (pv 2) (po_some pe_int) po_none) pa_nil))) pa_nil))))))
    (pss_cons (ps_set (i := 4) nd rfl (by first | exact Or.inl rfl | exact Or.inr rfl) (G.pe_makeD K D_Rule___init__ (hr.mono (by decide)) (G.atAll passL) (pa_cons pe_int (pa_cons (pe_callTy (G.call_listK K) (by rfl) M.list (by decide +kernel) (pa_cons (pv 3) pa_nil)) pa_nil))))
    (pss_cons (ps_if (pt_not (pt_val (G.pe_callD D__law_kept (hr.mono (by decide)) pass0 (pa_cons (pv 4) (pa_cons pe_int (pa_cons (pv 3) pa_nil)))))) (pss_one (ps_ret pe_bl)) pss_nil)
    (pss_cons (ps_for PassesOwn.never rfl (G.pi_listK K (pe_lst (pa_cons (pe_op G.op_shlM pe_int pe_int) (pa_cons (pe_op op_add (pe_op G.op_shlM pe_int pe_int) (pe_op G.op_shlM pe_int (pv 1))) (pa_cons (pe_op G.op_shlM pe_int (pv 1)) (pa_cons (pe_op op_sub (pe_op G.op_shlM pe_int pe_int) pe_int) pa_nil)))))) (pg_name (i := 5) nd rfl (by first | exact Or.inl rfl | exact Or.inr rfl)) (pss_one (ps_if (pt_not (pt_val (G.pe_callD D__law_asked (hr.mono (by decide)) pass0 (pa_cons (pv 4) (pa_cons (pv 3) (pa_cons (pv 5) (pa_cons (pe_op G.op_shrM (pv 5) pe_int) pa_nil))))))) (pss_one (ps_ret pe_bl)) pss_nil)))
    (pss_cons (ps_set (i := 6) nd rfl (by first | exact Or.inl rfl | exact Or.inr rfl) (pe_op G.op_andN (G.pe_callD D__law_mask (hr.mono (by decide)) pass0 (pa_cons (pv 0) (pa_cons pe_int pa_nil))) (G.pe_callD D__law_mask (hr.mono (by decide)) pass0 (pa_cons (pv 0) (pa_cons pe_int pa_nil)))))
    (pss_cons (ps_for PassesOwn.never rfl (G.pi_listK K (pe_lst (pa_cons pe_int (pa_cons pe_int pa_nil)))) (pg_name (i := 7) nd rfl (by first | exact Or.inl rfl | exact Or.inr rfl)) (pss_cons (ps_set (i := 8) nd rfl (by first | exact Or.inl rfl | exact Or.inr rfl) (pe_lst (pa_cons (pe_tup (pa_cons pe_int (pa_cons (pe_callTy (G.call_tupK K) (by rfl) M.tuple (by decide +kernel) (pa_cons (pe_lc (own := [("wire", 9)]) (g := (gName 9)) rfl nd (pi_range1 rfl M.range (pa_cons pe_int pa_nil)) (blkOk_by (by kernel_rfl)) (fun _ _ _ _ _ => (pg_name (i := 9) nd rfl (by first | exact Or.inl rfl | exact Or.inr rfl))) (fun _ _ _ _ _ => (pts_one (pt_cmpR op_eq (pe_op G.op_andN (pe_op G.op_shrM (pv 6) (pv 9)) pe_int) pe_int (nomark _)))) (fun _ _ _ _ _ => (pe_tup (pa_cons (pv 9) (pa_cons pe_int pa_nil))))) pa_nil)) pa_nil))) pa_nil)))
    (pss_one (ps_if (pt_not (pt_val (G.pe_callD D__law_listed (hr.mono (by decide)) pass0 (pa_cons (G.pe_makeD K D_Rule___init__ (hr.mono (by decide)) (G.atAll passL) (pa_cons (pv 7) (pa_cons (pe_callTy (G.call_listK K) (by rfl) M.list (by decide +kernel) (pa_cons (pv 8) pa_nil)) pa_nil))) (pa_cons (pv 8) (pa_cons (pv 7) pa_nil)))))) (pss_one (ps_ret pe_bl)) pss_nil))))
    (pss_cons (ps_for PassesOwn.never rfl (G.pi_listK K (pe_lst (pa_cons (pe_tup (pa_cons pe_int (pa_cons (pv 2) pa_nil))) (pa_cons (pe_tup (pa_cons pe_int (pa_cons (pe_lst (pa_cons (pe_tup (pa_cons (pv 1) (pa_cons pe_int pa_nil))) (pa_cons (pe_tup (pa_cons pe_int (pa_cons pe_int pa_nil))) pa_nil))) pa_nil))) (pa_cons (pe_tup (pa_cons pe_int (pa_cons (pe_lst (pa_cons (pe_tup (pa_cons (pv 1) (pa_cons pe_int pa_nil))) (pa_cons (pe_tup (pa_cons pe_int (pa_cons pe_int pa_nil))) pa_nil))) pa_nil))) pa_nil))))) (pg_name (i := 10) nd rfl (by first | exact Or.inl rfl | exact Or.inr rfl)) (pss_one (ps_if (pt_cmpR (G.op_neDK K hr.units) (G.pe_callD D__law_told_rule (hr.mono (by decide)) pass0 (pa_cons pe_int (pa_cons (pe_lst (pa_cons (pe_tup (pa_cons pe_int (pa_cons (pe_lst pa_nil) pa_nil))) (pa_cons (pv 10) pa_nil))) pa_nil))) (pe_tup (pa_cons pe_str (pa_cons pe_int pa_nil))) (nomark _)) (pss_one (ps_ret pe_bl)) pss_nil)))
    (pss_one (ps_ret (pe_cmpR (G.op_eqDK K hr.units) (G.pe_callD D__law_told_rule (hr.mono (by decide)) pass0 (pa_cons pe_int (pa_cons (pe_lst pa_nil) pa_nil))) (pe_tup (pa_cons pe_str (pa_cons (pe_un un_neg pe_int) pa_nil))) (nomark _))))))))))))), ?_⟩
  refine ⟨_, rfl, p, 299, rfl, hp, by omega, fun low ns g0 g1 => ?_⟩
  obtain ⟨low, rfl⟩ := nat_ex g0
  have hp0 : PoolAt (upd H p (.lst (ns.map V.int))) p := ⟨ns, upd_same⟩
  generalize upd H p (.lst (ns.map V.int)) = J0 at hp0 ⊢
  -- pair
  refine ⟨_, rfl, sz (by simp), fun t1 n1 => ⟨sz (by simp), fun t2 n2 => ⟨sz (by simp), fun t3 n3 => ?_⟩⟩⟩
  have s1 := same_new (o := .tup [V.int low, V.int 1000]) n1
  have e1 : (upd J0 t1 (.tup [V.int low, V.int 1000])) t1 = some (.tup [V.int low, V.int 1000]) := upd_same
  generalize upd J0 t1 (.tup [V.int low, V.int 1000]) = J1 at *
  have s2 := same_new (o := .tup [V.int 299, V.int 1000]) n2
  have e2 : (upd J1 t2 (.tup [V.int 299, V.int 1000])) t2 = some (.tup [V.int 299, V.int 1000]) := upd_same
  generalize upd J1 t2 (.tup [V.int 299, V.int 1000]) = J2 at *
  have s3 := same_new (o := .tup [V.ref t1, V.ref t2]) n3
  have e3 : (upd J2 t3 (.tup [V.ref t1, V.ref t2])) t3 = some (.tup [V.ref t1, V.ref t2]) := upd_same
  generalize upd J2 t3 (.tup [V.ref t1, V.ref t2]) = J3 at *
  have i1 : Is J3 (.ref t1) (pr ((low : Int), 1000)) := (is_two e1 (is_int _) (is_int _)).mono (s2.trans s3)
  have i2 : Is J3 (.ref t2) (pr (299, 1000)) := (is_two e2 (is_int _) (is_int _)).mono s3
  have i3 : Is J3 (.ref t3) (.tup ([((low : Int), 1000), (299, 1000)].map pr)) := is_tup e3 (isL2 i1 i2)
  -- limits
  refine ⟨_, rfl, sz (by simp), fun t4 n4 => ⟨_, rfl, sz (by simp), fun t5 n5 => ⟨Nat.zero_le _, fun e0 ne0 => ⟨sz (by simp), fun t6 n6 => ⟨_, rfl, 1, rfl, t3, [V.ref t1, V.ref t2], rfl, ?_, (by show ¬ (HT.sIx 2 0 (some 1) = 0 ∧ HT.sIx 2 2 none = 2); decide), fun s7 n7 => ?_⟩⟩⟩⟩⟩
  · exact sq_tup (same_new n6 _ _ (same_new ne0 _ _ (same_new n5 _ _ (same_new n4 _ _ e3))))
  have s4 := same_new (o := .tup [V.int 1000000, V.ref t3]) n4
  have e4 : (upd J3 t4 (.tup [V.int 1000000, V.ref t3])) t4 = some (.tup [V.int 1000000, V.ref t3]) := upd_same
  generalize upd J3 t4 (.tup [V.int 1000000, V.ref t3]) = J4 at *
  have s5 := same_new (o := .tup [V.int 1999, V.ref t3]) n5
  have e5 : (upd J4 t5 (.tup [V.int 1999, V.ref t3])) t5 = some (.tup [V.int 1999, V.ref t3]) := upd_same
  generalize upd J4 t5 (.tup [V.int 1999, V.ref t3]) = J5 at *
  have s6 := same_new (o := .tup []) ne0
  have e6 : (upd J5 e0 (.tup [])) e0 = some (.tup []) := upd_same
  generalize upd J5 e0 (.tup []) = J6 at *
  have s7' := same_new (o := .tup [V.int 0, V.ref e0]) n6
  have e7 : (upd J6 t6 (.tup [V.int 0, V.ref e0])) t6 = some (.tup [V.int 0, V.ref e0]) := upd_same
  generalize upd J6 t6 (.tup [V.int 0, V.ref e0]) = J7 at *
  have ecut : cutV [V.ref t1, V.ref t2] (some 1) none = [V.ref t2] := rfl
  rw [ecut] at *
  have s8 := same_new (o := .tup [V.ref t2]) n7
  have e8 : (upd J7 s7 (.tup [V.ref t2])) s7 = some (.tup [V.ref t2]) := upd_same
  generalize upd J7 s7 (.tup [V.ref t2]) = J8 at *
  refine ⟨sz (by simp), fun t7 n8 => ⟨sz (by simp), fun lim nlim => ?_⟩⟩
  have s9 := same_new (o := .tup [V.int 1000, V.ref s7]) n8
  have e9 : (upd J8 t7 (.tup [V.int 1000, V.ref s7])) t7 = some (.tup [V.int 1000, V.ref s7]) := upd_same
  generalize upd J8 t7 (.tup [V.int 1000, V.ref s7]) = J9 at *
  have s10 := same_new (o := .lst [V.ref t4, V.ref t5, V.ref t6, V.ref t7]) nlim
  have e10 : (upd J9 lim (.lst [V.ref t4, V.ref t5, V.ref t6, V.ref t7])) lim = some (.lst [V.ref t4, V.ref t5, V.ref t6, V.ref t7]) := upd_same
  generalize upd J9 lim (.lst [V.ref t4, V.ref t5, V.ref t6, V.ref t7]) = J at *
  have z9 : Same J9 J := s10
  have z8 : Same J8 J := s9.trans z9
  have z7 : Same J7 J := s8.trans z8
  have z6 : Same J6 J := s7'.trans z7
  have z5 : Same J5 J := s6.trans z6
  have z4 : Same J4 J := s5.trans z5
  have z3 : Same J3 J := s4.trans z4
  have k3 := i3.mono z3
  obtain ⟨L, hLd⟩ : ∃ L : List Lim, L = [(1000000, [((low : Int), 1000), (299, 1000)]), (1999, [((low : Int), 1000), (299, 1000)]), (0, []), (1000, [(299, 1000)])] := ⟨_, rfl⟩
  have hfit : ∀ l ∈ L, fits 300 l = true ∧ l.2.length ≤ 1000 := fun l hl => by
    rw [hLd] at hl
    simp only [List.mem_cons, List.not_mem_nil, or_false] at hl
    have c1 : (-1 : Int) < (low : Int) := by omega
    have c2 : (low : Int) < 300 := by omega
    have c3 : (low : Int) < 299 := by omega
    rcases hl with rfl | rfl | rfl | rfl <;> simp [fits, fitI, c1, c2, c3]
  have hlen : L.length = 4 := by rw [hLd]; rfl
  have G1 : Good 300 L := Good.of (Nat.le_refl _) hfit (by omega)
  have hL : LimAt J lim L := by
    refine LimAt.of (f := fun l => .tup (l.2.map pr)) (is_lst e10 ?_) (fun l _ => .inr rfl)
    rw [hLd]
    exact isL4 (is_two (z4 _ _ e4) (is_int _) k3) (is_two (z5 _ _ e5) (is_int _) k3) (is_two (z7 _ _ e7) (is_int _) (is_tup (xs := []) (z6 _ _ e6) isL_nil)) (is_two (z9 _ _ e9) (is_int _) (is_tup (z8 _ _ e8) (isL1 (i2.mono z3))))
  have k3t : Is (tups J) (.ref t3) (.tup ([((low : Int), 1000), (299, 1000)].map pr)) := is_tup (tups_at (z3 _ _ e3)) (isL2 (is_two (tups_at (z3 _ _ (s3 _ _ (s2 _ _ e1)))) (is_int _) (is_int _)) (is_two (tups_at (z3 _ _ (s3 _ _ e2))) (is_int _) (is_int _)))
  have hpJ : PoolAt J p := (((Pl.refl hp0).same (s1.trans (s2.trans s3))).same z3).at_
  clear e1 e2 e3 e4 e5 e6 e7 e8 e9 i1 i2 i3 k3 n1 n2 n3 n4 n5 n6 n7 n8 ne0 nlim s1 s2 s3 s4 s5 s6 s7' s8 s9 s10 z3 z4 z5 z6 z7 z8 z9 ecut
  -- rule
  have hxl := hL
  obtain ⟨xs, hxs, hlx, hat⟩ := hxl
  refine ⟨_, rfl, lim, _, rfl, .inl hxs.sq, fun lc nlc => ?_⟩
  have s11 := same_new (o := .lst xs) nlc
  have hLc : LimAt (upd J lc (.lst xs)) lc L := ⟨xs, .inl upd_same, hlx, fun i l x h1 h2 => let ⟨e, h3, h4⟩ := hat i l x h1 h2; ⟨e, h3.mono s11, h4⟩⟩
  generalize upd J lc (.lst xs) = J11 at *
  intro x dx nx ndx nex
  have sm := made_new (x := x) (dx := dx) (C := clsA K "Rule") nx ndx
  refine ⟨x, 300, .ref lc, L, rfl, ⟨dx, upd_same⟩, (hLc.mono sm).in_, by omega, fun l hl => by have := (hfit l hl).2; omega, fun h => absurd h (by omega), fun _ _ i l hi hf => ?_, fun _ _ _ J12 fr hR => ⟨rfl, ?_⟩⟩
  · have := (hfit l (List.mem_of_getElem? hi)).1
    rw [this] at hf; cases hf
  have s12 := s11.trans (made_same nx ndx fr)
  have hR : RuleAt K J12 x 300 L := hR
  refine ⟨_, rfl, _, rfl, x, lim, 300, L, rfl, hR, hL.mono s12, G1, fun J13 s13 => ⟨true, rfl, iteF ?_⟩⟩
  have hR13 := hR.mono s13
  have hL13 := hL.mono (s12.trans s13)
  have hp13 : PoolAt J13 p := ((Pl.refl hpJ).same (s12.trans s13)).at_
  have k3t13 := k3t.mono (tups_mono (s12.trans s13))
  clear hL hLc hat hlx hxs s11 sm fr hR s12 s13 k3t hpJ
  have x299 : 1 <<< 299 < 2 ^ 300 := lt_shl (by omega)
  have xlow : 1 <<< low < 2 ^ 300 := lt_shl (by omega)
  have xsum : 1 <<< 299 + 1 <<< low < 2 ^ 300 := by
    rw [Nat.add_comm, add_or (lt_shl (by omega))]
    exact Nat.or_lt_two_pow xlow x299
  have x300 : 1 <<< 300 - 1 < 2 ^ 300 := by
    rw [Nat.one_shiftLeft]
    exact Nat.sub_lt (Nat.two_pow_pos 300) (by decide)
  have x3p : 0 < 1 <<< 300 := by rw [Nat.one_shiftLeft]; exact Nat.two_pow_pos 300
  refine ⟨1, 299, rfl, rfl, ⟨by omega, by decide⟩, 1, 299, rfl, rfl, ⟨by omega, by decide⟩, _, rfl, 1, low, rfl, rfl, ⟨by omega, by decide⟩, _, _, rfl, rfl, _, rfl, 1, low, rfl, rfl, ⟨by omega, by decide⟩, 1, 300, rfl, rfl, ⟨by omega, by decide⟩, _, _, rfl, rfl, sz (by simp), fun ml nml => ?_⟩
  have s14 := same_new (o := .lst (([((1 <<< 299 : Nat) : Int), ((1 <<< 299 : Nat) : Int) + ((1 <<< low : Nat) : Int), ((1 <<< low : Nat) : Int), ((1 <<< 300 : Nat) : Int) - 1] : List Int).map V.int)) nml
  have e14 : (upd J13 ml (.lst (([((1 <<< 299 : Nat) : Int), ((1 <<< 299 : Nat) : Int) + ((1 <<< low : Nat) : Int), ((1 <<< low : Nat) : Int), ((1 <<< 300 : Nat) : Int) - 1] : List Int).map V.int))) ml = some (.lst (([((1 <<< 299 : Nat) : Int), ((1 <<< 299 : Nat) : Int) + ((1 <<< low : Nat) : Int), ((1 <<< low : Nat) : Int), ((1 <<< 300 : Nat) : Int) - 1] : List Int).map V.int)) := upd_same
  refine ⟨ml, rfl, ⟨_, sq_lst e14⟩, for_ints (ns := [((1 <<< 299 : Nat) : Int), ((1 <<< 299 : Nat) : Int) + ((1 <<< low : Nat) : Int), ((1 <<< low : Nat) : Int), ((1 <<< 300 : Nat) : Int) - 1]) (fun i σ H' => Same (upd J13 ml (.lst (([((1 <<< 299 : Nat) : Int), ((1 <<< 299 : Nat) : Int) + ((1 <<< low : Nat) : Int), ((1 <<< low : Nat) : Int), ((1 <<< 300 : Nat) : Int) - 1] : List Int).map V.int))) H' ∧ ∃ v5, σ = [some (.ref p), some (.int low), some (.ref t3), some (.ref lim), some (.ref x), v5, none, none, none, none, none]) ⟨Same.refl _, none, rfl⟩ (fun i σ H' _ z => sq_lst (z.1 _ _ e14)) ?_ ?_⟩
  · rintro i k σ H' hk ⟨s, v5, rfl⟩
    have hk2 : ∃ kk : Nat, k = kk ∧ kk < 2 ^ 300 := by
      have := List.mem_of_getElem? hk
      simp only [List.mem_cons, List.not_mem_nil, or_false] at this
      rcases this with rfl | rfl | rfl | rfl
      · exact ⟨_, rfl, x299⟩
      · exact ⟨1 <<< 299 + 1 <<< low, by rw [Int.natCast_add], xsum⟩
      · exact ⟨_, rfl, xlow⟩
      · exact ⟨1 <<< 300 - 1, by rw [Int.natCast_sub x3p]; rfl, x300⟩
    obtain ⟨kk, rfl, hkk⟩ := hk2
    have hk3 : kk >>> 1 < 2 ^ 300 := Nat.lt_of_le_of_lt (Nat.shiftRight_le kk 1) hkk
    have t := s14.trans s
    refine ⟨_, rfl, _, rfl, _, rfl, _, rfl, kk, 1, rfl, rfl, x, lim, 300, kk, kk >>> 1, L, rfl, hR13.mono t, hL13.mono t, G1, hkk, hk3, fun H'' s2 => ⟨true, rfl, iteF ⟨s.trans s2, _, rfl⟩⟩⟩
  rintro σ J14 ⟨s15, v5, rfl⟩
  have t14 := s14.trans s15
  have hp14 : PoolAt J14 p := ((Pl.refl hp13).same t14).at_
  have k14 := k3t13.mono (tups_mono t14)
  clear hR13 hL13 k3t13 e14 s14 s15 t14 x299 xlow xsum x300 x3p hp13
  refine ⟨_, rfl, p, 10, rfl, hp14, by omega, fun m1 Ha h1 l1 => ⟨_, rfl, p, 10, rfl, l1.at_, by omega, fun m2 Hb h2 l2 => ⟨m1, m2, rfl, rfl, ?_⟩⟩⟩
  have kb := k14.mono (tups_pl hp14 (l1.trans l2))
  clear k14 l1 l2 hp14
  obtain ⟨f, hf⟩ : ∃ f, f = m1 &&& m2 := ⟨_, rfl⟩
  refine ⟨sz (by simp), fun wl nwl => ?_⟩
  have sw := same_new (o := .lst (([10, 11] : List Int).map V.int)) nwl
  have ew : (upd Hb wl (.lst (([10, 11] : List Int).map V.int))) wl = some (.lst (([10, 11] : List Int).map V.int)) := upd_same
  refine ⟨wl, rfl, ⟨_, sq_lst ew⟩, for_ints (ns := [10, 11]) (fun i σ H' => Same (upd Hb wl (.lst (([10, 11] : List Int).map V.int))) H' ∧ ∃ v7 v8 v9, σ = [some (.ref p), some (.int low), some (.ref t3), some (.ref lim), some (.ref x), v5, some (.int f), v7, v8, v9, none]) ⟨Same.refl _, none, none, none, by subst hf; rfl⟩ (fun i σ H' _ z => sq_lst (z.1 _ _ ew)) ?_ ?_⟩
  · rintro i k σ H' hk ⟨s, v7, v8, v9, rfl⟩
    obtain ⟨kk, rfl, hk1, hk2⟩ : ∃ kk : Nat, k = kk ∧ 10 ≤ kk ∧ kk ≤ 11 := by
      have := List.mem_of_getElem? hk
      simp only [List.mem_cons, List.not_mem_nil, or_false] at this
      rcases this with rfl | rfl
      · exact ⟨10, rfl, by omega, by omega⟩
      · exact ⟨11, rfl, by omega, by omega⟩
    refine ⟨_, rfl, by omega, by omega, fun D nD => lc_range (lo := 0) (n := 10) (fun j H2 => Same H' H2 ∧ ∃ zs, H2 D = some (.lst zs) ∧ zs.length = (stuckI f j).length ∧ IsL (tups H2) zs ((stuckI f j).map pr)) ⟨same_new nD, [], upd_same, rfl, isL_nil⟩ ?_ ?_⟩
    · rintro j H2 hj ⟨s2, zs, hD, hzl, hzs⟩
      refine ⟨rfl, _, rfl, _, rfl, f, j, rfl, congrArg V.int (Int.zero_add _), _, 1, rfl, rfl, rfl, _, rfl, ?_⟩
      rw [bit_zero]
      have hl10 := (stuckI_fit f 10 j (by omega)).2.2
      refine ite2 (fun e => ?_) (fun e => ?_)
      · refine ⟨_, rfl, sz (by simp), fun u nu => ?_⟩
        have s3 := same_new (o := .tup [V.int (0 + (j : Int)), V.int 1]) nu
        have hD3 := s3 _ _ hD
        refine ⟨zs, hD3, szl (by omega), Same.mut (s2.trans s3) nD, zs ++ [.ref u], upd_same, ?_, ?_⟩
        · rw [stuckI_succ, if_pos e, List.length_append, List.length_append, hzl]; rfl
        · rw [stuckI_succ, if_pos e, List.map_append]
          refine IsL.mono (tups_lst hD3) (IsL.snoc (IsL.mono (tups_mono s3) hzs) (is_two (tups_at upd_same) ?_ (is_int _)))
          rw [Int.zero_add]; exact is_int _
      · refine ⟨s2, zs, hD, ?_, ?_⟩
        · rw [stuckI_succ, if_neg e]; exact hzl
        · rw [stuckI_succ, if_neg e]; exact hzs
    rintro H2 ⟨s2, zs, hD, hzl, hzs⟩
    refine ⟨D, zs, rfl, .inl ⟨sq_lst hD, fun tt ntt => ⟨sz (by simp), fun t9 nt9 => ⟨sz (by simp), fun sl nsl => ?_⟩⟩⟩⟩
    have s3 := same_new (o := .tup zs) ntt
    have s4 := same_new (o := .tup [V.int 0, V.ref tt]) nt9
    have s5 := same_new (o := .lst [V.ref t9]) nsl
    have hst : Is (upd (upd (upd H2 tt (.tup zs)) t9 (.tup [V.int 0, V.ref tt])) sl (.lst [V.ref t9])) (.ref t9) (.tup [.int 0, .tup ((stuckI f 10).map pr)]) :=
      (is_two upd_same (is_int _) ((is_tup upd_same (IsL.mono (fun b o e => s3 _ _ (tups_same _ _ _ e)) hzs)).mono s4)).mono s5
    have hLs : LimAt (upd (upd (upd H2 tt (.tup zs)) t9 (.tup [V.int 0, V.ref tt])) sl (.lst [V.ref t9])) sl [(0, stuckI f 10)] := LimAt.of1 upd_same hst (.inr rfl)
    have hslv : (upd (upd (upd H2 tt (.tup zs)) t9 (.tup [V.int 0, V.ref tt])) sl (.lst [V.ref t9])) sl = some (.lst [V.ref t9]) := upd_same
    have s25 := s2.trans (s3.trans (s4.trans s5))
    generalize upd (upd (upd H2 tt (.tup zs)) t9 (.tup [V.int 0, V.ref tt])) sl (.lst [V.ref t9]) = H5 at *
    have hff := stuckI_fit f kk 10 hk1
    have hft : ∀ l ∈ ([(0, stuckI f 10)] : List Lim), fits kk l = true ∧ l.2.length ≤ 1000 := fun l hl => by
      rw [List.mem_singleton] at hl
      subst hl
      refine ⟨?_, by show (stuckI f 10).length ≤ 1000; omega⟩
      unfold fits
      rw [show fitI (kk : Int) (-1) (stuckI f 10) = true from hff.1]; rfl
    have Gs : Good kk [(0, stuckI f 10)] := Good.of (by omega) hft (by simp)
    refine ⟨_, rfl, _, rfl, sl, _, rfl, .inl (sq_lst hslv), fun lc nlc => ?_⟩
    have s6 := same_new (o := .lst [V.ref t9]) nlc
    have hLc : LimAt (upd H5 lc (.lst [V.ref t9])) lc [(0, stuckI f 10)] := LimAt.of1 upd_same (hst.mono s6) (.inr rfl)
    generalize upd H5 lc (.lst [V.ref t9]) = H6 at *
    intro x2 dx2 nx2 ndx2 nex2
    have sm2 := made_new (x := x2) (dx := dx2) (C := clsA K "Rule") nx2 ndx2
    refine ⟨x2, kk, .ref lc, _, rfl, ⟨dx2, upd_same⟩, (hLc.mono sm2).in_, by simp, fun l hl => by have := (hft l hl).2; omega, fun h => absurd h (by omega), fun _ _ i l hi hf => ?_, fun _ _ _ H7 fr2 hR2 => ⟨rfl, ?_⟩⟩
    · have := (hft l (List.mem_of_getElem? hi)).1
      rw [this] at hf; cases hf
    have s7 := made_same nx2 ndx2 fr2
    have hR2 : RuleAt K H7 x2 kk [(0, stuckI f 10)] := hR2
    refine ⟨_, rfl, _, rfl, x2, sl, kk, _, rfl, hR2, hLs.mono (s6.trans s7), Gs, fun H8 s8 => ⟨true, rfl, iteF ⟨s.trans (s25.trans (s6.trans (s7.trans s8))), _, _, _, rfl⟩⟩⟩
  rintro σ H2 ⟨s, v7, v8, v9, rfl⟩
  have k2 := kb.mono (tups_mono (sw.trans s))
  clear kb sw ew s
  refine ⟨_, rfl, sz (by simp), fun a1 na1 => ⟨_, rfl, sz (by simp), fun b1 nb1 => ⟨sz (by simp), fun b2 nb2 => ⟨sz (by simp), fun b3 nb3 => ⟨sz (by simp), fun a2 na2 => ⟨_, rfl, sz (by simp), fun c1 nc1 => ⟨sz (by simp), fun c2 nc2 => ⟨sz (by simp), fun c3 nc3 => ⟨sz (by simp), fun a3 na3 => ⟨sz (by simp), fun sl nsl => ?_⟩⟩⟩⟩⟩⟩⟩⟩⟩⟩
  have kp := k2.mono (tups_same _)
  have u1 := same_new (o := .tup [V.int 1000001, V.ref t3]) na1
  have f1 : Is (upd H2 a1 (.tup [V.int 1000001, V.ref t3])) (.ref a1) (.tup [.int 1000001, .tup ([((low : Int), 1000), (299, 1000)].map pr)]) := is_two upd_same (is_int _) (kp.mono u1)
  generalize upd H2 a1 (.tup [V.int 1000001, V.ref t3]) = X1 at *
  have u2 := same_new (o := .tup [V.int low, V.int 1001]) nb1
  have f2 : Is (upd X1 b1 (.tup [V.int low, V.int 1001])) (.ref b1) (pr ((low : Int), 1001)) := is_two upd_same (is_int _) (is_int _)
  generalize upd X1 b1 (.tup [V.int low, V.int 1001]) = X2 at *
  have u3 := same_new (o := .tup [V.int 299, V.int 1000]) nb2
  have f3 : Is (upd X2 b2 (.tup [V.int 299, V.int 1000])) (.ref b2) (pr (299, 1000)) := is_two upd_same (is_int _) (is_int _)
  generalize upd X2 b2 (.tup [V.int 299, V.int 1000]) = X3 at *
  have u4 := same_new (o := .lst [V.ref b1, V.ref b2]) nb3
  have f4 : Is (upd X3 b3 (.lst [V.ref b1, V.ref b2])) (.ref b3) (.lst ([((low : Int), 1001), (299, 1000)].map pr)) := is_lst upd_same (isL2 (f2.mono (u3.trans u4)) (f3.mono u4))
  generalize upd X3 b3 (.lst [V.ref b1, V.ref b2]) = X4 at *
  have u5 := same_new (o := .tup [V.int 1000000, V.ref b3]) na2
  have f5 : Is (upd X4 a2 (.tup [V.int 1000000, V.ref b3])) (.ref a2) (.tup [.int 1000000, .lst ([((low : Int), 1001), (299, 1000)].map pr)]) := is_two upd_same (is_int _) (f4.mono u5)
  generalize upd X4 a2 (.tup [V.int 1000000, V.ref b3]) = X5 at *
  have u6 := same_new (o := .tup [V.int low, V.int 1]) nc1
  have f6 : Is (upd X5 c1 (.tup [V.int low, V.int 1])) (.ref c1) (pr ((low : Int), 1)) := is_two upd_same (is_int _) (is_int _)
  generalize upd X5 c1 (.tup [V.int low, V.int 1]) = X6 at *
  have u7 := same_new (o := .tup [V.int 300, V.int 1]) nc2
  have f7 : Is (upd X6 c2 (.tup [V.int 300, V.int 1])) (.ref c2) (pr (300, 1)) := is_two upd_same (is_int _) (is_int _)
  generalize upd X6 c2 (.tup [V.int 300, V.int 1]) = X7 at *
  have u8 := same_new (o := .lst [V.ref c1, V.ref c2]) nc3
  have f8 : Is (upd X7 c3 (.lst [V.ref c1, V.ref c2])) (.ref c3) (.lst ([((low : Int), 1), (300, 1)].map pr)) := is_lst upd_same (isL2 (f6.mono (u7.trans u8)) (f7.mono u8))
  generalize upd X7 c3 (.lst [V.ref c1, V.ref c2]) = X8 at *
  have u9 := same_new (o := .tup [V.int 1, V.ref c3]) na3
  have f9 : Is (upd X8 a3 (.tup [V.int 1, V.ref c3])) (.ref a3) (.tup [.int 1, .lst ([((low : Int), 1), (300, 1)].map pr)]) := is_two upd_same (is_int _) (f8.mono u9)
  generalize upd X8 a3 (.tup [V.int 1, V.ref c3]) = X9 at *
  have u10 := same_new (o := .lst [V.ref a1, V.ref a2, V.ref a3]) nsl
  have e10 : (upd X9 sl (.lst [V.ref a1, V.ref a2, V.ref a3])) sl = some (.lst [V.ref a1, V.ref a2, V.ref a3]) := upd_same
  generalize upd X9 sl (.lst [V.ref a1, V.ref a2, V.ref a3]) = X at *
  have y9 := u10
  have y5 := u6.trans (u7.trans (u8.trans (u9.trans y9)))
  have y1 := u2.trans (u3.trans (u4.trans (u5.trans y5)))
  have g1 := f1.mono y1
  have g5 := f5.mono y5
  have g9 := f9.mono y9
  clear f1 f2 f3 f4 f5 f6 f7 f8 f9 u1 u2 u3 u4 u5 u6 u7 u8 u9 u10 y1 y5 y9 kp k2
  refine ⟨sl, rfl, ⟨_, sq_lst e10⟩, for_list (xs := [V.ref a1, V.ref a2, V.ref a3]) (fun i σ H' => Same X H' ∧ ∃ v10, σ = [some (.ref p), some (.int low), some (.ref t3), some (.ref lim), some (.ref x), v5, some (.int f), v7, v8, v9, v10]) ⟨Same.refl _, none, rfl⟩ (fun i σ H' _ z => sq_lst (z.1 _ _ e10)) ?_ ?_⟩
  · rintro i y σ H' hy ⟨s, v10, rfl⟩
    have hy2 : ∃ (l : Lim) (d : Dt), Is X y (.tup [.int l.1, d]) ∧ SeqD d (l.2.map pr) ∧ fits 300 l = false ∧ l.2.length ≤ 1000 := by
      have := List.mem_of_getElem? hy
      simp only [List.mem_cons, List.not_mem_nil, or_false] at this
      rcases this with rfl | rfl | rfl
      · exact ⟨(1000001, [((low : Int), 1000), (299, 1000)]), _, g1, .inr rfl, by simp [fits], by simp⟩
      · exact ⟨(1000000, [((low : Int), 1001), (299, 1000)]), _, g5, .inl rfl, by simp [fits, fitI], by simp⟩
      · exact ⟨(1, [((low : Int), 1), (300, 1)]), _, g9, .inl rfl, by simp [fits, fitI], by simp⟩
    obtain ⟨l, d, iy, sd, hfl, hll⟩ := hy2
    refine ⟨Nat.zero_le _, fun d1 nd1 => ⟨sz (by simp), fun d2 nd2 => ⟨_, rfl, sz (by simp), fun d3 nd3 => ?_⟩⟩⟩
    have w1 := same_new (o := .lst []) nd1
    have w2 := same_new (o := .tup [V.int 0, V.ref d1]) nd2
    have w3 := same_new (o := .lst [V.ref d2, y]) nd3
    have g0 : Is (upd (upd (upd H' d1 (.lst [])) d2 (.tup [V.int 0, V.ref d1])) d3 (.lst [V.ref d2, y])) (.ref d2) (.tup [.int 0, .lst []]) := (is_two upd_same (is_int _) ((is_lst (xs := []) upd_same isL_nil).mono w2)).mono w3
    have sw := s.trans (w1.trans (w2.trans w3))
    have hLL : LimAt (upd (upd (upd H' d1 (.lst [])) d2 (.tup [V.int 0, V.ref d1])) d3 (.lst [V.ref d2, y])) d3 [(0, []), l] := LimAt.of2 upd_same g0 (.inl rfl) (iy.mono sw) sd
    generalize upd (upd (upd H' d1 (.lst [])) d2 (.tup [V.int 0, V.ref d1])) d3 (.lst [V.ref d2, y]) = Y at *
    have f0 : fits 300 ((0, []) : Lim) = true := by simp [fits, fitI]
    refine ⟨300, d3, [(0, []), l], rfl, hLL, by simp, fun k hk => ?_, fun h => absurd h (by omega), fun _ _ i k hi hf hb H3 tt s3 hI => ?_, fun _ _ hall => ?_⟩
    · simp only [List.mem_cons, List.not_mem_nil, or_false] at hk
      rcases hk with rfl | rfl
      · simp
      · exact hll
    · match i, hi with
      | 0, hi => cases hi; rw [f0] at hf; cases hf
      | 1, hi =>
        refine ⟨sz (by simp), fun w nw => ne_dt (hI.mono (same_new nw)) (is_two upd_same (is_str _) (is_int _)) ⟨by simp [Dt.dep, depL], by simp only [Dt.sok, sokL]; decide +kernel⟩ ⟨_, rfl, iteF ⟨sw.trans (s3.trans (same_new nw)), _, rfl⟩⟩⟩
      | i + 2, hi => simp at hi
    · have := hall l (by simp)
      rw [hfl] at this; cases this
  · rintro σ H' ⟨s, v10, rfl⟩
    refine ⟨Nat.zero_le _, fun d1 nd1 => ⟨301, d1, [], rfl, LimAt.of0 upd_same, by simp, by simp, fun _ H3 tt s3 hI => ⟨_, rfl, sz (by simp), fun w nw => ?_⟩, fun h0 h1 => absurd h1 (by omega), fun h0 h1 => absurd h1 (by omega)⟩⟩
    exact eq_dt (hI.mono (same_new nw)) (is_two upd_same (is_str _) (is_int _)) ⟨by simp [Dt.dep, depL], by simp only [Dt.sok, sokL]; decide +kernel⟩ (q _)
def sp_law (K : PySem.W.Frag) : Sp := fun vs H Q _ => ∃ (a : Addr) (ns : List Int), vs = [.ref a] ∧ SqL K H a (ns.map V.int) ∧ ns.length ≤ 63 ∧ ∀ H', Q (.bl true) H'
/-- what stands while the pool is drawn from -/
structure Std (K : PySem.W.Frag) (p la r : Addr) (w : Nat) (L : List Lim) (H : Hp) : Prop where
  pool : PoolAt H p
  lims : Is (del H p) (.ref la) (.lst (L.map limL))
  rule : RuleAt K (nl H) r w L
theorem Std.pl {K : PySem.W.Frag} {p la r : Addr} {w : Nat} {L : List Lim} {H H' : Hp} (s : Std K p la r w L H) (l : Pl p H H') : Std K p la r w L H' := ⟨l.at_, s.lims.mono (del_pl l), s.rule.mono (nl_pl s.pool l)⟩
theorem Std.same {K : PySem.W.Frag} {p la r : Addr} {w : Nat} {L : List Lim} {H H' : Hp} (s : Std K p la r w L H) (l : Same H H') : Std K p la r w L H' := s.pl ((Pl.refl s.pool).same l)
theorem Std.la {K : PySem.W.Frag} {p la r : Addr} {w : Nat} {L : List Lim} {H : Hp} (s : Std K p la r w L H) : LimAt H la L := LimAt.of (f := fun l => .lst (l.2.map pr)) (s.lims.mono (same_del H p)) fun l _ => .inl rfl
theorem Std.ra {K : PySem.W.Frag} {p la r : Addr} {w : Nat} {L : List Lim} {H : Hp} (s : Std K p la r w L H) : RuleAt K H r w L := s.rule.up
/-- the lists handed in, one by one: what stands of them -/
def Hnd (Hb H' : Hp) (hd : Addr) (hs : List V) (cs : List Addr) (k : Nat) : Prop := H' hd = some (.lst hs) ∧ hs.length = cs.length ∧ ∀ (j : Nat) (c : Addr), cs[j]? = some c → Hb c = none ∧ c ≠ hd ∧ ∃ (t : Addr) (b : Int) (ys : List V), hs[j]? = some (.ref t) ∧ H' t = some (.tup [.int b, .ref c]) ∧ H' c = some (.lst ys) ∧ ys.length ≤ 1000 + k
theorem deep_lims (L : List Lim) : (Dt.lst (L.map limL)).dep ≤ 60 ∧ (Dt.lst (L.map limL)).sok = true := by
  have e1 : ∀ l : Lim, (limL l).dep ≤ 3 := fun l => by
    have : depL (l.2.map pr) ≤ 1 := depL_map fun q _ => by simp [pr, Dt.dep, depL]
    simp only [limL, Dt.dep, depL]; omega
  have e2 : ∀ l : Lim, (limL l).sok = true := fun l => by
    have : sokL (l.2.map pr) = true := sokL_map fun q _ => by simp [pr, Dt.sok, sokL]
    simp [limL, Dt.sok, sokL, this]
  constructor
  · unfold Dt.dep
    have := depL_map (l := L) fun l _ => e1 l
    omega
  · unfold Dt.sok
    exact sokL_map fun l _ => e2 l
theorem deep_bad (z : Int) : (Dt.tup [.str "bad", .int z]).dep ≤ 60 ∧ (Dt.tup [.str "bad", .int z]).sok = true := ⟨by simp [Dt.dep, depL], by simp only [Dt.sok, sokL]; decide +kernel⟩
theorem deep_non (z : Int) : (Dt.tup [.str "none", .int z]).dep ≤ 60 ∧ (Dt.tup [.str "none", .int z]).sok = true := ⟨by simp [Dt.dep, depL], by simp only [Dt.sok, sokL]; decide +kernel⟩
theorem log2_neg {z : Int} (h0 : z < 0) (h1 : -100000 ≤ z) : z.natAbs.log2 < 1920 := by
  have e : z.natAbs ≤ 100000 := by omega
  by_cases h : z.natAbs = 0
  · omega
  · have := (Nat.log2_lt h).mpr (show z.natAbs < 2 ^ 17 by omega)
    omega
theorem log2_top {z : Int} {w : Nat} (hw : w ≤ 300) (h0 : 0 ≤ z) (h1 : z ≤ ((2 ^ w : Nat) : Int) + 2000) : z.natAbs.log2 < 1920 := by
  obtain ⟨n, rfl⟩ := nat_ex h0
  refine G.log2_small ?_
  have h2 : 2 ^ w ≤ 2 ^ 300 := Nat.pow_le_pow_right (by decide) hw
  have h3 : (2 : Nat) ^ 1000 = 2 ^ 300 * 2 ^ 700 := by rw [← Nat.pow_add]
  have h4 : (2 : Nat) ^ 11 ≤ 2 ^ 700 := Nat.pow_le_pow_right (by decide) (by decide)
  have h5 : (2 : Nat) ^ 11 ≤ 2 ^ 300 := Nat.pow_le_pow_right (by decide) (by decide)
  have h6 : (2 : Nat) ^ 300 * 2 ^ 11 ≤ 2 ^ 300 * 2 ^ 700 := Nat.mul_le_mul_left _ h4
  have h7 : n ≤ 2 ^ w + 2000 := by omega
  have h8 : (2 : Nat) ^ 11 = 2048 := by decide
  rw [h3]
  rw [h8] at h5 h6
  generalize (2 : Nat) ^ 300 = A at *
  generalize A * 2 ^ 700 = B at *
  generalize 2 ^ w = W at *
  omega
abbrev s_law : Stmt := topS 30
theorem sc_law : FnScope ["script", "pool", "wires", "limits", "handed", "limit", "rule", "top", "mask", "low", "high", "good", "way", "pair", "place", "spoilt", "number"] ["script"] (defScope s_law) := ⟨rfl, rfl, rfl, by decide +kernel, rfl, by decide +kernel, by decide +kernel⟩
/-- slots: 0 script 1 pool 2 wires 3 limits 4 handed 5 limit 6 rule 7 top 8 mask 9 low 10 high 11 good 12 way 13 pair 14 place 15 spoilt 16 number -/
theorem ok_law (M : Mg mg) (C : Cg K mg) {f : Addr} {fd : FuncData} (F : Fun K "law" "law" s_law f fd) (D__law_pool : Dn P w K mg base CX0 "_law_pool" 1 ["script", "count"] (sp__law_pool K)) (D__law_take : Dn P w K mg base CX0 "_law_take" 1 ["pool", "limit"] (sp__law_take K)) (D__law_limits : Dn P w K mg base CX0 "_law_limits" 3 ["pool", "wires"] (sp__law_limits K)) (D_Rule___init__ : DnI P w K mg base (L2.CX P w) "Rule" 3 [] (sp_Rule___init__ K)) (D_Rule___init___e : ∃ T0 : Addr, (∀ H, SqT K H T0 []) ∧ DnI P w K mg base (L2.CX P w) "Rule" 3 [.ref T0] (sp_Rule___init__ K)) (D__law_mask : Dn P w K mg base CX0 "_law_mask" 2 ["pool", "wires"] (sp__law_mask K)) (D__law_listed : Dn P w K mg base CX0 "_law_listed" 7 ["rule", "limits", "wires"] (sp__law_listed K)) (D__law_told_rule : Dn P w K mg base CX0 "_law_told_rule" 5 ["wires", "limits"] (sp__law_told_rule K)) (D__law_kept : Dn P w K mg base CX0 "_law_kept" 1 ["rule", "wires", "limits"] (sp__law_kept K)) (D__law_widest : Dn P w K mg base CX0 "_law_widest" 8 ["pool"] (sp__law_widest K)) (D__law_asked : Dn P w K mg base CX0 "_law_asked" 7 ["rule", "limits", "mask", "word"] (sp__law_asked K)) (D__law_told_word : Dn P w K mg base CX0 "_law_told_word" 7 ["rule", "way", "first", "second"] (sp__law_told_word K)) (D__law_bad_limit : Dn P w K mg base CX0 "_law_bad_limit" 2 ["pool", "wires"] (sp__law_bad_limit K)) : FnOk P w K mg base CX0 9 f fd ["script"] (sp_law K) := by
  refine F.ok sc_law (fun vs H Q E h => by unfold sp_law at h; (repeat (obtain ⟨_, h⟩ := h)); subst_vars; rfl) (fun cdv A outer s H vs Q E hr h => ?_)
  obtain ⟨a, ns, rfl, hS, hlen, q⟩ := h
  have nd := sc_law.nd
  obtain ⟨T0, hT0, D_Rule___init___d⟩ := D_Rule___init___e
  refine ⟨_, (pss_cons (ps_set (i := 1) nd rfl (by first | exact Or.inl rfl | exact Or.inr rfl) (G.pe_callD D__law_pool (hr.mono (by decide)) pass0 (pa_cons (pv 0) (pa_cons pe_int pa_nil))))
    (pss_cons (ps_set (i := 2) nd rfl (by first | exact Or.inl rfl | exact Or.inr rfl) (G.pe_callD D__law_take (hr.mono (by decide)) pass0 (pa_cons (pv 1) (pa_cons pe_int pa_nil))))
    (Evl.pss_cut (ps_if (pt_cmpR op_eq (G.pe_callD D__law_take (hr.mono (by decide)) pass0 (pa_cons (pv 1) (pa_cons pe_int pa_nil))) pe_int (nomark _)) (pss_one (ps_set (i := 2) nd rfl (by first | exact Or.inl rfl | exact Or.inr rfl) (pe_op op_add pe_int (G.pe_callD D__law_take (hr.mono (by decide)) pass0 (pa_cons (pv 1) (pa_cons pe_int pa_nil)))))) pss_nil)
    (pss_cons (ps_set (i := 3) nd rfl (by first | exact Or.inl rfl | exact Or.inr rfl) (G.pe_callD D__law_limits (hr.mono (by decide)) pass0 (pa_cons (pv 1) (pa_cons (pv 2) pa_nil))))
    (pss_cons (ps_setLc (i := 4) (own := [("limit", 5)]) (g := (gName 5)) (tt := tYes) rfl nd rfl rfl (sw_true rfl rfl rfl (by decide +kernel)) (G.pi_listK K (pv 3)) (blkOk_by (by kernel_rfl)) (fun _ _ _ _ _ => (pg_name (i := 5) nd rfl (by first | exact Or.inl rfl | exact Or.inr rfl))) (fun _ _ _ _ _ => pts_nil) (fun _ _ _ _ _ => (pe_tup (pa_cons (pe_ix (G.ix_tupK K) (pv 5) pe_int (fun _ _ => rfl)) (pa_cons (pe_callTy (G.call_listK K) (by rfl) M.list (by decide +kernel) (pa_cons (pe_ix (G.ix_tupK K) (pv 5) pe_int (fun _ _ => rfl)) pa_nil)) pa_nil)))))
    (pss_cons (ps_set (i := 6) nd rfl (by first | exact Or.inl rfl | exact Or.inr rfl) (G.pe_makeD K D_Rule___init__ (hr.mono (by decide)) (G.atAll passL) (pa_cons (pv 2) (pa_cons (pv 4) pa_nil))))
    (pss_cons (ps_if (PW.pt (pw_or (pt_cmpR (G.op_neDK K hr.units) (pv 4) (pv 3) (nomark _)) (pw_or1 (pt_not (pt_val (G.pe_callD D__law_kept (hr.mono (by decide)) pass0 (pa_cons (pv 6) (pa_cons (pv 2) (pa_cons (pv 3) pa_nil))))))))) (pss_one (ps_ret pe_bl)) pss_nil)
    (pss_cons (ps_for PassesOwn.never rfl (G.pi_listK K (pv 4)) (pg_name (i := 5) nd rfl (by first | exact Or.inl rfl | exact Or.inr rfl)) (pss_one (ps_expr (pe_bm PySem.F.plainAttrs_list PySem.F.slot_list_append PySem.F.type_list_append mt_append (pe_ix (G.ix_tupK K) (pv 5) pe_int (fun _ _ => rfl)) (pa_cons (pe_tup (pa_cons pe_int (pa_cons pe_int pa_nil))) pa_nil)))))
    (pss_cons (ps_expr (pe_bm PySem.F.plainAttrs_list PySem.F.slot_list_append PySem.F.type_list_append mt_append (pv 4) (pa_cons (pe_tup (pa_cons pe_int (pa_cons (pe_lst pa_nil) pa_nil))) pa_nil)))
    (pss_cons (ps_if (PW.pt (pw_or (pt_not (pt_val (G.pe_callD D__law_kept (hr.mono (by decide)) pass0 (pa_cons (pv 6) (pa_cons (pv 2) (pa_cons (pv 3) pa_nil)))))) (pw_or1 (pt_cmpR (G.op_neDK K hr.units) (G.pe_fldK K (G.pe_makeD K D_Rule___init___d (hr.mono (by decide)) (G.atAll passL) (pa_cons (pv 2) pa_nil))) (pe_tup pa_nil) (nomark _))))) (pss_one (ps_ret pe_bl)) pss_nil)
    (pss_cons (ps_set (i := 7) nd rfl (by first | exact Or.inl rfl | exact Or.inr rfl) (pe_op G.op_shlM pe_int (pv 2)))
    (pss_cons (ps_for PassesOwn.never rfl (G.pi_listK K (pe_lst (pa_cons pe_int (pa_cons (pe_op op_sub (pv 7) pe_int) (pa_cons (G.pe_callD D__law_mask (hr.mono (by decide)) pass0 (pa_cons (pv 1) (pa_cons (pv 2) pa_nil))) (pa_cons (G.pe_callD D__law_mask (hr.mono (by decide)) pass0 (pa_cons (pv 1) (pa_cons (pv 2) pa_nil))) (pa_cons (G.pe_callD D__law_mask (hr.mono (by decide)) pass0 (pa_cons (pv 1) (pa_cons (pv 2) pa_nil))) pa_nil))))))) (pg_name (i := 8) nd rfl (by first | exact Or.inl rfl | exact Or.inr rfl)) (pss_one (ps_if (pt_not (pt_val (G.pe_callD D__law_asked (hr.mono (by decide)) pass0 (pa_cons (pv 6) (pa_cons (pv 3) (pa_cons (pv 8) (pa_cons (G.pe_callD D__law_mask (hr.mono (by decide)) pass0 (pa_cons (pv 1) (pa_cons (pv 2) pa_nil))) pa_nil))))))) (pss_one (ps_ret pe_bl)) pss_nil)))
    (pss_cons (ps_if (pt_not (pt_val (G.pe_callD D__law_listed (hr.mono (by decide)) pass0 (pa_cons (pv 6) (pa_cons (pv 3) (pa_cons (pv 2) pa_nil)))))) (pss_one (ps_ret pe_bl)) pss_nil)
    (pss_cons (ps_set (i := 9) nd rfl (by first | exact Or.inl rfl | exact Or.inr rfl) (pe_op op_sub (pe_un un_neg pe_int) (pe_op op_mul (G.pe_callD D__law_take (hr.mono (by decide)) pass0 (pa_cons (pv 1) (pa_cons pe_int pa_nil))) (G.pe_callD D__law_take (hr.mono (by decide)) pass0 (pa_cons (pv 1) (pa_cons pe_int pa_nil))))))
    (pss_cons (ps_set (i := 10) nd rfl (by first | exact Or.inl rfl | exact Or.inr rfl) (pe_op op_add (pv 7) (pe_op op_mul (G.pe_callD D__law_take (hr.mono (by decide)) pass0 (pa_cons (pv 1) (pa_cons pe_int pa_nil))) (G.pe_callD D__law_take (hr.mono (by decide)) pass0 (pa_cons (pv 1) (pa_cons pe_int pa_nil))))))
    (pss_cons (ps_set (i := 11) nd rfl (by first | exact Or.inl rfl | exact Or.inr rfl) (G.pe_callD D__law_mask (hr.mono (by decide)) pass0 (pa_cons (pv 1) (pa_cons (pv 2) pa_nil))))
    (pss_cons (ps_for PassesOwn.never rfl (pi_range1 rfl M.range (pa_cons pe_int pa_nil)) (pg_name (i := 12) nd rfl (by first | exact Or.inl rfl | exact Or.inr rfl)) (pss_one (ps_if (PW.pt (pw_or (pt_cmpR (G.op_neDK K hr.units) (G.pe_callD D__law_told_word (hr.mono (by decide)) pass0 (pa_cons (pv 6) (pa_cons (pv 12) (pa_cons (pv 9) (pa_cons pe_int pa_nil))))) (pe_tup (pa_cons pe_str (pa_cons (pv 9) pa_nil))) (nomark _)) (pw_or1 (pt_cmpR (G.op_neDK K hr.units) (G.pe_callD D__law_told_word (hr.mono (by decide)) pass0 (pa_cons (pv 6) (pa_cons (pv 12) (pa_cons (pv 10) (pa_cons pe_int pa_nil))))) (pe_tup (pa_cons pe_str (pa_cons (pv 10) pa_nil))) (nomark _))))) (pss_one (ps_ret pe_bl)) pss_nil)))
    (pss_cons (ps_for PassesOwn.never rfl (G.pi_listK K (pe_lst (pa_cons (pe_tup (pa_cons (pv 9) (pa_cons (pv 11) pa_nil))) (pa_cons (pe_tup (pa_cons (pv 10) (pa_cons (pv 9) pa_nil))) (pa_cons (pe_tup (pa_cons (pv 9) (pa_cons (pv 10) pa_nil))) (pa_cons (pe_tup (pa_cons (pv 10) (pa_cons (pv 11) pa_nil))) pa_nil)))))) (pg_name (i := 13) nd rfl (by first | exact Or.inl rfl | exact Or.inr rfl)) (pss_one (ps_if (pt_cmpR (G.op_neDK K hr.units) (G.pe_callD D__law_told_word (hr.mono (by decide)) pass0 (pa_cons (pv 6) (pa_cons pe_int (pa_cons (pe_ix (G.ix_tupK K) (pv 13) pe_int (fun _ _ => rfl)) (pa_cons (pe_ix (G.ix_tupK K) (pv 13) pe_int (fun _ _ => rfl)) pa_nil))))) (pe_tup (pa_cons pe_str (pa_cons (pe_ix (G.ix_tupK K) (pv 13) pe_int (fun _ _ => rfl)) pa_nil))) (nomark _)) (pss_one (ps_ret pe_bl)) pss_nil)))
    (pss_cons (ps_if (PW.pt (pw_or (pt_cmpR (G.op_neDK K hr.units) (G.pe_callD D__law_told_word (hr.mono (by decide)) pass0 (pa_cons (pv 6) (pa_cons pe_int (pa_cons (pv 11) (pa_cons (pv 9) pa_nil))))) (pe_tup (pa_cons pe_str (pa_cons (pv 9) pa_nil))) (nomark _)) (pw_or1 (pt_cmpR (G.op_neDK K hr.units) (G.pe_callD D__law_told_word (hr.mono (by decide)) pass0 (pa_cons (pv 6) (pa_cons pe_int (pa_cons (pv 11) (pa_cons (pv 10) pa_nil))))) (pe_tup (pa_cons pe_str (pa_cons (pv 10) pa_nil))) (nomark _))))) (pss_one (ps_ret pe_bl)) pss_nil)
    (pss_cons (ps_set (i := 14) nd rfl (by first | exact Or.inl rfl | exact Or.inr rfl) (G.pe_callD D__law_take (hr.mono (by decide)) pass0 (pa_cons (pv 1) (pa_cons (pe_op op_add (pe_callB (G.call_lenK K) (by rfl) M.len PySem.boot_len (pa_cons (pv 3) pa_nil)) pe_int) pa_nil))))
    (pss_cons (ps_set (i := 15) nd rfl (by first | exact Or.inl rfl | exact Or.inr rfl) (pe_op op_cat (pe_op op_cat (pe_slice (G.sl_listK K) (pv 3) po_none (po_some (pv 14))) (pe_lst (pa_cons (G.pe_callD D__law_bad_limit (hr.mono (by decide)) pass0 (pa_cons (pv 1) (pa_cons (pv 2) pa_nil))) pa_nil))) (pe_slice (G.sl_listK K) (pv 3) (po_some (pv 14)) po_none)))
    (pss_cons (ps_if (PW.pt (pw_or (pt_cmpR (G.op_neDK K hr.units) (G.pe_callD D__law_told_rule (hr.mono (by decide)) pass0 (pa_cons (pv 2) (pa_cons (pv 15) pa_nil))) (pe_tup (pa_cons pe_str (pa_cons (pv 14) pa_nil))) (nomark _)) (pw_or1 (pt_cmpR (G.op_neDK K hr.units) (G.pe_callD D__law_told_rule (hr.mono (by decide)) pass0 (pa_cons (pv 2) (pa_cons (pv 3) pa_nil))) (pe_tup (pa_cons pe_str (pa_cons pe_int pa_nil))) (nomark _))))) (pss_one (ps_ret pe_bl)) pss_nil)
    (pss_cons (ps_expr (pe_bm PySem.F.plainAttrs_list PySem.F.slot_list_append PySem.F.type_list_append mt_append (pv 15) (pa_cons (pe_tup (pa_cons (pe_un un_neg pe_int) (pa_cons (pe_lst pa_nil) pa_nil))) pa_nil)))
    (pss_cons (ps_if (pt_cmpR (G.op_neDK K hr.units) (G.pe_callD D__law_told_rule (hr.mono (by decide)) pass0 (pa_cons (pv 2) (pa_cons (pv 15) pa_nil))) (pe_tup (pa_cons pe_str (pa_cons (pv 14) pa_nil))) (nomark _)) (pss_one (ps_ret pe_bl)) pss_nil)
    (pss_cons (ps_for PassesOwn.never rfl (G.pi_listK K (pe_lst (pa_cons (pe_op op_sub (pe_un un_neg pe_int) (G.pe_callD D__law_take (hr.mono (by decide)) pass0 (pa_cons (pv 1) (pa_cons pe_int pa_nil)))) (pa_cons (pe_op op_add pe_int (pe_op op_mul (G.pe_callD D__law_take (hr.mono (by decide)) pass0 (pa_cons (pv 1) (pa_cons pe_int pa_nil))) (G.pe_callD D__law_take (hr.mono (by decide)) pass0 (pa_cons (pv 1) (pa_cons pe_int pa_nil))))) pa_nil)))) (pg_name (i := 16) nd rfl (by first | exact Or.inl rfl | exact Or.inr rfl)) (pss_one (ps_if (PW.pt (pw_or (pt_cmpR (G.op_neDK K hr.units) (G.pe_callD D__law_told_rule (hr.mono (by decide)) pass0 (pa_cons (pv 16) (pa_cons (pe_lst pa_nil) pa_nil))) (pe_tup (pa_cons pe_str (pa_cons (pe_un un_neg pe_int) pa_nil))) (nomark _)) (pw_or1 (pt_cmpR (G.op_neDK K hr.units) (G.pe_callD D__law_told_rule (hr.mono (by decide)) pass0 (pa_cons (pv 16) (pa_cons (pv 15) pa_nil))) (pe_tup (pa_cons pe_str (pa_cons (pe_un un_neg pe_int) pa_nil))) (nomark _))))) (pss_one (ps_ret pe_bl)) pss_nil)))
    (pss_one (ps_ret (pe_and (G.pe_callD D__law_kept (hr.mono (by decide)) pass0 (pa_cons (pv 6) (pa_cons (pv 2) (pa_cons (pv 3) pa_nil)))) (pe_one (G.pe_callD D__law_widest (hr.mono (by decide)) pass0 (pa_cons (pv 1) pa_nil))))))))))))))))))))))))))))))), ?_⟩
  refine ⟨_, rfl, a, ns, 220, rfl, hS, by omega, by omega, fun H1 p ds _ _ hp => ?_⟩
  have hp1 : PoolAt H1 p := ⟨ds, hp⟩
  refine ⟨_, rfl, p, 10, rfl, hp1, by omega, fun r1 ns1 h0 h1 => ?_⟩
  obtain ⟨w0, rfl⟩ := nat_ex h0
  have l1 := (Pl.refl hp1).draw ns1
  generalize upd H1 p (.lst (ns1.map V.int)) = H2 at l1 ⊢
  refine ⟨fun σ H' => PoolAt H' p ∧ ∃ w : Nat, w ≤ 300 ∧ σ = [some (.ref a), some (.ref p), some (.int w), none, none, none, none, none, none, none, none, none, none, none, none, none, none], ?_, ?_⟩
  · refine ⟨_, rfl, p, 6, rfl, l1.at_, by omega, fun r ns2 g0 g1 => ⟨rfl, _, rfl, ite2i (fun e => ?_) (fun e => ?_)⟩⟩
    · refine ⟨_, rfl, p, 291, rfl, (l1.draw ns2).at_, by omega, fun r3 ns3 j0 j1 => ?_⟩
      obtain ⟨w1, rfl⟩ := nat_ex j0
      exact ⟨_, _, rfl, rfl, ((l1.draw ns2).draw ns3).at_, 10 + w1, by omega, rfl⟩
    · exact ⟨(l1.draw ns2).at_, w0, by omega, rfl⟩
  rintro σ H3 ⟨hp3, w, hw, rfl⟩
  refine ⟨_, rfl, _, rfl, p, w, rfl, hp3, hw, fun Hb la L lb nla lap hLd G1 hL4 => ?_⟩
  have hpb := lb.at_
  clear hp3 hp1 l1 lb
  obtain ⟨la', xs, e', hx1, hx2⟩ := id (show ∃ a xs, V.ref la = .ref a ∧ LsAt (del Hb p) a xs ∧ IsL (del Hb p) xs (L.map limL) by unfold Is at hLd; exact hLd)
  cases e'
  have hxl := hx2.length
  rw [List.length_map] at hxl
  have hx1b : LsAt Hb la xs := hx1.mono (same_del _ _)
  -- handed
  refine ⟨_, rfl, la, rfl, ⟨_, hx1b.sq⟩, fun D nD => lc_it (walk_list (xs := xs)) (fun i H' => Same Hb H' ∧ ∃ hs cs, H' D = some (.lst hs) ∧ hs.length = i ∧ cs.length = i ∧ ∀ (j : Nat) (c : Addr), cs[j]? = some c → Hb c = none ∧ c ≠ D ∧ ∃ t l ys, hs[j]? = some (.ref t) ∧ L[j]? = some l ∧ H' t = some (.tup [.int l.1, .ref c]) ∧ H' c = some (.lst ys) ∧ IsL (tups H') ys (l.2.map pr))
    ⟨same_new nD, [], [], upd_same, rfl, rfl, by simp⟩ (fun i H' _ z => (hx1b.mono z.1).sq) ?_ ?_⟩
  · rintro i y H4 H5 hi ⟨s4, hs, cs, hD, hsl, csl, hall⟩ ⟨rfl, hy⟩
    have hil : i < L.length := by omega
    have hl := List.getElem?_eq_getElem hil
    generalize L[i] = l at hl
    obtain ⟨d, hd, iy⟩ := hx2.at_ hy
    rw [List.getElem?_map, hl] at hd
    cases hd
    have iy : Is Hb y (.tup [.int l.1, .lst (l.2.map pr)]) := iy.mono (same_del _ _)
    obtain ⟨u, b1, w1, rfl, hu, i1, i2⟩ := (iy.mono s4).pair
    have eb := i1.toInt
    subst eb
    unfold Is at i2
    obtain ⟨a3, zs, rfl, h5, h6⟩ := i2
    have h6t : IsL (tups H5) zs (l.2.map pr) := by
      refine IsL.of_at h6.length fun j x d h7 h8 => ?_
      obtain ⟨d', h9, h10⟩ := h6.at_ h7
      rw [h8] at h9; cases h9
      rw [List.getElem?_map] at h8
      cases e : l.2[j]? with
      | none => rw [e] at h8; cases h8
      | some qq =>
        rw [e] at h8
        cases h8
        obtain ⟨t9, x1, x2, rfl, h11, h12, h13⟩ := Is.pair (d := .int qq.1) (e := .int qq.2) h10
        have ex1 := h12.toInt
        have ex2 := h13.toInt
        subst ex1; subst ex2
        exact is_two (tups_at h11) (is_int _) (is_int _)
    refine ⟨rfl, _, rfl, u, _, 0, .int l.1, rfl, rfl, sq_tup hu, rfl, _, rfl, u, _, 1, .ref a3, rfl, rfl, sq_tup hu, rfl, a3, zs, rfl, .inl h5.sq, fun c nc => ⟨sz (by simp), fun t nt => ?_⟩⟩
    have s5 := same_new (o := .lst zs) nc
    have s6 := same_new (o := .tup [V.int l.1, V.ref c]) nt
    have hc0 : Hb c = none := s4.none nc
    have ncD : c ≠ D := fun z => by subst z; rw [hD] at nc; cases nc
    have hD6 := s6 _ _ (s5 _ _ hD)
    have hc6 := s6 c _ (show (upd H5 c (.lst zs)) c = some (.lst zs) from upd_same)
    have ht6 : (upd (upd H5 c (.lst zs)) t (.tup [V.int l.1, V.ref c])) t = some (.tup [V.int l.1, V.ref c]) := upd_same
    have s56 := s5.trans s6
    have hzs := IsL.mono (tups_mono s56) h6t
    have hall6 : ∀ (j : Nat) (c : Addr), cs[j]? = some c → Hb c = none ∧ c ≠ D ∧ ∃ t' l' ys, hs[j]? = some (.ref t') ∧ L[j]? = some l' ∧ (upd (upd H5 c (.lst zs)) t (.tup [V.int l.1, V.ref c])) t' = (upd (upd H5 c (.lst zs)) t (.tup [V.int l.1, V.ref c])) t' ∧ True := fun j c' h => by
      obtain ⟨q1, q2, t', l', ys, q3, q4, q5, q6, q7⟩ := hall j c' h
      exact ⟨q1, q2, t', l', ys, q3, q4, rfl, trivial⟩
    have hallS : ∀ (j : Nat) (c' : Addr), cs[j]? = some c' → Hb c' = none ∧ c' ≠ D ∧ ∃ t' l' ys, hs[j]? = some (.ref t') ∧ L[j]? = some l' ∧ (upd (upd H5 c (.lst zs)) t (.tup [V.int l.1, V.ref c])) t' = some (.tup [.int l'.1, .ref c']) ∧ (upd (upd H5 c (.lst zs)) t (.tup [V.int l.1, V.ref c])) c' = some (.lst ys) ∧ IsL (tups (upd (upd H5 c (.lst zs)) t (.tup [V.int l.1, V.ref c]))) ys (l'.2.map pr) := fun j c' h => by
      obtain ⟨q1, q2, t', l', ys, q3, q4, q5, q6, q7⟩ := hall j c' h
      exact ⟨q1, q2, t', l', ys, q3, q4, s56 _ _ q5, s56 _ _ q6, IsL.mono (tups_mono s56) q7⟩
    clear hall6
    generalize upd (upd H5 c (.lst zs)) t (.tup [V.int l.1, V.ref c]) = H6 at *
    refine ⟨hs, hD6, szl (by omega), Same.mut (s4.trans s56) nD, hs ++ [.ref t], cs ++ [c], upd_same, by rw [List.length_append, hsl]; rfl, by rw [List.length_append, csl]; rfl, fun j c' hj => ?_⟩
    have keep : ∀ {b o}, b ≠ D → H6 b = some o → (upd H6 D (.lst (hs ++ [.ref t]))) b = some o := fun hb e => by rw [upd_ne hb]; exact e
    by_cases cj : j < cs.length
    · rw [List.getElem?_append_left cj] at hj
      obtain ⟨q1, q2, t', l', ys, q3, q4, q5, q6, q7⟩ := hallS j c' hj
      have ht' : t' ≠ D := fun z => by subst z; rw [hD6] at q5; cases q5
      exact ⟨q1, q2, t', l', ys, by rw [List.getElem?_append_left (by omega)]; exact q3, q4, keep ht' q5, keep q2 q6, IsL.mono (tups_lst hD6) q7⟩
    · have hjl := (List.getElem?_eq_some_iff.mp hj).1
      rw [List.length_append] at hjl
      have ej : j = cs.length := by simp at hjl; omega
      subst ej
      rw [List.getElem?_concat_length] at hj
      cases hj
      have htD : t ≠ D := fun z => by subst z; rw [hD6] at ht6; cases ht6
      exact ⟨hc0, ncD, t, l, zs, by rw [show cs.length = hs.length by omega, List.getElem?_concat_length], by rw [csl]; exact hl, keep htD ht6, keep ncD hc6, IsL.mono (tups_lst hD6) hzs⟩
  rintro H4 ⟨s4, hs, cs, hD, hsl, csl, hall⟩
  have hDb : Hb D = none := nD
  have hIs : Is Hb (.ref la) (.lst (L.map limL)) := hLd.mono (same_del _ _)
  have hhd : Is H4 (.ref D) (.lst (L.map limL)) := by
    refine is_lst hD (IsL.of_at (by rw [List.length_map]; omega) fun j y d h7 h8 => ?_)
    have hj : j < cs.length := by have := (List.getElem?_eq_some_iff.mp h7).1; omega
    obtain ⟨_, _, t, l, ys, q3, q4, q5, q6, q7⟩ := hall j cs[j] (List.getElem?_eq_getElem hj)
    rw [h7] at q3; cases q3
    rw [List.getElem?_map, q4] at h8; cases h8
    exact is_two q5 (is_int _) (is_lst q6 (IsL.mono (tups_same _) q7))
  have hH : Hnd Hb H4 D hs cs 0 := ⟨hD, by omega, fun j c hj => by
    obtain ⟨q1, q2, t, l, ys, q3, q4, q5, q6, q7⟩ := hall j c hj
    refine ⟨q1, q2, t, l.1, ys, q3, q5, q6, ?_⟩
    have e := q7.length
    rw [List.length_map] at e
    have := G1.its l (List.mem_of_getElem? q4)
    omega⟩
  -- rule
  refine ⟨_, rfl, _, rfl, fun x dx nx ndx nex => ?_⟩
  have sm := made_new (x := x) (dx := dx) (C := clsA K "Rule") nx ndx
  refine ⟨x, w, .ref D, L, rfl, ⟨dx, upd_same⟩, (LimAt.of (f := fun l => .lst (l.2.map pr)) (hhd.mono sm) fun l _ => .inl rfl).in_, by omega, fun l hl => by have := G1.its l hl; omega, fun h => absurd h (by omega), fun _ _ i l hi hf => ?_, fun _ _ _ H6 fr hR => ⟨rfl, ?_⟩⟩
  · have := G1.fit l (List.mem_of_getElem? hi)
    rw [this] at hf; cases hf
  have s6 := made_same nx ndx fr
  have hR : RuleAt K H6 x w L := hR
  have s46 := s4.trans s6
  refine ⟨_, rfl, _, rfl, ne_dt (hhd.mono s6) (hIs.mono s46) (deep_lims L) ⟨_, rfl, iteF ?_⟩⟩
  refine ⟨_, rfl, _, rfl, _, rfl, x, la, w, L, rfl, hR, (LimAt.of (f := fun l => .lst (l.2.map pr)) hIs fun l _ => .inl rfl).mono s46, G1, fun H7 s7 => ⟨true, rfl, iteF ?_⟩⟩
  have hH7 : Hnd Hb H7 D hs cs 0 := ⟨s7 _ _ (s6 _ _ hH.1), hH.2.1, fun j c hj => by
    obtain ⟨q1, q2, t, b, ys, q3, q4, q5, q6⟩ := hH.2.2 j c hj
    exact ⟨q1, q2, t, b, ys, q3, s7 _ _ (s6 _ _ q4), s7 _ _ (s6 _ _ q5), q6⟩⟩
  refine ⟨_, rfl, D, rfl, ⟨_, sq_lst hH7.1⟩, for_list (xs := hs) (fun i σ H' => Same Hb H' ∧ RuleAt K (nl H') x w L ∧ Hnd Hb H' D hs cs i ∧ ∃ v5, σ = [some (.ref a), some (.ref p), some (.int w), some (.ref la), some (.ref D), v5, some (.ref x), none, none, none, none, none, none, none, none, none, none])
    ⟨s46.trans s7, (hR.mono s7).nl, hH7, none, rfl⟩ (fun i σ H' _ z => sq_lst z.2.2.1.1) ?_ ?_⟩
  · rintro i y σ H' hy ⟨sb, hr, ⟨hD', hl', hall'⟩, v5, rfl⟩
    have hi : i < cs.length := by have := (List.getElem?_eq_some_iff.mp hy).1; omega
    have hc := List.getElem?_eq_getElem hi
    generalize cs[i] = c at hc
    obtain ⟨q1, q2, t, b, ys, q3, q4, q5, q6⟩ := hall' i c hc
    rw [hy] at q3; cases q3
    refine ⟨_, rfl, t, _, 1, .ref c, rfl, rfl, sq_tup q4, rfl, .inl ⟨rfl, _, sq_lst q5⟩, sz (by simp), fun u nu => ?_⟩
    have su := same_new (o := .tup [V.int 0, V.int 1]) nu
    have q5' := su _ _ q5
    have q4' := su _ _ q4
    have hDu := su _ _ hD'
    have hallU : ∀ (j : Nat) (c : Addr), cs[j]? = some c → Hb c = none ∧ c ≠ D ∧ ∃ (t : Addr) (b : Int) (ys : List V), hs[j]? = some (.ref t) ∧ (upd H' u (.tup [V.int 0, V.int 1])) t = some (.tup [.int b, .ref c]) ∧ (upd H' u (.tup [V.int 0, V.int 1])) c = some (.lst ys) ∧ ys.length ≤ 1000 + i := fun j c hj => by
      obtain ⟨z1, z2, t, b, ys, z3, z4, z5, z6⟩ := hall' j c hj
      exact ⟨z1, z2, t, b, ys, z3, su _ _ z4, su _ _ z5, z6⟩
    have hru := hr.mono (nl_mono su)
    have sbu := sb.trans su
    generalize upd H' u (.tup [V.int 0, V.int 1]) = H8 at *
    refine ⟨c, ys, .ref u, rfl, rfl, q5', szl (by omega), ?_⟩
    refine ⟨Same.mut sbu q1, hru.mono (nl_lst q5'), ⟨by rw [upd_ne (Ne.symm q2)]; exact hDu, hl', fun j c' hj => ?_⟩, _, rfl⟩
    obtain ⟨z1, z2, t', b', ys', z3, z4, z5, z6⟩ := hallU j c' hj
    have htc : t' ≠ c := fun z => by subst z; rw [q5'] at z4; cases z4
    by_cases hcc : c' = c
    · subst hcc
      refine ⟨z1, z2, t', b', _, z3, by rw [upd_ne htc]; exact z4, upd_same, ?_⟩
      rw [List.length_append]
      show ys.length + 1 ≤ _
      omega
    · exact ⟨z1, z2, t', b', ys', z3, by rw [upd_ne htc]; exact z4, by rw [upd_ne hcc]; exact z5, by omega⟩
  rintro σ H8 ⟨s8, hr8, ⟨hD8, _, _⟩, v5, rfl⟩
  refine ⟨_, rfl, .inl ⟨rfl, _, sq_lst hD8⟩, Nat.zero_le _, fun e1 ne1 => ⟨sz (by simp), fun e2 ne2 => ?_⟩⟩
  have t1 := same_new (o := .lst []) ne1
  have t2 := same_new (o := .tup [V.int 0, V.ref e1]) ne2
  have hD9 := t2 _ _ (t1 _ _ hD8)
  refine ⟨D, hs, _, rfl, rfl, hD9, szl (by omega), ?_⟩
  have s9 : Same Hb (upd (upd (upd H8 e1 (.lst [])) e2 (.tup [V.int 0, V.ref e1])) D (.lst (hs ++ [.ref e2]))) := Same.mut (s8.trans (t1.trans t2)) hDb
  have hr9 := (hr8.mono (nl_mono (t1.trans t2))).mono (nl_lst (o' := .lst (hs ++ [.ref e2])) hD9)
  generalize upd (upd (upd H8 e1 (.lst [])) e2 (.tup [V.int 0, V.ref e1])) D (.lst (hs ++ [.ref e2])) = H9 at *
  have S9 : Std K p la x w L H9 := ⟨((Pl.refl hpb).same s9).at_, hLd.mono (del_same' s9), hr9⟩
  clear hr9 hr8 hD9 hD8 s8 t1 t2 ne1 ne2 hH7 hH hhd hIs hall s46 s6 s7 sm fr hR hD s4 nx ndx nex
  refine ⟨_, rfl, _, rfl, _, rfl, x, la, w, L, rfl, S9.ra, S9.la, G1, fun H10 s10 => ⟨true, rfl, iteF ?_⟩⟩
  have S10 := S9.same s10
  refine ⟨_, rfl, fun x2 dx2 nx2 ndx2 nex2 => ⟨x2, w, .ref T0, [], rfl, ⟨dx2, upd_same⟩, LimIn.nil hT0, by simp, by simp, fun h => absurd h (by omega), fun _ _ i l hi hf => by simp at hi, fun _ _ _ H11 fr2 hR2 => ⟨rfl, ?_⟩⟩⟩
  have s11 := made_same nx2 ndx2 fr2
  obtain ⟨dx3, t3, hi3, ht3⟩ := hR2
  refine ⟨x2, _, dx3, _, .ref t3, rfl, hi3, C.r_Rule.cl, C.n_Rule_limits, lkL _ _, Nat.zero_le _, fun u nu => ne_dt (d := .tup []) (Is.mono (same_new nu) ht3) (is_tup (xs := []) upd_same isL_nil) ⟨by simp [Dt.dep, depL], by simp [Dt.sok, sokL]⟩ ⟨_, rfl, iteF ?_⟩⟩
  have S12 := S10.same (s11.new (o := .tup []) nu)
  clear S9 S10 ht3 hi3 fr2 nx2 ndx2 nex2
  generalize upd H11 u (.tup []) = H12 at *
  have etop : (1 <<< w : Nat) = 2 ^ w := Nat.one_shiftLeft w
  have hpos : 0 < 2 ^ w := Nat.two_pow_pos w
  refine ⟨_, rfl, 1, w, rfl, rfl, ⟨by omega, by decide⟩, ?_⟩
  refine ⟨_, rfl, _, _, rfl, rfl, _, rfl, _, rfl, p, w, rfl, S12.pool, by omega, fun m1 Ha h1 l1 => ⟨_, rfl, _, rfl, p, w, rfl, l1.at_, by omega, fun m2 Hc h2 l2 => ⟨_, rfl, _, rfl, p, w, rfl, l2.at_, by omega, fun m3 Hd h3 l3 => ⟨sz (by simp), fun ml nml => ?_⟩⟩⟩⟩
  have mlp := l3.at_.ne nml
  have S14 := (S12.pl (l1.trans (l2.trans l3))).same (same_new (o := .lst (([0, ((1 <<< w : Nat) : Int) - 1, (m1 : Int), (m2 : Int), (m3 : Int)] : List Int).map V.int)) nml)
  have eml : (upd Hd ml (.lst (([0, ((1 <<< w : Nat) : Int) - 1, (m1 : Int), (m2 : Int), (m3 : Int)] : List Int).map V.int))) ml = some (.lst (([0, ((1 <<< w : Nat) : Int) - 1, (m1 : Int), (m2 : Int), (m3 : Int)] : List Int).map V.int)) := upd_same
  refine ⟨ml, rfl, ⟨_, sq_lst eml⟩, for_ints (ns := [0, ((1 <<< w : Nat) : Int) - 1, (m1 : Int), (m2 : Int), (m3 : Int)]) (fun i σ H' => Pl p (upd Hd ml (.lst (([0, ((1 <<< w : Nat) : Int) - 1, (m1 : Int), (m2 : Int), (m3 : Int)] : List Int).map V.int))) H' ∧ ∃ v8, σ = [some (.ref a), some (.ref p), some (.int w), some (.ref la), some (.ref D), v5, some (.ref x), some (.int ((1 <<< w : Nat) : Int)), v8, none, none, none, none, none, none, none, none])
    ⟨Pl.refl S14.pool, none, rfl⟩ (fun i σ H' _ z => sq_lst (z.1.get mlp eml)) ?_ ?_⟩
  · rintro i k σ H' hk ⟨lp, v8, rfl⟩
    obtain ⟨kk, rfl, hkk⟩ : ∃ kk : Nat, k = kk ∧ kk < 2 ^ w := by
      have := List.mem_of_getElem? hk
      simp only [List.mem_cons, List.not_mem_nil, or_false] at this
      rcases this with rfl | rfl | rfl | rfl | rfl
      · exact ⟨0, rfl, hpos⟩
      · exact ⟨2 ^ w - 1, by rw [etop, Int.natCast_sub hpos]; rfl, by omega⟩
      · exact ⟨m1, rfl, h1⟩
      · exact ⟨m2, rfl, h2⟩
      · exact ⟨m3, rfl, h3⟩
    have S := S14.pl lp
    exact ⟨_, rfl, _, rfl, _, rfl, _, rfl, _, rfl, p, w, rfl, S.pool, by omega, fun m4 He h4 l4 => ⟨x, la, w, kk, m4, L, rfl, (S.pl l4).ra, (S.pl l4).la, G1, hkk, h4, fun H'' s => ⟨true, rfl, iteF ⟨(lp.trans l4).same s, _, rfl⟩⟩⟩⟩
  rintro σ H13 ⟨lp, v8, rfl⟩
  have S15 := S14.pl lp
  clear S12 S14 lp eml nml l1 l2 l3 h1 h2 h3
  refine ⟨_, rfl, _, rfl, _, rfl, x, la, w, L, rfl, S15.ra, S15.la, G1, fun H14 s14 => ⟨true, rfl, iteF ?_⟩⟩
  have S16 := S15.same s14
  refine ⟨_, rfl, _, rfl, p, 3, rfl, S16.pool, by omega, fun a1 na1 a10 a11 => ?_⟩
  have S17 := S16.pl ((Pl.refl S16.pool).draw na1)
  refine ⟨_, rfl, p, 1000, rfl, S17.pool, by omega, fun b1 nb1 b10 b11 => ⟨_, _, rfl, rfl, .inl ⟨by omega, by omega⟩, _, _, rfl, rfl, ?_⟩⟩
  have S18 := S17.pl ((Pl.refl S17.pool).draw nb1)
  clear S15 S16 S17
  generalize upd (upd H14 p (.lst (na1.map V.int))) p (.lst (nb1.map V.int)) = H18 at *
  obtain ⟨c10, c11⟩ := mul_small a10 a11 b10 b11
  refine ⟨_, rfl, _, rfl, p, 3, rfl, S18.pool, by omega, fun a2 na2 a20 a21 => ?_⟩
  have S19 := S18.pl ((Pl.refl S18.pool).draw na2)
  refine ⟨_, rfl, p, 1000, rfl, S19.pool, by omega, fun b2 nb2 b20 b21 => ⟨_, _, rfl, rfl, .inl ⟨by omega, by omega⟩, _, _, rfl, rfl, ?_⟩⟩
  have S20 := S19.pl ((Pl.refl S19.pool).draw nb2)
  clear S18 S19
  generalize upd (upd H18 p (.lst (na2.map V.int))) p (.lst (nb2.map V.int)) = H20 at *
  obtain ⟨c20, c21⟩ := mul_small a20 a21 b20 b21
  obtain ⟨z1, hz1⟩ : ∃ z : Int, z = -1 - a1 * b1 := ⟨_, rfl⟩
  obtain ⟨z2, hz2⟩ : ∃ z : Int, z = ((1 <<< w : Nat) : Int) + a2 * b2 := ⟨_, rfl⟩
  have z1n : z1 < 0 := by omega
  have z1l : z1.natAbs.log2 < 1920 := log2_neg z1n (by omega)
  have z2b : ((2 ^ w : Nat) : Int) ≤ z2 := by rw [hz2, etop]; omega
  have z2l : z2.natAbs.log2 < 1920 := log2_top hw (by rw [hz2]; omega) (by rw [hz2, etop]; omega)
  refine ⟨_, rfl, _, rfl, p, w, rfl, S20.pool, by omega, fun g Hg hg lg => ?_⟩
  have S21 := S20.pl lg
  clear S20
  have gl : ((g : Nat) : Int).natAbs.log2 < 1920 := log2_top hw (by omega) (by omega)
  refine ⟨_, rfl, by omega, by omega, for_range (lo := 0) (n := 3) (fun i σ H' => Same Hg H' ∧ ∃ v12, σ = [some (.ref a), some (.ref p), some (.int w), some (.ref la), some (.ref D), v5, some (.ref x), some (.int ((1 <<< w : Nat) : Int)), v8, some (.int z1), some (.int z2), some (.int g), v12, none, none, none, none])
    ⟨Same.refl _, none, by subst hz1 hz2; rfl⟩ ?_ ?_⟩
  · rintro i σ H' hi ⟨s, v12, rfl⟩
    have S := S21.same s
    refine ⟨_, rfl, _, rfl, _, rfl, x, w, L, 0 + (i : Int), z1, 0, z1, rfl, S.ra, G1, z1l, by decide, .inl ⟨.inl z1n, rfl⟩, fun H2 t s2 hI => ⟨_, rfl, sz (by simp), fun u nu => ne_dt (hI.mono (same_new nu)) (is_two upd_same (is_str _) (is_int _)) (deep_bad _) ⟨_, rfl, iteF ?_⟩⟩⟩
    have s3 := s2.trans (same_new (o := .tup [V.str "bad", V.int z1]) nu)
    have S3 := S.same s3
    refine ⟨_, rfl, _, rfl, _, rfl, x, w, L, 0 + (i : Int), z2, 0, z2, rfl, S3.ra, G1, z2l, by decide, .inl ⟨.inr z2b, rfl⟩, fun H4 t4 s4 hI4 => ⟨_, rfl, sz (by simp), fun u4 nu4 => ne_dt (hI4.mono (same_new nu4)) (is_two upd_same (is_str _) (is_int _)) (deep_bad _) ⟨_, rfl, iteF ⟨s.trans (s3.trans (s4.trans (same_new nu4))), _, rfl⟩⟩⟩⟩
  rintro σ Hw ⟨sw, v12, rfl⟩
  have S22 := S21.same sw
  clear S21 sw
  -- pairs
  refine ⟨_, rfl, _, rfl, sz (by simp), fun t1 n1 => ⟨_, rfl, _, rfl, sz (by simp), fun t2 n2 => ⟨_, rfl, _, rfl, sz (by simp), fun t3 n3 => ⟨_, rfl, _, rfl, sz (by simp), fun t4 n4 => ⟨sz (by simp), fun pl npl => ?_⟩⟩⟩⟩⟩
  have q1 := same_new (o := .tup [V.int z1, V.int g]) n1
  have e1 : (upd Hw t1 (.tup [V.int z1, V.int g])) t1 = some (.tup [V.int z1, V.int g]) := upd_same
  generalize upd Hw t1 (.tup [V.int z1, V.int g]) = J1 at *
  have q2 := same_new (o := .tup [V.int z2, V.int z1]) n2
  have e2 : (upd J1 t2 (.tup [V.int z2, V.int z1])) t2 = some (.tup [V.int z2, V.int z1]) := upd_same
  generalize upd J1 t2 (.tup [V.int z2, V.int z1]) = J2 at *
  have q3 := same_new (o := .tup [V.int z1, V.int z2]) n3
  have e3 : (upd J2 t3 (.tup [V.int z1, V.int z2])) t3 = some (.tup [V.int z1, V.int z2]) := upd_same
  generalize upd J2 t3 (.tup [V.int z1, V.int z2]) = J3 at *
  have q4 := same_new (o := .tup [V.int z2, V.int g]) n4
  have e4 : (upd J3 t4 (.tup [V.int z2, V.int g])) t4 = some (.tup [V.int z2, V.int g]) := upd_same
  generalize upd J3 t4 (.tup [V.int z2, V.int g]) = J4 at *
  have q5 := same_new (o := .lst [V.ref t1, V.ref t2, V.ref t3, V.ref t4]) npl
  have e5 : (upd J4 pl (.lst [V.ref t1, V.ref t2, V.ref t3, V.ref t4])) pl = some (.lst [V.ref t1, V.ref t2, V.ref t3, V.ref t4]) := upd_same
  generalize upd J4 pl (.lst [V.ref t1, V.ref t2, V.ref t3, V.ref t4]) = J5 at *
  have S23 := S22.same (q1.trans (q2.trans (q3.trans (q4.trans q5))))
  refine ⟨pl, rfl, ⟨_, sq_lst e5⟩, for_list (xs := [V.ref t1, V.ref t2, V.ref t3, V.ref t4]) (fun i σ H' => Same J5 H' ∧ ∃ v13, σ = [some (.ref a), some (.ref p), some (.int w), some (.ref la), some (.ref D), v5, some (.ref x), some (.int ((1 <<< w : Nat) : Int)), v8, some (.int z1), some (.int z2), some (.int g), v12, v13, none, none, none]) ⟨Same.refl _, none, rfl⟩ (fun i σ H' _ z => sq_lst (z.1 _ _ e5)) ?_ ?_⟩
  · rintro i y σ H' hy ⟨s, v13, rfl⟩
    have hy2 : ∃ (t : Addr) (b c : Int), y = .ref t ∧ J5 t = some (.tup [.int b, .int c]) ∧ (b < 0 ∨ ((2 ^ w : Nat) : Int) ≤ b) ∧ b.natAbs.log2 < 1920 ∧ c.natAbs.log2 < 1920 := by
      have := List.mem_of_getElem? hy
      simp only [List.mem_cons, List.not_mem_nil, or_false] at this
      rcases this with rfl | rfl | rfl | rfl
      · exact ⟨t1, z1, g, rfl, q5 _ _ (q4 _ _ (q3 _ _ (q2 _ _ e1))), .inl z1n, z1l, gl⟩
      · exact ⟨t2, z2, z1, rfl, q5 _ _ (q4 _ _ (q3 _ _ e2)), .inr z2b, z2l, z1l⟩
      · exact ⟨t3, z1, z2, rfl, q5 _ _ (q4 _ _ e3), .inl z1n, z1l, z2l⟩
      · exact ⟨t4, z2, g, rfl, q5 _ _ e4, .inr z2b, z2l, gl⟩
    obtain ⟨t, b, c, rfl, ht, hb, hbl, hcl⟩ := hy2
    have S := S23.same s
    have et := s _ _ ht
    refine ⟨_, rfl, _, rfl, t, _, 0, .int b, rfl, rfl, sq_tup et, rfl, _, rfl, t, _, 1, .int c, rfl, rfl, sq_tup et, rfl, x, w, L, 3, b, c, b, rfl, S.ra, G1, hbl, hcl, .inl ⟨hb, rfl⟩, fun H2 t' s2 hI => ?_⟩
    refine ⟨_, rfl, t, _, 0, .int b, rfl, rfl, sq_tup (s2 _ _ et), rfl, sz (by simp), fun u nu => ne_dt (hI.mono (same_new nu)) (is_two upd_same (is_str _) (is_int _)) (deep_bad _) ⟨_, rfl, iteF ⟨s.trans (s2.trans (same_new nu)), _, rfl⟩⟩⟩
  rintro σ Hpp ⟨s, v13, rfl⟩
  have S24 := S23.same s
  clear S22 S23 e1 e2 e3 e4 e5 q1 q2 q3 q4 q5 n1 n2 n3 n4 npl s
  refine ⟨_, rfl, _, rfl, _, rfl, x, w, L, 3, g, z1, z1, rfl, S24.ra, G1, gl, z1l, .inr ⟨rfl, by omega, by omega, .inl z1n, rfl⟩, fun H2 t s2 hI => ⟨_, rfl, sz (by simp), fun u nu => ne_dt (hI.mono (same_new nu)) (is_two upd_same (is_str _) (is_int _)) (deep_bad _) ⟨_, rfl, iteF ?_⟩⟩⟩
  have S25 := S24.same (s2.trans (same_new (o := .tup [V.str "bad", V.int z1]) nu))
  refine ⟨_, rfl, _, rfl, _, rfl, x, w, L, 3, g, z2, z2, rfl, S25.ra, G1, gl, z2l, .inr ⟨rfl, by omega, by omega, .inr z2b, rfl⟩, fun H3 t3 s3 hI3 => ⟨_, rfl, sz (by simp), fun u3 nu3 => ne_dt (hI3.mono (same_new nu3)) (is_two upd_same (is_str _) (is_int _)) (deep_bad _) ⟨_, rfl, iteF ?_⟩⟩⟩
  have S26 := S25.same (s3.trans (same_new (o := .tup [V.str "bad", V.int z2]) nu3))
  clear S24 S25
  generalize upd H3 u3 (.tup [V.str "bad", V.int z2]) = H26 at *
  obtain ⟨xa, xs0, e0, hy1, hy2⟩ := id (show ∃ (a : Addr) (xs : List V), V.ref la = V.ref a ∧ LsAt (del H26 p) a xs ∧ IsL (del H26 p) xs (L.map limL) by have h := S26.lims; unfold Is at h; exact h)
  cases e0
  have hyl := hy2.length
  rw [List.length_map] at hyl
  refine ⟨_, rfl, _, rfl, la, _, rfl, .inl (hy1.mono (same_del _ _)).sq, _, _, rfl, rfl, p, _, rfl, S26.pool, by omega, fun pl npl p0 p1 => ?_⟩
  obtain ⟨pl, rfl⟩ := nat_ex p0
  have hpl : pl ≤ L.length := by omega
  have S27 := S26.pl ((Pl.refl S26.pool).draw npl)
  have ed : del (upd H26 p (.lst (npl.map V.int))) p = del H26 p := del_upd _ _ _
  rw [← ed] at hy1 hy2
  clear ed S26
  generalize upd H26 p (.lst (npl.map V.int)) = B at *
  have hy1b := hy1.mono (same_del _ _)
  -- spoilt
  refine ⟨_, rfl, _, rfl, pl, rfl, la, xs0, rfl, hy1b.sq, fun c1 nc1 => ?_⟩
  rw [cut_to (by omega)]
  have c1p := S27.pool.ne nc1
  have lB1 := (Pl.refl S27.pool).new (o := .lst (xs0.take pl)) nc1
  have hc1 : (upd B c1 (.lst (xs0.take pl))) c1 = some (.lst (xs0.take pl)) := upd_same
  generalize upd B c1 (.lst (xs0.take pl)) = B1 at *
  refine ⟨_, rfl, _, rfl, p, w, rfl, lB1.at_, hw, fun Hq t bl lq nt ntp it hbf hbl => ⟨sz (by simp), fun c2 nc2 => ?_⟩⟩
  have lBq := lB1.trans lq
  have r2 := same_new (o := .lst [V.ref t]) nc2
  have hc2 : (upd Hq c2 (.lst [V.ref t])) c2 = some (.lst [V.ref t]) := upd_same
  have hc1q := r2 _ _ (lq.get c1p hc1)
  generalize upd Hq c2 (.lst [V.ref t]) = B2 at *
  refine ⟨c1, c2, _, _, rfl, rfl, hc1q, hc2, sz (by rw [List.length_take]; simp; omega), fun c3 nc3 => ?_⟩
  have r3 := same_new (o := .lst (xs0.take pl ++ [V.ref t])) nc3
  have hc3 : (upd B2 c3 (.lst (xs0.take pl ++ [V.ref t]))) c3 = some (.lst (xs0.take pl ++ [V.ref t])) := upd_same
  generalize upd B2 c3 (.lst (xs0.take pl ++ [V.ref t])) = B3 at *
  have hla3 : LsAt B3 la xs0 := (hy1.mono (del_pl lBq)).mono (fun b o e => r3 _ _ (r2 _ _ (same_del _ _ _ _ e)))
  refine ⟨_, rfl, _, rfl, pl, rfl, la, xs0, rfl, hla3.sq, fun c4 nc4 => ?_⟩
  rw [cut_from (by omega)]
  have r4 := same_new (o := .lst (xs0.drop pl)) nc4
  have hc4 : (upd B3 c4 (.lst (xs0.drop pl))) c4 = some (.lst (xs0.drop pl)) := upd_same
  have hc34 := r4 _ _ hc3
  generalize upd B3 c4 (.lst (xs0.drop pl)) = B4 at *
  refine ⟨c3, c4, _, _, rfl, rfl, hc34, hc4, sz (by rw [List.length_append, List.length_take, List.length_drop]; simp; omega), fun c5 nc5 => ?_⟩
  have r24 := r2.trans (r3.trans r4)
  have nc5q : Hq c5 = none := r24.none nc5
  have nc5B : B c5 = none := lBq.none S27.pool nc5q
  have c5p : c5 ≠ p := S27.pool.ne nc5B
  have hc5 : (upd B4 c5 (.lst (xs0.take pl ++ [V.ref t] ++ xs0.drop pl))) c5 = some (.lst (xs0.take pl ++ [V.ref t] ++ xs0.drop pl)) := upd_same
  have r5 := r24.new (o := .lst (xs0.take pl ++ [V.ref t] ++ xs0.drop pl)) nc5
  generalize upd B4 c5 (.lst (xs0.take pl ++ [V.ref t] ++ xs0.drop pl)) = B5 at *
  have lq5 : Pl p Hq B5 := (Pl.refl lq.at_).same r5
  have hyq := IsL.mono (del_pl lBq) hy2
  -- what the spoilt list is, in any heap that has grown
  have spo : ∀ {H' : Hp}, Pl p Hq H' → ∀ zs ms, H' c5 = some (.lst (xs0.take pl ++ [V.ref t] ++ xs0.drop pl ++ zs)) → IsL (del H' p) zs (ms.map limL) → LimAt H' c5 (L.take pl ++ [bl] ++ (L.drop pl ++ ms)) := fun {H'} lh zs ms h1 h2 => by
    have hm := IsL.mono (del_pl lh) hyq
    refine LimAt.of (f := fun l => .lst (l.2.map pr)) (is_lst h1 ?_) fun l _ => .inl rfl
    refine IsL.mono (same_del H' p) ?_
    have e : (L.take pl ++ [bl] ++ (L.drop pl ++ ms)).map limL = (L.map limL).take pl ++ [limL bl] ++ (L.map limL).drop pl ++ ms.map limL := by
      simp [List.map_take, List.map_drop, List.append_assoc]
    show IsL (del H' p) _ ((L.take pl ++ [bl] ++ (L.drop pl ++ ms)).map limL)
    rw [e]
    exact IsL.app (IsL.app (IsL.app (hm.takeN pl) (isL1 (it.mono (del_pl lh)))) (hm.dropN pl)) h2
  have lim5 := spo lq5 [] [] (by rw [List.append_nil]; exact hc5) isL_nil
  have fits_ := G1.fit
  have itsl : ∀ ms : List Lim, (∀ l ∈ ms, l.2.length ≤ 1000) → ∀ l ∈ L.take pl ++ [bl] ++ (L.drop pl ++ ms), l.2.length ≤ 1000 := fun ms hms l hl => by
    rw [List.mem_append, List.mem_append, List.mem_append, List.mem_singleton] at hl
    rcases hl with (hl | rfl) | hl | hl
    · exact G1.its l (List.mem_of_mem_take hl)
    · omega
    · exact G1.its l (List.mem_of_mem_drop hl)
    · exact hms l hl
  have lenl : ∀ ms : List Lim, ms.length ≤ 10 → (L.take pl ++ [bl] ++ (L.drop pl ++ ms)).length ≤ 1000 := fun ms h => by
    rw [List.length_append, List.length_append, List.length_append, List.length_take, List.length_drop]; simp; omega
  have blin : ∀ ms : List Lim, bl ∈ L.take pl ++ [bl] ++ (L.drop pl ++ ms) := fun ms => by simp
  have wi : ∀ {P : Prop}, ((w : Int) < 0 ∨ 300 < (w : Int)) → P := fun h => by omega
  have allbad : ∀ ms : List Lim, ∀ {P : Prop}, (∀ l ∈ L.take pl ++ [bl] ++ (L.drop pl ++ ms), fits w l = true) → P := fun ms {P} h => by
    have := h bl (blin ms)
    rw [hbf] at this; cases this
  refine ⟨_, rfl, _, rfl, w, c5, _, rfl, lim5, lenl [] (by simp), itsl [] (by simp), fun h => wi h, fun _ _ i l hi hf hb H6 tt s hI => ?_, fun _ _ h => allbad [] h⟩
  have ei := bad_at fits_ hpl hbf hi hf hb
  subst ei
  refine ⟨_, rfl, sz (by simp), fun u nu => ne_dt (hI.mono (same_new nu)) (is_two upd_same (is_str _) (is_int _)) (deep_bad _) ⟨_, rfl, iteF ?_⟩⟩
  have r6 := s.trans (same_new (o := .tup [V.str "bad", V.int i]) nu)
  generalize upd H6 u (.tup [V.str "bad", V.int i]) = B6 at *
  have S28 := S27.pl ((lBq.trans lq5).same r6)
  refine ⟨_, rfl, _, rfl, w, la, L, rfl, S28.la, by omega, G1.its, fun h => wi h, fun _ _ j l' hi' hf' _ => ?_, fun _ _ _ H7 t7 s7 hI7 => ?_⟩
  · have := fits_ l' (List.mem_of_getElem? hi')
    rw [this] at hf'; cases hf'
  refine ⟨sz (by simp), fun u7 nu7 => ne_dt (hI7.mono (same_new nu7)) (is_two upd_same (is_str _) (is_int _)) (deep_non _) ⟨_, rfl, iteF ?_⟩⟩
  have r7 := r6.trans (s7.trans (same_new (o := .tup [V.str "none", V.int 0]) nu7))
  generalize upd H7 u7 (.tup [V.str "none", V.int 0]) = B7 at *
  have hc57 := r7 _ _ hc5
  refine ⟨_, rfl, .inl ⟨rfl, _, sq_lst hc57⟩, _, rfl, Nat.zero_le _, fun g1 ng1 => ⟨sz (by simp), fun g2 ng2 => ?_⟩⟩
  have v1 := same_new (o := .lst []) ng1
  have v2 := same_new (o := .tup [V.int (-1), V.ref g1]) ng2
  have hg2 : Is (upd (upd B7 g1 (.lst [])) g2 (.tup [V.int (-1), V.ref g1])) (.ref g2) (limL (-1, [])) := is_two upd_same (is_int _) ((is_lst (xs := []) upd_same isL_nil).mono v2)
  have ng1p : g1 ≠ p := ((lq5.same r7).at_).ne ng1
  have ng2p : g2 ≠ p := (((lq5.same r7).same v1).at_).ne ng2
  have hg1v : (upd (upd B7 g1 (.lst [])) g2 (.tup [V.int (-1), V.ref g1])) g1 = some (.lst []) := v2 _ _ upd_same
  have hg2v : (upd (upd B7 g1 (.lst [])) g2 (.tup [V.int (-1), V.ref g1])) g2 = some (.tup [V.int (-1), V.ref g1]) := upd_same
  have hc58 := v2 _ _ (v1 _ _ hc57)
  have r8 := r7.trans (v1.trans v2)
  have g1c : g1 ≠ c5 := fun z => by subst z; rw [hc57] at ng1; cases ng1
  have g2c : g2 ≠ c5 := fun z => by subst z; rw [v1 _ _ hc57] at ng2; cases ng2
  generalize upd (upd B7 g1 (.lst [])) g2 (.tup [V.int (-1), V.ref g1]) = B8 at *
  refine ⟨c5, _, _, rfl, rfl, hc58, szl (by rw [List.length_append, List.length_append, List.length_take, List.length_drop]; simp; omega), ?_⟩
  have lq9 : Pl p Hq (upd B8 c5 (.lst (xs0.take i ++ [V.ref t] ++ xs0.drop i ++ [V.ref g2]))) := (lq5.same r8).mut nc5q c5p
  have hc59 : (upd B8 c5 (.lst (xs0.take i ++ [V.ref t] ++ xs0.drop i ++ [V.ref g2]))) c5 = some (.lst (xs0.take i ++ [V.ref t] ++ xs0.drop i ++ [V.ref g2])) := upd_same
  have hgis : Is (del (upd B8 c5 (.lst (xs0.take i ++ [V.ref t] ++ xs0.drop i ++ [V.ref g2]))) p) (.ref g2) (limL (-1, [])) := is_two (by rw [del_ne ng2p, upd_ne g2c]; exact hg2v) (is_int _) (is_lst (xs := []) (by rw [del_ne ng1p, upd_ne g1c]; exact hg1v) isL_nil)
  generalize upd B8 c5 (.lst (xs0.take i ++ [V.ref t] ++ xs0.drop i ++ [V.ref g2])) = B9 at *
  clear hg2 hg1v hg2v hc58 hc57 lim5 hI hI7 v1 v2 ng1 ng2
  have lim9 := spo lq9 [V.ref g2] [(-1, [])] hc59 (isL1 hgis)
  have hms : ∀ l ∈ ([(-1, [])] : List Lim), l.2.length ≤ 1000 := by simp
  refine ⟨_, rfl, _, rfl, w, c5, _, rfl, lim9, lenl _ (by simp), itsl _ hms, fun h => wi h, fun _ _ j l' hi' hf' hb' H10 t10 s10 hI10 => ?_, fun _ _ h => allbad _ h⟩
  have ej := bad_at fits_ hpl hbf hi' hf' hb'
  subst ej
  refine ⟨_, rfl, sz (by simp), fun u10 nu10 => ne_dt (hI10.mono (same_new nu10)) (is_two upd_same (is_str _) (is_int _)) (deep_bad _) ⟨_, rfl, iteF ?_⟩⟩
  have r10 := s10.trans (same_new (o := .tup [V.str "bad", V.int j]) nu10)
  generalize upd H10 u10 (.tup [V.str "bad", V.int j]) = B10 at *
  have lq10 := lq9.same r10
  have p10 : Pl p B9 B10 := (Pl.refl lq9.at_).same r10
  -- numbers
  refine ⟨_, rfl, _, rfl, p, 3, rfl, lq10.at_, by omega, fun a3 na3 a30 a31 => ⟨_, _, rfl, rfl, ?_⟩⟩
  have lq11 := lq10.draw na3
  have p11 := p10.draw na3
  generalize upd B10 p (.lst (na3.map V.int)) = B11 at *
  refine ⟨_, rfl, p, 3, rfl, lq11.at_, by omega, fun a4 na4 a40 a41 => ?_⟩
  have lq12 := lq11.draw na4
  have p12 := p11.draw na4
  generalize upd B11 p (.lst (na4.map V.int)) = B12 at *
  refine ⟨_, rfl, p, 1000, rfl, lq12.at_, by omega, fun b4 nb4 b40 b41 => ⟨_, _, rfl, rfl, .inl ⟨by omega, by omega⟩, _, _, rfl, rfl, sz (by simp), fun nl' nnl => ?_⟩⟩
  have lq13 := lq12.draw nb4
  have p13 := p12.draw nb4
  generalize upd B12 p (.lst (nb4.map V.int)) = B13 at *
  obtain ⟨c40, c41⟩ := mul_small a40 a41 b40 b41
  have nlp := lq13.at_.ne nnl
  have lq14 := lq13.new (o := .lst (([-1 - a3, 301 + a4 * b4] : List Int).map V.int)) nnl
  have p14 := p13.new (o := .lst (([-1 - a3, 301 + a4 * b4] : List Int).map V.int)) nnl
  have enl : (upd B13 nl' (.lst (([-1 - a3, 301 + a4 * b4] : List Int).map V.int))) nl' = some (.lst (([-1 - a3, 301 + a4 * b4] : List Int).map V.int)) := upd_same
  refine ⟨nl', rfl, ⟨_, sq_lst enl⟩, for_ints (ns := [-1 - a3, 301 + a4 * b4]) (fun k σ H' => Same (upd B13 nl' (.lst (([-1 - a3, 301 + a4 * b4] : List Int).map V.int))) H' ∧ ∃ v16, σ = [some (.ref a), some (.ref p), some (.int w), some (.ref la), some (.ref D), v5, some (.ref x), some (.int ((1 <<< w : Nat) : Int)), v8, some (.int z1), some (.int z2), some (.int g), v12, v13, some (.int j), some (.ref c5), v16])
    ⟨Same.refl _, none, rfl⟩ (fun k σ H' _ z => sq_lst (z.1 _ _ enl)) ?_ ?_⟩
  · rintro k n σ H' hk ⟨s', v16, rfl⟩
    have hn : n < 0 ∨ 300 < n := by
      have := List.mem_of_getElem? hk
      simp only [List.mem_cons, List.not_mem_nil, or_false] at this
      omega
    refine ⟨_, rfl, Nat.zero_le _, fun e ne => ⟨n, e, [], rfl, LimAt.of0 upd_same, by simp, by simp, fun _ H2 t2 s2 hI2 => ⟨_, rfl, sz (by simp), fun u2 nu2 => ne_dt (hI2.mono (same_new nu2)) (is_two upd_same (is_str _) (is_int _)) (deep_bad _) ⟨_, rfl, iteF ?_⟩⟩, fun h0 h1 => absurd hn (by omega), fun h0 h1 => absurd hn (by omega)⟩⟩
    have s3 := s'.trans ((same_new ne).trans (s2.trans (same_new (o := .tup [V.str "bad", V.int (-1)]) nu2)))
    generalize upd H2 u2 (.tup [V.str "bad", V.int (-1)]) = H3' at *
    have lqz := lq14.same s3
    have pz := p14.same s3
    have limz := spo lqz [V.ref g2] [(-1, [])] (pz.get c5p hc59) (isL1 (hgis.mono (del_pl pz)))
    refine ⟨_, rfl, _, rfl, n, c5, _, rfl, limz, lenl _ (by simp), itsl _ hms, fun _ H4' t4 s4 hI4 => ⟨_, rfl, sz (by simp), fun u4 nu4 => ne_dt (hI4.mono (same_new nu4)) (is_two upd_same (is_str _) (is_int _)) (deep_bad _) ⟨_, rfl, iteF ⟨s3.trans (s4.trans (same_new nu4)), _, rfl⟩⟩⟩, fun h0 h1 => absurd hn (by omega), fun h0 h1 => absurd hn (by omega)⟩
  · rintro σ H' ⟨s', v16, rfl⟩
    have SF := S27.pl (lBq.trans (lq14.same s'))
    exact ⟨_, rfl, _, rfl, _, rfl, x, la, w, L, rfl, SF.ra, SF.la, G1, fun HF sF => ⟨_, rfl, iteT ⟨_, rfl, p, rfl, (SF.same sF).pool, q⟩⟩⟩
end
end Lw
namespace Lw
open PySem PySem.Spec PyProof.Rows L2 G
theorem all_mk {l : PySem.W.OpenLaw} {w : World} {K : PySem.W.Frag} {h : Heap} {mg : Str → Option Value} {fa : Addr} (X : K.In h) (G : h.Ns mainGlobals mg) (hfa : mg "law" = some (.ref fa))
    {C_Rule : Addr} (ra_Rule : PySem.W.nsIn K mainGlobals "Rule" = some (some (.ref C_Rule))) (rb_Rule : PySem.W.plainGet K C_Rule Str.empty = true) (rc_Rule : PySem.W.hasDictIn K C_Rule = true) (rd_Rule : PySem.W.plainOver K C_Rule = true) (re_Rule : PySem.W.findIn K (.ref C_Rule) "__setattr__" = some (some (.builtin "object.__setattr__"))) (rf_Rule : PySem.W.makesIn K C_Rule = true) (rg_Rule : PySem.W.keepIn K (.ref C_Rule) = true)
    (rn_Rule_wires : PySem.W.findIn K (.ref C_Rule) "wires" = some none)
    (rn_Rule_limits : PySem.W.findIn K (.ref C_Rule) "limits" = some none)
    (rh_Rule : PySem.W.readsIn K C_Rule (.type "type") = true) (ri_Rule : PySem.W.specialIn K (.ref C_Rule) "__getattribute__" = some (some (.builtin "type.__getattribute__")))
    {tk_Rule_MOST_WIRES : Tok} (rk_Rule_MOST_WIRES : PySem.W.findCls K (.ref C_Rule) (.type "type") "MOST_WIRES" = some (.val (.int 300 tk_Rule_MOST_WIRES)))
    {f0 : Addr} {od0 an0 : Option Addr} {sl0 : Array (Option Value)} {oc0 kV0 dc0 pm0 cd0 ct0 : Value}
    (a0 : PySem.W.nsIn K mainGlobals "check_word" = some (some (.ref f0))) (l0 : K.lookup f0 = some ⟨oc0, od0, .func (PySem.W.fnOf "check_word" "check_word" (defArgs s_check_word) (defBody s_check_word) (defScope s_check_word) .none kV0 dc0 pm0 an0 cd0 ct0), sl0⟩) (c0 : PySem.W.codeIn K cd0 "check_word" = true) (k0 : PySem.W.keepIn K (.ref f0) = true)
    {f1 : Addr} {od1 an1 : Option Addr} {sl1 : Array (Option Value)} {oc1 kV1 dc1 pm1 cd1 ct1 : Value}
    (a1 : PySem.W.nsIn K mainGlobals "limit_fits" = some (some (.ref f1))) (l1 : K.lookup f1 = some ⟨oc1, od1, .func (PySem.W.fnOf "limit_fits" "limit_fits" (defArgs s_limit_fits) (defBody s_limit_fits) (defScope s_limit_fits) .none kV1 dc1 pm1 an1 cd1 ct1), sl1⟩) (c1 : PySem.W.codeIn K cd1 "limit_fits" = true) (k1 : PySem.W.keepIn K (.ref f1) = true)
    {f2 : Addr} {od2 an2 : Option Addr} {sl2 : Array (Option Value)} {oc2 kV2 dc2 pm2 cd2 ct2 : Value}
    {T_Rule T0_Rule : Addr} {oa_Rule : Value} {ob_Rule oe_Rule : Option Addr} {on_Rule om_Rule : Nat} {os_Rule ot_Rule : Array (Option Value)}
    (a2 : PySem.W.findIn K (.ref C_Rule) "__init__" = some (some (.ref f2))) (l2 : K.lookup f2 = some ⟨oc2, od2, .func (PySem.W.fnOf "__init__" "Rule.__init__" (defArgs s_Rule___init__) (defBody s_Rule___init__) (defScope s_Rule___init__) (.ref T_Rule) kV2 dc2 pm2 an2 cd2 ct2), sl2⟩) (c2 : PySem.W.codeIn K cd2 "Rule.__init__" = true) (k2 : PySem.W.keepIn K (.ref f2) = true) (i2 : PySem.W.isFn K (.ref f2) = true)
    (ta_Rule : K.lookup T_Rule = some ⟨oa_Rule, ob_Rule, .seq #[.ref T0_Rule] on_Rule, os_Rule⟩) (tb_Rule : K.lookup T0_Rule = some ⟨.type "tuple", oe_Rule, .seq #[] om_Rule, ot_Rule⟩)
    {f3 : Addr} {od3 an3 : Option Addr} {sl3 : Array (Option Value)} {oc3 kV3 dc3 pm3 cd3 ct3 : Value}
    (a3 : PySem.W.findIn K (.ref C_Rule) "loads" = some (some (.ref f3))) (l3 : K.lookup f3 = some ⟨oc3, od3, .func (PySem.W.fnOf "loads" "Rule.loads" (defArgs s_Rule_loads) (defBody s_Rule_loads) (defScope s_Rule_loads) .none kV3 dc3 pm3 an3 cd3 ct3), sl3⟩) (c3 : PySem.W.codeIn K cd3 "Rule.loads" = true) (k3 : PySem.W.keepIn K (.ref f3) = true) (i3 : PySem.W.isFn K (.ref f3) = true)
    {f4 : Addr} {od4 an4 : Option Addr} {sl4 : Array (Option Value)} {oc4 kV4 dc4 pm4 cd4 ct4 : Value}
    (a4 : PySem.W.findIn K (.ref C_Rule) "allows" = some (some (.ref f4))) (l4 : K.lookup f4 = some ⟨oc4, od4, .func (PySem.W.fnOf "allows" "Rule.allows" (defArgs s_Rule_allows) (defBody s_Rule_allows) (defScope s_Rule_allows) .none kV4 dc4 pm4 an4 cd4 ct4), sl4⟩) (c4 : PySem.W.codeIn K cd4 "Rule.allows" = true) (k4 : PySem.W.keepIn K (.ref f4) = true) (i4 : PySem.W.isFn K (.ref f4) = true)
    {f5 : Addr} {od5 an5 : Option Addr} {sl5 : Array (Option Value)} {oc5 kV5 dc5 pm5 cd5 ct5 : Value}
    (a5 : PySem.W.findIn K (.ref C_Rule) "allows_step" = some (some (.ref f5))) (l5 : K.lookup f5 = some ⟨oc5, od5, .func (PySem.W.fnOf "allows_step" "Rule.allows_step" (defArgs s_Rule_allows_step) (defBody s_Rule_allows_step) (defScope s_Rule_allows_step) .none kV5 dc5 pm5 an5 cd5 ct5), sl5⟩) (c5 : PySem.W.codeIn K cd5 "Rule.allows_step" = true) (k5 : PySem.W.keepIn K (.ref f5) = true) (i5 : PySem.W.isFn K (.ref f5) = true)
    {f6 : Addr} {od6 an6 : Option Addr} {sl6 : Array (Option Value)} {oc6 kV6 dc6 pm6 cd6 ct6 : Value}
    (a6 : PySem.W.findIn K (.ref C_Rule) "__contains__" = some (some (.ref f6))) (l6 : K.lookup f6 = some ⟨oc6, od6, .func (PySem.W.fnOf "__contains__" "Rule.__contains__" (defArgs s_Rule___contains__) (defBody s_Rule___contains__) (defScope s_Rule___contains__) .none kV6 dc6 pm6 an6 cd6 ct6), sl6⟩) (c6 : PySem.W.codeIn K cd6 "Rule.__contains__" = true) (k6 : PySem.W.keepIn K (.ref f6) = true) (i6 : PySem.W.isFn K (.ref f6) = true)
    {f7 : Addr} {od7 an7 : Option Addr} {sl7 : Array (Option Value)} {oc7 kV7 dc7 pm7 cd7 ct7 : Value}
    (a7 : PySem.W.nsIn K mainGlobals "allowed_sets" = some (some (.ref f7))) (l7 : K.lookup f7 = some ⟨oc7, od7, .func (PySem.W.fnOf "allowed_sets" "allowed_sets" (defArgs s_allowed_sets) (defBody s_allowed_sets) (defScope s_allowed_sets) .none kV7 dc7 pm7 an7 cd7 ct7), sl7⟩) (c7 : PySem.W.codeIn K cd7 "allowed_sets" = true) (k7 : PySem.W.keepIn K (.ref f7) = true)
    {f8 : Addr} {od8 an8 : Option Addr} {sl8 : Array (Option Value)} {oc8 kV8 dc8 pm8 cd8 ct8 : Value}
    (a8 : PySem.W.nsIn K mainGlobals "_law_pool" = some (some (.ref f8))) (l8 : K.lookup f8 = some ⟨oc8, od8, .func (PySem.W.fnOf "_law_pool" "_law_pool" (defArgs s__law_pool) (defBody s__law_pool) (defScope s__law_pool) .none kV8 dc8 pm8 an8 cd8 ct8), sl8⟩) (c8 : PySem.W.codeIn K cd8 "_law_pool" = true) (k8 : PySem.W.keepIn K (.ref f8) = true)
    {f9 : Addr} {od9 an9 : Option Addr} {sl9 : Array (Option Value)} {oc9 kV9 dc9 pm9 cd9 ct9 : Value}
    (a9 : PySem.W.nsIn K mainGlobals "_law_take" = some (some (.ref f9))) (l9 : K.lookup f9 = some ⟨oc9, od9, .func (PySem.W.fnOf "_law_take" "_law_take" (defArgs s__law_take) (defBody s__law_take) (defScope s__law_take) .none kV9 dc9 pm9 an9 cd9 ct9), sl9⟩) (c9 : PySem.W.codeIn K cd9 "_law_take" = true) (k9 : PySem.W.keepIn K (.ref f9) = true)
    {f10 : Addr} {od10 an10 : Option Addr} {sl10 : Array (Option Value)} {oc10 kV10 dc10 pm10 cd10 ct10 : Value}
    (a10 : PySem.W.nsIn K mainGlobals "_law_mask" = some (some (.ref f10))) (l10 : K.lookup f10 = some ⟨oc10, od10, .func (PySem.W.fnOf "_law_mask" "_law_mask" (defArgs s__law_mask) (defBody s__law_mask) (defScope s__law_mask) .none kV10 dc10 pm10 an10 cd10 ct10), sl10⟩) (c10 : PySem.W.codeIn K cd10 "_law_mask" = true) (k10 : PySem.W.keepIn K (.ref f10) = true)
    {f11 : Addr} {od11 an11 : Option Addr} {sl11 : Array (Option Value)} {oc11 kV11 dc11 pm11 cd11 ct11 : Value}
    (a11 : PySem.W.nsIn K mainGlobals "_law_limits" = some (some (.ref f11))) (l11 : K.lookup f11 = some ⟨oc11, od11, .func (PySem.W.fnOf "_law_limits" "_law_limits" (defArgs s__law_limits) (defBody s__law_limits) (defScope s__law_limits) .none kV11 dc11 pm11 an11 cd11 ct11), sl11⟩) (c11 : PySem.W.codeIn K cd11 "_law_limits" = true) (k11 : PySem.W.keepIn K (.ref f11) = true)
    {f12 : Addr} {od12 an12 : Option Addr} {sl12 : Array (Option Value)} {oc12 kV12 dc12 pm12 cd12 ct12 : Value}
    (a12 : PySem.W.nsIn K mainGlobals "_law_due" = some (some (.ref f12))) (l12 : K.lookup f12 = some ⟨oc12, od12, .func (PySem.W.fnOf "_law_due" "_law_due" (defArgs s__law_due) (defBody s__law_due) (defScope s__law_due) .none kV12 dc12 pm12 an12 cd12 ct12), sl12⟩) (c12 : PySem.W.codeIn K cd12 "_law_due" = true) (k12 : PySem.W.keepIn K (.ref f12) = true)
    {f13 : Addr} {od13 an13 : Option Addr} {sl13 : Array (Option Value)} {oc13 kV13 dc13 pm13 cd13 ct13 : Value}
    (a13 : PySem.W.nsIn K mainGlobals "_law_ints" = some (some (.ref f13))) (l13 : K.lookup f13 = some ⟨oc13, od13, .func (PySem.W.fnOf "_law_ints" "_law_ints" (defArgs s__law_ints) (defBody s__law_ints) (defScope s__law_ints) .none kV13 dc13 pm13 an13 cd13 ct13), sl13⟩) (c13 : PySem.W.codeIn K cd13 "_law_ints" = true) (k13 : PySem.W.keepIn K (.ref f13) = true)
    {f14 : Addr} {od14 an14 : Option Addr} {sl14 : Array (Option Value)} {oc14 kV14 dc14 pm14 cd14 ct14 : Value}
    (a14 : PySem.W.nsIn K mainGlobals "_law_listed" = some (some (.ref f14))) (l14 : K.lookup f14 = some ⟨oc14, od14, .func (PySem.W.fnOf "_law_listed" "_law_listed" (defArgs s__law_listed) (defBody s__law_listed) (defScope s__law_listed) .none kV14 dc14 pm14 an14 cd14 ct14), sl14⟩) (c14 : PySem.W.codeIn K cd14 "_law_listed" = true) (k14 : PySem.W.keepIn K (.ref f14) = true)
    {f15 : Addr} {od15 an15 : Option Addr} {sl15 : Array (Option Value)} {oc15 kV15 dc15 pm15 cd15 ct15 : Value}
    (a15 : PySem.W.nsIn K mainGlobals "_law_told_word" = some (some (.ref f15))) (l15 : K.lookup f15 = some ⟨oc15, od15, .func (PySem.W.fnOf "_law_told_word" "_law_told_word" (defArgs s__law_told_word) (defBody s__law_told_word) (defScope s__law_told_word) .none kV15 dc15 pm15 an15 cd15 ct15), sl15⟩) (c15 : PySem.W.codeIn K cd15 "_law_told_word" = true) (k15 : PySem.W.keepIn K (.ref f15) = true)
    {f16 : Addr} {od16 an16 : Option Addr} {sl16 : Array (Option Value)} {oc16 kV16 dc16 pm16 cd16 ct16 : Value}
    (a16 : PySem.W.nsIn K mainGlobals "_law_told_rule" = some (some (.ref f16))) (l16 : K.lookup f16 = some ⟨oc16, od16, .func (PySem.W.fnOf "_law_told_rule" "_law_told_rule" (defArgs s__law_told_rule) (defBody s__law_told_rule) (defScope s__law_told_rule) .none kV16 dc16 pm16 an16 cd16 ct16), sl16⟩) (c16 : PySem.W.codeIn K cd16 "_law_told_rule" = true) (k16 : PySem.W.keepIn K (.ref f16) = true)
    {f17 : Addr} {od17 an17 : Option Addr} {sl17 : Array (Option Value)} {oc17 kV17 dc17 pm17 cd17 ct17 : Value}
    (a17 : PySem.W.nsIn K mainGlobals "_law_bad_limit" = some (some (.ref f17))) (l17 : K.lookup f17 = some ⟨oc17, od17, .func (PySem.W.fnOf "_law_bad_limit" "_law_bad_limit" (defArgs s__law_bad_limit) (defBody s__law_bad_limit) (defScope s__law_bad_limit) .none kV17 dc17 pm17 an17 cd17 ct17), sl17⟩) (c17 : PySem.W.codeIn K cd17 "_law_bad_limit" = true) (k17 : PySem.W.keepIn K (.ref f17) = true)
    {f18 : Addr} {od18 an18 : Option Addr} {sl18 : Array (Option Value)} {oc18 kV18 dc18 pm18 cd18 ct18 : Value}
    (a18 : PySem.W.nsIn K mainGlobals "_law_kept" = some (some (.ref f18))) (l18 : K.lookup f18 = some ⟨oc18, od18, .func (PySem.W.fnOf "_law_kept" "_law_kept" (defArgs s__law_kept) (defBody s__law_kept) (defScope s__law_kept) .none kV18 dc18 pm18 an18 cd18 ct18), sl18⟩) (c18 : PySem.W.codeIn K cd18 "_law_kept" = true) (k18 : PySem.W.keepIn K (.ref f18) = true)
    {f19 : Addr} {od19 an19 : Option Addr} {sl19 : Array (Option Value)} {oc19 kV19 dc19 pm19 cd19 ct19 : Value}
    (a19 : PySem.W.nsIn K mainGlobals "_law_asked" = some (some (.ref f19))) (l19 : K.lookup f19 = some ⟨oc19, od19, .func (PySem.W.fnOf "_law_asked" "_law_asked" (defArgs s__law_asked) (defBody s__law_asked) (defScope s__law_asked) .none kV19 dc19 pm19 an19 cd19 ct19), sl19⟩) (c19 : PySem.W.codeIn K cd19 "_law_asked" = true) (k19 : PySem.W.keepIn K (.ref f19) = true)
    {f20 : Addr} {od20 an20 : Option Addr} {sl20 : Array (Option Value)} {oc20 kV20 dc20 pm20 cd20 ct20 : Value}
    (a20 : PySem.W.nsIn K mainGlobals "_law_widest" = some (some (.ref f20))) (l20 : K.lookup f20 = some ⟨oc20, od20, .func (PySem.W.fnOf "_law_widest" "_law_widest" (defArgs s__law_widest) (defBody s__law_widest) (defScope s__law_widest) .none kV20 dc20 pm20 an20 cd20 ct20), sl20⟩) (c20 : PySem.W.codeIn K cd20 "_law_widest" = true) (k20 : PySem.W.keepIn K (.ref f20) = true)
    {f21 : Addr} {od21 an21 : Option Addr} {sl21 : Array (Option Value)} {oc21 kV21 dc21 pm21 cd21 ct21 : Value}
    (a21 : PySem.W.nsIn K mainGlobals "law" = some (some (.ref f21))) (l21 : K.lookup f21 = some ⟨oc21, od21, .func (PySem.W.fnOf "law" "law" (defArgs s_law) (defBody s_law) (defScope s_law) .none kV21 dc21 pm21 an21 cd21 ct21), sl21⟩) (c21 : PySem.W.codeIn K cd21 "law" = true) (k21 : PySem.W.keepIn K (.ref f21) = true)
    (z_NotImplemented : PySem.W.nsIn K mainGlobals "NotImplemented" = some none)
    (z_ValueError : PySem.W.nsIn K mainGlobals "ValueError" = some none)
    (z_all : PySem.W.nsIn K mainGlobals "all" = some none)
    (z_bool : PySem.W.nsIn K mainGlobals "bool" = some none)
    (z_enumerate : PySem.W.nsIn K mainGlobals "enumerate" = some none)
    (z_int : PySem.W.nsIn K mainGlobals "int" = some none)
    (z_isinstance : PySem.W.nsIn K mainGlobals "isinstance" = some none)
    (z_len : PySem.W.nsIn K mainGlobals "len" = some none)
    (z_list : PySem.W.nsIn K mainGlobals "list" = some none)
    (z_max : PySem.W.nsIn K mainGlobals "max" = some none)
    (z_min : PySem.W.nsIn K mainGlobals "min" = some none)
    (z_range : PySem.W.nsIn K mainGlobals "range" = some none)
    (z_str : PySem.W.nsIn K mainGlobals "str" = some none)
    (z_sum : PySem.W.nsIn K mainGlobals "sum" = some none)
    (z_tuple : PySem.W.nsIn K mainGlobals "tuple" = some none)
    {t_MOST_BOUND : Tok} (q_MOST_BOUND : PySem.W.nsIn K mainGlobals "MOST_BOUND" = some (some (.int 1000000 t_MOST_BOUND)))
    {t_MOST_WEIGHT : Tok} (q_MOST_WEIGHT : PySem.W.nsIn K mainGlobals "MOST_WEIGHT" = some (some (.int 1000 t_MOST_WEIGHT)))
    {t_MOST_LISTED : Tok} (q_MOST_LISTED : PySem.W.nsIn K mainGlobals "MOST_LISTED" = some (some (.int 10 t_MOST_LISTED)))
    (sn : PySem.W.specialIn K (.builtin "object.__class__") "__get__" = some (some (.builtin "getset_descriptor.__get__"))) (stk : PySem.W.takesIn K (.builtin "object.__class__") = some true)
    {C_BusError : Addr} (ea_BusError : PySem.W.nsIn K mainGlobals "BusError" = some (some (.ref C_BusError))) (eb_BusError : PySem.W.findIn K (.ref C_BusError) "__getattribute__" = some (some (.builtin "BaseException.__getattribute__"))) (ec_BusError : PySem.W.findIn K (.ref C_BusError) "__getattr__" = some none)
    (ed_BusError : PySem.W.subIn K (.ref C_BusError) (.type "BaseException") = some true) (ee_BusError : PySem.W.hasDictIn K C_BusError = true) (ef_BusError : PySem.W.findIn K (.ref C_BusError) "__class__" = some (some (.builtin "object.__class__"))) (eg_BusError : PySem.W.mroIn K C_BusError (.type "object") = some true)
    (eh_BusError : PySem.W.isClsIn K C_BusError = true) (ei_BusError : PySem.W.typeIn K (.ref C_BusError) = some (.type "type")) (ej_BusError : PySem.W.subIn K (.ref C_BusError) (.ref C_BusError) = some true) (ek_BusError : PySem.W.subIn K (.ref C_BusError) (.type "ValueError") = some true) (el_BusError : PySem.W.subIn K (.ref C_BusError) (.ref C_BusError) = some true)
    {C_BadRule : Addr} (ea_BadRule : PySem.W.nsIn K mainGlobals "BadRule" = some (some (.ref C_BadRule))) (eb_BadRule : PySem.W.findIn K (.ref C_BadRule) "__getattribute__" = some (some (.builtin "BaseException.__getattribute__"))) (ec_BadRule : PySem.W.findIn K (.ref C_BadRule) "__getattr__" = some none)
    (ed_BadRule : PySem.W.subIn K (.ref C_BadRule) (.type "BaseException") = some true) (ee_BadRule : PySem.W.hasDictIn K C_BadRule = true) (ef_BadRule : PySem.W.findIn K (.ref C_BadRule) "__class__" = some (some (.builtin "object.__class__"))) (eg_BadRule : PySem.W.mroIn K C_BadRule (.type "object") = some true)
    (eh_BadRule : PySem.W.isClsIn K C_BadRule = true) (ei_BadRule : PySem.W.typeIn K (.ref C_BadRule) = some (.type "type")) (ej_BadRule : PySem.W.subIn K (.ref C_BadRule) (.ref C_BusError) = some true) (ek_BadRule : PySem.W.subIn K (.ref C_BadRule) (.type "ValueError") = some true) (el_BadRule : PySem.W.subIn K (.ref C_BadRule) (.ref C_BadRule) = some true)
    {C_BadWord : Addr} (ea_BadWord : PySem.W.nsIn K mainGlobals "BadWord" = some (some (.ref C_BadWord))) (eb_BadWord : PySem.W.findIn K (.ref C_BadWord) "__getattribute__" = some (some (.builtin "BaseException.__getattribute__"))) (ec_BadWord : PySem.W.findIn K (.ref C_BadWord) "__getattr__" = some none)
    (ed_BadWord : PySem.W.subIn K (.ref C_BadWord) (.type "BaseException") = some true) (ee_BadWord : PySem.W.hasDictIn K C_BadWord = true) (ef_BadWord : PySem.W.findIn K (.ref C_BadWord) "__class__" = some (some (.builtin "object.__class__"))) (eg_BadWord : PySem.W.mroIn K C_BadWord (.type "object") = some true)
    (eh_BadWord : PySem.W.isClsIn K C_BadWord = true) (ei_BadWord : PySem.W.typeIn K (.ref C_BadWord) = some (.type "type")) (ej_BadWord : PySem.W.subIn K (.ref C_BadWord) (.ref C_BusError) = some true) (ek_BadWord : PySem.W.subIn K (.ref C_BadWord) (.type "ValueError") = some true) (el_BadWord : PySem.W.subIn K (.ref C_BadWord) (.ref C_BadWord) = some true)
    {C_TooMany : Addr} (ea_TooMany : PySem.W.nsIn K mainGlobals "TooMany" = some (some (.ref C_TooMany))) (eb_TooMany : PySem.W.findIn K (.ref C_TooMany) "__getattribute__" = some (some (.builtin "BaseException.__getattribute__"))) (ec_TooMany : PySem.W.findIn K (.ref C_TooMany) "__getattr__" = some none)
    (ed_TooMany : PySem.W.subIn K (.ref C_TooMany) (.type "BaseException") = some true) (ee_TooMany : PySem.W.hasDictIn K C_TooMany = true) (ef_TooMany : PySem.W.findIn K (.ref C_TooMany) "__class__" = some (some (.builtin "object.__class__"))) (eg_TooMany : PySem.W.mroIn K C_TooMany (.type "object") = some true)
    (eh_TooMany : PySem.W.isClsIn K C_TooMany = true) (ei_TooMany : PySem.W.typeIn K (.ref C_TooMany) = some (.type "type")) (ej_TooMany : PySem.W.subIn K (.ref C_TooMany) (.ref C_BusError) = some true) (ek_TooMany : PySem.W.subIn K (.ref C_TooMany) (.type "ValueError") = some true) (el_TooMany : PySem.W.subIn K (.ref C_TooMany) (.ref C_TooMany) = some true)
    (no_BadWord_BadRule : PySem.W.subIn K (.ref C_BadWord) (.ref C_BadRule) = some false)
    (no_BadRule_BadWord : PySem.W.subIn K (.ref C_BadRule) (.ref C_BadWord) = some false)
    (opq : PySem.W.nsIn K PySem.cStatics "thirdparty.any" = some none) (z_super : PySem.W.nsIn K mainGlobals "super" = some none) (fB : PySem.W.findIn K (.ref C_BusError) "__init__" = some (some (.builtin "ValueError.__init__")))
    {nmB qB : Str} {NB : Addr} {bsB : List Value} {snB : List Str} {subB : List Value} {abB : Bool} {colB : Option Bool} {ddB : Option Addr} {mB0 mB1 mB2 mB3 mB5 : Option Value}
    (xLB : K.lookup C_BusError = some (excClassObj nmB qB C_BusError NB bsB [.type "ValueError", .type "Exception", .type "BaseException", .type "object"] true snB subB abB colB ddB mB0 mB1 mB2 mB3 mB5 "ValueError.__new__"))
    {nm_BadWord q_BadWord : Str} {N_BadWord : Addr} {bs_BadWord : List Value} {sn_BadWord : List Str} {sub_BadWord : List Value} {ab_BadWord : Bool} {col_BadWord : Option Bool} {dd_BadWord : Option Addr} {m0_BadWord m1_BadWord m2_BadWord m3_BadWord m5_BadWord : Option Value}
    (xa_BadWord : K.lookup C_BadWord = some (excClassObj nm_BadWord q_BadWord C_BadWord N_BadWord bs_BadWord [.ref C_BusError, .type "ValueError", .type "Exception", .type "BaseException", .type "object"] true sn_BadWord sub_BadWord ab_BadWord col_BadWord dd_BadWord m0_BadWord m1_BadWord m2_BadWord m3_BadWord m5_BadWord "ValueError.__new__"))
    (xb_BadWord : PySem.W.findIn K (.ref C_BadWord) "__setattr__" = some (some (.builtin "object.__setattr__"))) (xc_BadWord : PySem.W.keepIn K (.ref C_BadWord) = true) {I_BadWord : Addr} (xd_BadWord' : PySem.W.findIn K (.ref C_BadWord) "__init__" = some (some (.ref I_BadWord))) (xe_BadWord : PySem.W.typeIn K (.ref I_BadWord) = some (.type "function"))
    {oc_BadWord kV_BadWord dc_BadWord pm_BadWord ct_BadWord : Value} {od_BadWord an_BadWord : Option Addr} {sl_BadWord : Array (Option Value)} {cda_BadWord cc_BadWord : Addr}
    (xf_BadWord : K.lookup I_BadWord = some ⟨oc_BadWord, od_BadWord, .func (PySem.W.fnX "__init__" "BadWord.__init__" (defArgs s_BadWord) (defBody s_BadWord) (defScope s_BadWord) [("__class__", cc_BadWord)] .none kV_BadWord dc_BadWord pm_BadWord an_BadWord (.ref cda_BadWord) ct_BadWord), sl_BadWord⟩) (xg_BadWord : PySem.W.codeIn K (.ref cda_BadWord) "BadWord.__init__" = true)
    {ccl_BadWord v0_BadWord v1_BadWord : Value} {cdd_BadWord : Option Addr} {vr_BadWord : List Value} {ccs_BadWord : Array (Option Value)} {file_BadWord : Str} {tf_BadWord : Tok} (xh_BadWord : K.lookup cda_BadWord = some ⟨ccl_BadWord, cdd_BadWord, .fields ⟨v0_BadWord :: v1_BadWord :: .str file_BadWord tf_BadWord :: vr_BadWord⟩, ccs_BadWord⟩) (xi_BadWord : ((l.prog.main.file : Str) == file_BadWord) = true)
    {cl_BadWord : Value} {cld_BadWord : Option Addr} {csl_BadWord : Array (Option Value)} (xj_BadWord : K.lookup cc_BadWord = some ⟨cl_BadWord, cld_BadWord, .cell (some (.ref C_BadWord)), csl_BadWord⟩)
    (xn_BadWord_value : PySem.W.findIn K (.ref C_BadWord) "value" = some none)
    {nm_BadRule q_BadRule : Str} {N_BadRule : Addr} {bs_BadRule : List Value} {sn_BadRule : List Str} {sub_BadRule : List Value} {ab_BadRule : Bool} {col_BadRule : Option Bool} {dd_BadRule : Option Addr} {m0_BadRule m1_BadRule m2_BadRule m3_BadRule m5_BadRule : Option Value}
    (xa_BadRule : K.lookup C_BadRule = some (excClassObj nm_BadRule q_BadRule C_BadRule N_BadRule bs_BadRule [.ref C_BusError, .type "ValueError", .type "Exception", .type "BaseException", .type "object"] true sn_BadRule sub_BadRule ab_BadRule col_BadRule dd_BadRule m0_BadRule m1_BadRule m2_BadRule m3_BadRule m5_BadRule "ValueError.__new__"))
    (xb_BadRule : PySem.W.findIn K (.ref C_BadRule) "__setattr__" = some (some (.builtin "object.__setattr__"))) (xc_BadRule : PySem.W.keepIn K (.ref C_BadRule) = true) {I_BadRule : Addr} (xd_BadRule' : PySem.W.findIn K (.ref C_BadRule) "__init__" = some (some (.ref I_BadRule))) (xe_BadRule : PySem.W.typeIn K (.ref I_BadRule) = some (.type "function"))
    {oc_BadRule kV_BadRule dc_BadRule pm_BadRule ct_BadRule : Value} {od_BadRule an_BadRule : Option Addr} {sl_BadRule : Array (Option Value)} {cda_BadRule cc_BadRule : Addr}
    (xf_BadRule : K.lookup I_BadRule = some ⟨oc_BadRule, od_BadRule, .func (PySem.W.fnX "__init__" "BadRule.__init__" (defArgs s_BadRule) (defBody s_BadRule) (defScope s_BadRule) [("__class__", cc_BadRule)] .none kV_BadRule dc_BadRule pm_BadRule an_BadRule (.ref cda_BadRule) ct_BadRule), sl_BadRule⟩) (xg_BadRule : PySem.W.codeIn K (.ref cda_BadRule) "BadRule.__init__" = true)
    {ccl_BadRule v0_BadRule v1_BadRule : Value} {cdd_BadRule : Option Addr} {vr_BadRule : List Value} {ccs_BadRule : Array (Option Value)} {file_BadRule : Str} {tf_BadRule : Tok} (xh_BadRule : K.lookup cda_BadRule = some ⟨ccl_BadRule, cdd_BadRule, .fields ⟨v0_BadRule :: v1_BadRule :: .str file_BadRule tf_BadRule :: vr_BadRule⟩, ccs_BadRule⟩) (xi_BadRule : ((l.prog.main.file : Str) == file_BadRule) = true)
    {cl_BadRule : Value} {cld_BadRule : Option Addr} {csl_BadRule : Array (Option Value)} (xj_BadRule : K.lookup cc_BadRule = some ⟨cl_BadRule, cld_BadRule, .cell (some (.ref C_BadRule)), csl_BadRule⟩)
    (xn_BadRule_index : PySem.W.findIn K (.ref C_BadRule) "index" = some none)
    {nm_TooMany q_TooMany : Str} {N_TooMany : Addr} {bs_TooMany : List Value} {sn_TooMany : List Str} {sub_TooMany : List Value} {ab_TooMany : Bool} {col_TooMany : Option Bool} {dd_TooMany : Option Addr} {m0_TooMany m1_TooMany m2_TooMany m3_TooMany m5_TooMany : Option Value}
    (xa_TooMany : K.lookup C_TooMany = some (excClassObj nm_TooMany q_TooMany C_TooMany N_TooMany bs_TooMany [.ref C_BusError, .type "ValueError", .type "Exception", .type "BaseException", .type "object"] true sn_TooMany sub_TooMany ab_TooMany col_TooMany dd_TooMany m0_TooMany m1_TooMany m2_TooMany m3_TooMany m5_TooMany "ValueError.__new__"))
    (xb_TooMany : PySem.W.findIn K (.ref C_TooMany) "__setattr__" = some (some (.builtin "object.__setattr__"))) (xc_TooMany : PySem.W.keepIn K (.ref C_TooMany) = true) {I_TooMany : Addr} (xd_TooMany' : PySem.W.findIn K (.ref C_TooMany) "__init__" = some (some (.ref I_TooMany))) (xe_TooMany : PySem.W.typeIn K (.ref I_TooMany) = some (.type "function"))
    {oc_TooMany kV_TooMany dc_TooMany pm_TooMany ct_TooMany : Value} {od_TooMany an_TooMany : Option Addr} {sl_TooMany : Array (Option Value)} {cda_TooMany cc_TooMany : Addr}
    (xf_TooMany : K.lookup I_TooMany = some ⟨oc_TooMany, od_TooMany, .func (PySem.W.fnX "__init__" "TooMany.__init__" (defArgs s_TooMany) (defBody s_TooMany) (defScope s_TooMany) [("__class__", cc_TooMany)] .none kV_TooMany dc_TooMany pm_TooMany an_TooMany (.ref cda_TooMany) ct_TooMany), sl_TooMany⟩) (xg_TooMany : PySem.W.codeIn K (.ref cda_TooMany) "TooMany.__init__" = true)
    {ccl_TooMany v0_TooMany v1_TooMany : Value} {cdd_TooMany : Option Addr} {vr_TooMany : List Value} {ccs_TooMany : Array (Option Value)} {file_TooMany : Str} {tf_TooMany : Tok} (xh_TooMany : K.lookup cda_TooMany = some ⟨ccl_TooMany, cdd_TooMany, .fields ⟨v0_TooMany :: v1_TooMany :: .str file_TooMany tf_TooMany :: vr_TooMany⟩, ccs_TooMany⟩) (xi_TooMany : ((l.prog.main.file : Str) == file_TooMany) = true)
    {cl_TooMany : Value} {cld_TooMany : Option Addr} {csl_TooMany : Array (Option Value)} (xj_TooMany : K.lookup cc_TooMany = some ⟨cl_TooMany, cld_TooMany, .cell (some (.ref C_TooMany)), csl_TooMany⟩)
    (xn_TooMany_what : PySem.W.findIn K (.ref C_TooMany) "what" = some none)
    (xn_TooMany_limit : PySem.W.findIn K (.ref C_TooMany) "limit" = some none)
    (ntop : (l.prog.main.scope.names.lookup ("super" : Str)).isSome = false)
    : ∃ fd : FuncData, (∀ (s : Shared) (v : Value), BindsTo s fd ⟨[v], []⟩ [("script", v)]) ∧ ∀ base : Heap, K.In base → base.Ns mainGlobals mg → FnOk l.prog w K mg base CX0 9 fa fd ["script"] (sp_law K) := by
  have e := hfa.symm.trans (PySem.W.mg_of X G a21)
  cases e
  have M : Mg mg := { NotImplemented := PySem.W.mg_none_of X G z_NotImplemented, ValueError := PySem.W.mg_none_of X G z_ValueError, all := PySem.W.mg_none_of X G z_all, bool := PySem.W.mg_none_of X G z_bool, enumerate := PySem.W.mg_none_of X G z_enumerate, int := PySem.W.mg_none_of X G z_int, isinstance := PySem.W.mg_none_of X G z_isinstance, len := PySem.W.mg_none_of X G z_len, list := PySem.W.mg_none_of X G z_list, max := PySem.W.mg_none_of X G z_max, min := PySem.W.mg_none_of X G z_min, range := PySem.W.mg_none_of X G z_range, str := PySem.W.mg_none_of X G z_str, sum := PySem.W.mg_none_of X G z_sum, tuple := PySem.W.mg_none_of X G z_tuple }
  have k_BusError : clsA K "BusError" = C_BusError := clsA_of ea_BusError
  have k_BadRule : clsA K "BadRule" = C_BadRule := clsA_of ea_BadRule
  have k_BadWord : clsA K "BadWord" = C_BadWord := clsA_of ea_BadWord
  have k_TooMany : clsA K "TooMany" = C_TooMany := clsA_of ea_TooMany
  have E_BusError : ExF K mg "BusError" := by
    refine ⟨?_, ?_, ?_, ?_, ?_, ?_, ?_, ?_⟩ <;> rw [k_BusError] <;> (try rw [k_BusError])
    · exact PySem.W.mg_of X G ea_BusError
    · exact ⟨eb_BusError, ec_BusError, ed_BusError, ee_BusError⟩
    · exact ⟨eb_BusError, ec_BusError, ed_BusError, ee_BusError, ef_BusError, sn, stk, eg_BusError⟩
    · exact eh_BusError
    · exact ei_BusError
    · exact ej_BusError
    · exact ek_BusError
    · exact el_BusError
  have E_BadRule : ExF K mg "BadRule" := by
    refine ⟨?_, ?_, ?_, ?_, ?_, ?_, ?_, ?_⟩ <;> rw [k_BadRule] <;> (try rw [k_BusError])
    · exact PySem.W.mg_of X G ea_BadRule
    · exact ⟨eb_BadRule, ec_BadRule, ed_BadRule, ee_BadRule⟩
    · exact ⟨eb_BadRule, ec_BadRule, ed_BadRule, ee_BadRule, ef_BadRule, sn, stk, eg_BadRule⟩
    · exact eh_BadRule
    · exact ei_BadRule
    · exact ej_BadRule
    · exact ek_BadRule
    · exact el_BadRule
  have E_BadWord : ExF K mg "BadWord" := by
    refine ⟨?_, ?_, ?_, ?_, ?_, ?_, ?_, ?_⟩ <;> rw [k_BadWord] <;> (try rw [k_BusError])
    · exact PySem.W.mg_of X G ea_BadWord
    · exact ⟨eb_BadWord, ec_BadWord, ed_BadWord, ee_BadWord⟩
    · exact ⟨eb_BadWord, ec_BadWord, ed_BadWord, ee_BadWord, ef_BadWord, sn, stk, eg_BadWord⟩
    · exact eh_BadWord
    · exact ei_BadWord
    · exact ej_BadWord
    · exact ek_BadWord
    · exact el_BadWord
  have E_TooMany : ExF K mg "TooMany" := by
    refine ⟨?_, ?_, ?_, ?_, ?_, ?_, ?_, ?_⟩ <;> rw [k_TooMany] <;> (try rw [k_BusError])
    · exact PySem.W.mg_of X G ea_TooMany
    · exact ⟨eb_TooMany, ec_TooMany, ed_TooMany, ee_TooMany⟩
    · exact ⟨eb_TooMany, ec_TooMany, ed_TooMany, ee_TooMany, ef_TooMany, sn, stk, eg_TooMany⟩
    · exact eh_TooMany
    · exact ei_TooMany
    · exact ej_TooMany
    · exact ek_TooMany
    · exact el_TooMany
  have k_Rule : clsA K "Rule" = C_Rule := clsA_of ra_Rule
  have Cl_Rule : Cls K (clsA K "Rule") := by rw [k_Rule]; exact ⟨rb_Rule, rc_Rule, rd_Rule, re_Rule⟩
  have Gx_Rule : mg "Rule" = some (.ref (clsA K "Rule")) := by rw [k_Rule]; exact PySem.W.mg_of X G ra_Rule
  have C : Cg K mg := { e_BusError := E_BusError, e_BadRule := E_BadRule, e_BadWord := E_BadWord, e_TooMany := E_TooMany, no_BadWord_BadRule := by rw [k_BadWord, k_BadRule]; exact no_BadWord_BadRule, no_BadRule_BadWord := by rw [k_BadRule, k_BadWord]; exact no_BadRule_BadWord, no_BadWord_value := by rw [k_BadWord]; exact xn_BadWord_value, no_BadRule_index := by rw [k_BadRule]; exact xn_BadRule_index, no_TooMany_what := by rw [k_TooMany]; exact xn_TooMany_what, no_TooMany_limit := by rw [k_TooMany]; exact xn_TooMany_limit, c_MOST_BOUND := ⟨_, PySem.W.mg_of X G q_MOST_BOUND⟩, c_MOST_WEIGHT := ⟨_, PySem.W.mg_of X G q_MOST_WEIGHT⟩, c_MOST_LISTED := ⟨_, PySem.W.mg_of X G q_MOST_LISTED⟩, r_Rule := ⟨Gx_Rule, Cl_Rule⟩, n_Rule_wires := by rw [k_Rule]; exact rn_Rule_wires, n_Rule_limits := by rw [k_Rule]; exact rn_Rule_limits, k_Rule_MOST_WIRES := ⟨Gx_Rule, .type "type", .int 300 tk_Rule_MOST_WIRES, by rw [k_Rule]; exact ⟨rh_Rule, ri_Rule⟩, by rw [k_Rule]; exact ⟨rk_Rule_MOST_WIRES, ⟨_, rfl⟩⟩⟩ }
  have T_BadWord : ExI l.prog K mg (clsA K "BadWord") s_BadWord "BadWord.__init__" I_BadWord (PySem.W.fnX "__init__" "BadWord.__init__" (defArgs s_BadWord) (defBody s_BadWord) (defScope s_BadWord) [("__class__", cc_BadWord)] .none kV_BadWord dc_BadWord pm_BadWord an_BadWord (.ref cda_BadWord) ct_BadWord) := by
    rw [k_BadWord]
    exact { oex := ⟨⟨_, _, _, _, _, _, _, _, _, _, _, _, _, _, _, xa_BadWord, rfl⟩, xb_BadWord, ed_BadWord, ei_BadWord, xc_BadWord⟩, iC := xd_BadWord', tI := xe_BadWord, fn := ⟨_, _, _, _, _, _, _, _, _, _, rfl, xf_BadWord, xg_BadWord, ⟨_, _, _, _, _, _, xh_BadWord, rfl, xi_BadWord⟩, _, _, _, xj_BadWord⟩, cd := eh_BadWord, sub := el_BadWord, sup := sup_of xa_BadWord xLB fB, subV := ek_BadWord, opq := opq, nsup := PySem.W.mg_none_of X G z_super, ntop := ntop }
  have T_BadRule : ExI l.prog K mg (clsA K "BadRule") s_BadRule "BadRule.__init__" I_BadRule (PySem.W.fnX "__init__" "BadRule.__init__" (defArgs s_BadRule) (defBody s_BadRule) (defScope s_BadRule) [("__class__", cc_BadRule)] .none kV_BadRule dc_BadRule pm_BadRule an_BadRule (.ref cda_BadRule) ct_BadRule) := by
    rw [k_BadRule]
    exact { oex := ⟨⟨_, _, _, _, _, _, _, _, _, _, _, _, _, _, _, xa_BadRule, rfl⟩, xb_BadRule, ed_BadRule, ei_BadRule, xc_BadRule⟩, iC := xd_BadRule', tI := xe_BadRule, fn := ⟨_, _, _, _, _, _, _, _, _, _, rfl, xf_BadRule, xg_BadRule, ⟨_, _, _, _, _, _, xh_BadRule, rfl, xi_BadRule⟩, _, _, _, xj_BadRule⟩, cd := eh_BadRule, sub := el_BadRule, sup := sup_of xa_BadRule xLB fB, subV := ek_BadRule, opq := opq, nsup := PySem.W.mg_none_of X G z_super, ntop := ntop }
  have T_TooMany : ExI l.prog K mg (clsA K "TooMany") s_TooMany "TooMany.__init__" I_TooMany (PySem.W.fnX "__init__" "TooMany.__init__" (defArgs s_TooMany) (defBody s_TooMany) (defScope s_TooMany) [("__class__", cc_TooMany)] .none kV_TooMany dc_TooMany pm_TooMany an_TooMany (.ref cda_TooMany) ct_TooMany) := by
    rw [k_TooMany]
    exact { oex := ⟨⟨_, _, _, _, _, _, _, _, _, _, _, _, _, _, _, xa_TooMany, rfl⟩, xb_TooMany, ed_TooMany, ei_TooMany, xc_TooMany⟩, iC := xd_TooMany', tI := xe_TooMany, fn := ⟨_, _, _, _, _, _, _, _, _, _, rfl, xf_TooMany, xg_TooMany, ⟨_, _, _, _, _, _, xh_TooMany, rfl, xi_TooMany⟩, _, _, _, xj_TooMany⟩, cd := eh_TooMany, sub := el_TooMany, sup := sup_of xa_TooMany xLB fB, subV := ek_TooMany, opq := opq, nsup := PySem.W.mg_none_of X G z_super, ntop := ntop }
  have G0 : Fg K mg "check_word" s_check_word := fg_of X G a0 l0 c0 k0
  have G1 : Fg K mg "limit_fits" s_limit_fits := fg_of X G a1 l1 c1 k1
  have G2 : FgI K mg "Rule" "Rule.__init__" s_Rule___init__ [.ref T0_Rule] := ⟨Gx_Rule, f2, _, ⟨⟨_, _, _, _, _, _, _, _, _, _, rfl, l2, c2, .inr ⟨by simp, T_Rule, _, [.ref T0_Rule], _, rfl, ta_Rule, rfl, .cons rfl .nil⟩, .inl rfl⟩, k2⟩, by rw [k_Rule]; exact ⟨rf_Rule, a2, i2, rg_Rule⟩⟩
  have G3 : FgM K "Rule" "loads" "Rule.loads" s_Rule_loads := ⟨Cl_Rule, f3, _, fun_mk l3 c3 k3, by rw [k_Rule]; exact ⟨a3, i3, k3⟩⟩
  have G4 : FgM K "Rule" "allows" "Rule.allows" s_Rule_allows := ⟨Cl_Rule, f4, _, fun_mk l4 c4 k4, by rw [k_Rule]; exact ⟨a4, i4, k4⟩⟩
  have G5 : FgM K "Rule" "allows_step" "Rule.allows_step" s_Rule_allows_step := ⟨Cl_Rule, f5, _, fun_mk l5 c5 k5, by rw [k_Rule]; exact ⟨a5, i5, k5⟩⟩
  have G6 : FgM K "Rule" "__contains__" "Rule.__contains__" s_Rule___contains__ := ⟨Cl_Rule, f6, _, fun_mk l6 c6 k6, by rw [k_Rule]; exact ⟨a6, i6, k6⟩⟩
  have G7 : Fg K mg "allowed_sets" s_allowed_sets := fg_of X G a7 l7 c7 k7
  have G8 : Fg K mg "_law_pool" s__law_pool := fg_of X G a8 l8 c8 k8
  have G9 : Fg K mg "_law_take" s__law_take := fg_of X G a9 l9 c9 k9
  have G10 : Fg K mg "_law_mask" s__law_mask := fg_of X G a10 l10 c10 k10
  have G11 : Fg K mg "_law_limits" s__law_limits := fg_of X G a11 l11 c11 k11
  have G12 : Fg K mg "_law_due" s__law_due := fg_of X G a12 l12 c12 k12
  have G13 : Fg K mg "_law_ints" s__law_ints := fg_of X G a13 l13 c13 k13
  have G14 : Fg K mg "_law_listed" s__law_listed := fg_of X G a14 l14 c14 k14
  have G15 : Fg K mg "_law_told_word" s__law_told_word := fg_of X G a15 l15 c15 k15
  have G16 : Fg K mg "_law_told_rule" s__law_told_rule := fg_of X G a16 l16 c16 k16
  have G17 : Fg K mg "_law_bad_limit" s__law_bad_limit := fg_of X G a17 l17 c17 k17
  have G18 : Fg K mg "_law_kept" s__law_kept := fg_of X G a18 l18 c18 k18
  have G19 : Fg K mg "_law_asked" s__law_asked := fg_of X G a19 l19 c19 k19
  have G20 : Fg K mg "_law_widest" s__law_widest := fg_of X G a20 l20 c20 k20
  have G21 : Fg K mg "law" s_law := fg_of X G a21 l21 c21 k21
  refine ⟨PySem.W.fnOf "law" "law" (defArgs s_law) (defBody s_law) (defScope s_law) .none kV21 dc21 pm21 an21 cd21 ct21, fun s v => .of_eq rfl, fun base hK hN => ?_⟩
  have X_BadWord := xd_BadWord (P := l.prog) (w := w) (base := base) M E_BadWord.g T_BadWord (by rw [k_BadWord]; exact xn_BadWord_value)
  have X_BadRule := xd_BadRule (P := l.prog) (w := w) (base := base) M E_BadRule.g T_BadRule (by rw [k_BadRule]; exact xn_BadRule_index)
  have X_TooMany := xd_TooMany (P := l.prog) (w := w) (base := base) M E_TooMany.g T_TooMany (by rw [k_TooMany]; exact xn_TooMany_what) (by rw [k_TooMany]; exact xn_TooMany_limit)
  have D_check_word := dn_check_word (P := l.prog) (w := w) (base := base) M C G0 X_BadWord
  have D_limit_fits := dn_limit_fits (P := l.prog) (w := w) (base := base) M C G1
  have DD_Rule___init__ := dn_Rule___init__ (P := l.prog) (w := w) (base := base) M C G2 D_limit_fits X_BadRule
  have D_Rule___init__ := DD_Rule___init__.1
  have D_Rule___init___e : ∃ T0 : Addr, (∀ H, SqT K H T0 []) ∧ DnI l.prog w K mg base (L2.CX l.prog w) "Rule" 3 [.ref T0] (sp_Rule___init__ K) := ⟨T0_Rule, fun H => .inr ⟨_, _, _, tb_Rule, rfl, rfl, by decide, .nil⟩, DD_Rule___init__.2⟩
  have D_Rule_loads := dn_Rule_loads (P := l.prog) (w := w) (base := base) M C G3 D_check_word
  have D_Rule_allows := dn_Rule_allows (P := l.prog) (w := w) (base := base) M C G4 D_Rule_loads
  have D_Rule_allows_step := dn_Rule_allows_step (P := l.prog) (w := w) (base := base) M C G5 D_check_word D_Rule_allows
  have D_Rule___contains__ := dn_Rule___contains__ (P := l.prog) (w := w) (base := base) M C G6 D_Rule_allows
  have D_allowed_sets := dn_allowed_sets (P := l.prog) (w := w) (base := base) M C G7 D_Rule_allows X_TooMany
  have D__law_pool := dn__law_pool (P := l.prog) (w := w) (base := base) M C G8
  have D__law_take := dn__law_take (P := l.prog) (w := w) (base := base) M C G9
  have D__law_mask := dn__law_mask (P := l.prog) (w := w) (base := base) M C G10 D__law_take
  have D__law_limits := dn__law_limits (P := l.prog) (w := w) (base := base) M C G11 D__law_take D__law_mask
  have D__law_due := dn__law_due (P := l.prog) (w := w) (base := base) M C G12
  have D__law_ints := dn__law_ints (P := l.prog) (w := w) (base := base) M C G13
  have D__law_listed := dn__law_listed (P := l.prog) (w := w) (base := base) M C G14 D__law_ints D_allowed_sets D__law_due
  have D__law_told_word := dn__law_told_word (P := l.prog) (w := w) (base := base) M C G15 D_Rule_allows D_Rule_loads D_Rule_allows_step D_Rule___contains__
  have D__law_told_rule := dn__law_told_rule (P := l.prog) (w := w) (base := base) M C G16 D_Rule___init__
  have D__law_bad_limit := dn__law_bad_limit (P := l.prog) (w := w) (base := base) M C G17 D__law_take
  have D__law_kept := dn__law_kept (P := l.prog) (w := w) (base := base) M C G18
  have D__law_asked := dn__law_asked (P := l.prog) (w := w) (base := base) M C G19 D__law_due D_Rule_loads D__law_ints D_Rule_allows D_Rule_allows_step D_Rule___contains__
  have D__law_widest := dn__law_widest (P := l.prog) (w := w) (base := base) M C G20 D__law_take D_Rule___init__ D__law_kept D__law_mask D__law_told_rule D__law_asked D__law_listed
  exact ok_law (P := l.prog) (w := w) (base := base) M C (fun_mk l21 c21 k21) D__law_pool D__law_take D__law_limits D_Rule___init__ D_Rule___init___e D__law_mask D__law_listed D__law_told_rule D__law_kept D__law_widest D__law_asked D__law_told_word D__law_bad_limit
end Lw
open PySem PySem.W PyProof.Rows
set_option maxHeartbeats 0 in
theorem PySem.Challenge.cw_fewturnatonce_k00_sets_allowed_by_limits_holds : PySem.Challenge.rw_fewturnatonce_k00_sets_allowed_by_limits.Holds := by
  w_on; o_law; k_head; (case hw => w_witness2)
  k_fill
  refine L2.walk_of (l := PySem.Challenge.rw_fewturnatonce_k00_sets_allowed_by_limits) (n := 63) (k := 9) (x := "script") (CX := fun _ => L2.CX0) (sp := fun w => Lw.sp_law _) rfl (by decide) rfl ⟨rfl, by decide, by decide⟩ (fun w h Y => PySem.W.kIn_of Y) ?F (fun _ _ a ns hl _ hS => ⟨a, ns, rfl, hS, hl, fun _ => rfl⟩) (fun _ _ _ _ _ h => h)
  case F =>
    intro w mg fa h KX G hmg
    refine' Lw.all_mk KX G hmg ?ra_Rule ?rb_Rule ?rc_Rule ?rd_Rule ?re_Rule ?rf_Rule ?rg_Rule ?rn_Rule_wires ?rn_Rule_limits ?rh_Rule ?ri_Rule ?rk_Rule_MOST_WIRES ?a0 ?l0 ?c0 ?k0 ?a1 ?l1 ?c1 ?k1 ?a2 ?l2 ?c2 ?k2 ?i2 ?ta_Rule ?tb_Rule ?a3 ?l3 ?c3 ?k3 ?i3 ?a4 ?l4 ?c4 ?k4 ?i4 ?a5 ?l5 ?c5 ?k5 ?i5 ?a6 ?l6 ?c6 ?k6 ?i6 ?a7 ?l7 ?c7 ?k7 ?a8 ?l8 ?c8 ?k8 ?a9 ?l9 ?c9 ?k9 ?a10 ?l10 ?c10 ?k10 ?a11 ?l11 ?c11 ?k11 ?a12 ?l12 ?c12 ?k12 ?a13 ?l13 ?c13 ?k13 ?a14 ?l14 ?c14 ?k14 ?a15 ?l15 ?c15 ?k15 ?a16 ?l16 ?c16 ?k16 ?a17 ?l17 ?c17 ?k17 ?a18 ?l18 ?c18 ?k18 ?a19 ?l19 ?c19 ?k19 ?a20 ?l20 ?c20 ?k20 ?a21 ?l21 ?c21 ?k21 ?z_NotImplemented ?z_ValueError ?z_all ?z_bool ?z_enumerate ?z_int ?z_isinstance ?z_len ?z_list ?z_max ?z_min ?z_range ?z_str ?z_sum ?z_tuple ?q_MOST_BOUND ?q_MOST_WEIGHT ?q_MOST_LISTED ?sn ?stk ?ea_BusError ?eb_BusError ?ec_BusError ?ed_BusError ?ee_BusError ?ef_BusError ?eg_BusError ?eh_BusError ?ei_BusError ?ej_BusError ?ek_BusError ?el_BusError ?ea_BadRule ?eb_BadRule ?ec_BadRule ?ed_BadRule ?ee_BadRule ?ef_BadRule ?eg_BadRule ?eh_BadRule ?ei_BadRule ?ej_BadRule ?ek_BadRule ?el_BadRule ?ea_BadWord ?eb_BadWord ?ec_BadWord ?ed_BadWord ?ee_BadWord ?ef_BadWord ?eg_BadWord ?eh_BadWord ?ei_BadWord ?ej_BadWord ?ek_BadWord ?el_BadWord ?ea_TooMany ?eb_TooMany ?ec_TooMany ?ed_TooMany ?ee_TooMany ?ef_TooMany ?eg_TooMany ?eh_TooMany ?ei_TooMany ?ej_TooMany ?ek_TooMany ?el_TooMany ?no_BadWord_BadRule ?no_BadRule_BadWord ?opq ?z_super ?fB ?xLB ?xa_BadWord ?xb_BadWord ?xc_BadWord ?xd_BadWord' ?xe_BadWord ?xf_BadWord ?xg_BadWord ?xh_BadWord ?xi_BadWord ?xj_BadWord ?xn_BadWord_value ?xa_BadRule ?xb_BadRule ?xc_BadRule ?xd_BadRule' ?xe_BadRule ?xf_BadRule ?xg_BadRule ?xh_BadRule ?xi_BadRule ?xj_BadRule ?xn_BadRule_index ?xa_TooMany ?xb_TooMany ?xc_TooMany ?xd_TooMany' ?xe_TooMany ?xf_TooMany ?xg_TooMany ?xh_TooMany ?xi_TooMany ?xj_TooMany ?xn_TooMany_what ?xn_TooMany_limit ?ntop
    (case ra_Rule => k_is)
    (case rb_Rule => k_is)
    (case rc_Rule => k_is)
    (case rd_Rule => k_is)
    (case re_Rule => k_is)
    (case rf_Rule => k_is)
    (case rg_Rule => k_is)
    (case rn_Rule_wires => k_is)
    (case rn_Rule_limits => k_is)
    (case rh_Rule => k_is)
    (case ri_Rule => k_is)
    (case rk_Rule_MOST_WIRES => k_is)
    (case a0 => k_is)
    (case l0 => k_is)
    (case c0 => k_is)
    (case k0 => k_is)
    (case a1 => k_is)
    (case l1 => k_is)
    (case c1 => k_is)
    (case k1 => k_is)
    (case a2 => k_is)
    (case l2 => k_is)
    (case c2 => k_is)
    (case k2 => k_is)
    (case i2 => k_is)
    (case ta_Rule => k_is)
    (case tb_Rule => k_is)
    (case a3 => k_is)
    (case l3 => k_is)
    (case c3 => k_is)
    (case k3 => k_is)
    (case i3 => k_is)
    (case a4 => k_is)
    (case l4 => k_is)
    (case c4 => k_is)
    (case k4 => k_is)
    (case i4 => k_is)
    (case a5 => k_is)
    (case l5 => k_is)
    (case c5 => k_is)
    (case k5 => k_is)
    (case i5 => k_is)
    (case a6 => k_is)
    (case l6 => k_is)
    (case c6 => k_is)
    (case k6 => k_is)
    (case i6 => k_is)
    (case a7 => k_is)
    (case l7 => k_is)
    (case c7 => k_is)
    (case k7 => k_is)
    (case a8 => k_is)
    (case l8 => k_is)
    (case c8 => k_is)
    (case k8 => k_is)
    (case a9 => k_is)
    (case l9 => k_is)
    (case c9 => k_is)
    (case k9 => k_is)
    (case a10 => k_is)
    (case l10 => k_is)
    (case c10 => k_is)
    (case k10 => k_is)
    (case a11 => k_is)
    (case l11 => k_is)
    (case c11 => k_is)
    (case k11 => k_is)
    (case a12 => k_is)
    (case l12 => k_is)
    (case c12 => k_is)
    (case k12 => k_is)
    (case a13 => k_is)
    (case l13 => k_is)
    (case c13 => k_is)
    (case k13 => k_is)
    (case a14 => k_is)
    (case l14 => k_is)
    (case c14 => k_is)
    (case k14 => k_is)
    (case a15 => k_is)
    (case l15 => k_is)
    (case c15 => k_is)
    (case k15 => k_is)
    (case a16 => k_is)
    (case l16 => k_is)
    (case c16 => k_is)
    (case k16 => k_is)
    (case a17 => k_is)
    (case l17 => k_is)
    (case c17 => k_is)
    (case k17 => k_is)
    (case a18 => k_is)
    (case l18 => k_is)
    (case c18 => k_is)
    (case k18 => k_is)
    (case a19 => k_is)
    (case l19 => k_is)
    (case c19 => k_is)
    (case k19 => k_is)
    (case a20 => k_is)
    (case l20 => k_is)
    (case c20 => k_is)
    (case k20 => k_is)
    (case a21 => k_is)
    (case l21 => k_is)
    (case c21 => k_is)
    (case k21 => k_is)
    (case z_NotImplemented => k_is)
    (case z_ValueError => k_is)
    (case z_all => k_is)
    (case z_bool => k_is)
    (case z_enumerate => k_is)
    (case z_int => k_is)
    (case z_isinstance => k_is)
    (case z_len => k_is)
    (case z_list => k_is)
    (case z_max => k_is)
    (case z_min => k_is)
    (case z_range => k_is)
    (case z_str => k_is)
    (case z_sum => k_is)
    (case z_tuple => k_is)
    (case q_MOST_BOUND => k_is)
    (case q_MOST_WEIGHT => k_is)
    (case q_MOST_LISTED => k_is)
    (case sn => k_is)
    (case stk => k_is)
    (case ea_BusError => k_is)
    (case eb_BusError => k_is)
    (case ec_BusError => k_is)
    (case ed_BusError => k_is)
    (case ee_BusError => k_is)
    (case ef_BusError => k_is)
    (case eg_BusError => k_is)
    (case eh_BusError => k_is)
    (case ei_BusError => k_is)
    (case ej_BusError => k_is)
    (case ek_BusError => k_is)
    (case el_BusError => k_is)
    (case ea_BadRule => k_is)
    (case eb_BadRule => k_is)
    (case ec_BadRule => k_is)
    (case ed_BadRule => k_is)
    (case ee_BadRule => k_is)
    (case ef_BadRule => k_is)
    (case eg_BadRule => k_is)
    (case eh_BadRule => k_is)
    (case ei_BadRule => k_is)
    (case ej_BadRule => k_is)
    (case ek_BadRule => k_is)
    (case el_BadRule => k_is)
    (case ea_BadWord => k_is)
    (case eb_BadWord => k_is)
    (case ec_BadWord => k_is)
    (case ed_BadWord => k_is)
    (case ee_BadWord => k_is)
    (case ef_BadWord => k_is)
    (case eg_BadWord => k_is)
    (case eh_BadWord => k_is)
    (case ei_BadWord => k_is)
    (case ej_BadWord => k_is)
    (case ek_BadWord => k_is)
    (case el_BadWord => k_is)
    (case ea_TooMany => k_is)
    (case eb_TooMany => k_is)
    (case ec_TooMany => k_is)
    (case ed_TooMany => k_is)
    (case ee_TooMany => k_is)
    (case ef_TooMany => k_is)
    (case eg_TooMany => k_is)
    (case eh_TooMany => k_is)
    (case ei_TooMany => k_is)
    (case ej_TooMany => k_is)
    (case ek_TooMany => k_is)
    (case el_TooMany => k_is)
    (case no_BadWord_BadRule => k_is)
    (case no_BadRule_BadWord => k_is)
    (case opq => k_is)
    (case z_super => k_is)
    (case fB => k_is)
    (case xLB => k_is)
    (case xa_BadWord => k_is)
    (case xb_BadWord => k_is)
    (case xc_BadWord => k_is)
    (case xd_BadWord' => k_is)
    (case xe_BadWord => k_is)
    (case xf_BadWord => k_is)
    (case xg_BadWord => k_is)
    (case xh_BadWord => k_is)
    (case xi_BadWord => decide +kernel)
    (case xj_BadWord => k_is)
    (case xn_BadWord_value => k_is)
    (case xa_BadRule => k_is)
    (case xb_BadRule => k_is)
    (case xc_BadRule => k_is)
    (case xd_BadRule' => k_is)
    (case xe_BadRule => k_is)
    (case xf_BadRule => k_is)
    (case xg_BadRule => k_is)
    (case xh_BadRule => k_is)
    (case xi_BadRule => decide +kernel)
    (case xj_BadRule => k_is)
    (case xn_BadRule_index => k_is)
    (case xa_TooMany => k_is)
    (case xb_TooMany => k_is)
    (case xc_TooMany => k_is)
    (case xd_TooMany' => k_is)
    (case xe_TooMany => k_is)
    (case xf_TooMany => k_is)
    (case xg_TooMany => k_is)
    (case xh_TooMany => k_is)
    (case xi_TooMany => decide +kernel)
    (case xj_TooMany => k_is)
    (case xn_TooMany_what => k_is)
    (case xn_TooMany_limit => k_is)
    (case ntop => decide +kernel)
