import PyProof.Rows.All
import Wide.All
import OpenK.AllK
import Wide.FinOn
import KE.KStateDown
import Lean
import HandS.ForMost
import HandS.Wide
import HandS.WideBits
import HandS.Flow
import HandS.Style
import HandS.IsInst
import HandS.Defaults
import HandS.Head0
import HandS.Head1
import HandS.Head2
import HandS.HeadEnd
import HandS.HeadHook1
import HandS.HeadHook2
import HandS.HeadHook3
import PySem.Challenge.RW_walkmade_k41_whole_rounds_as_equations
set_option Elab.async false
set_option linter.all false
set_option maxRecDepth 100000
set_option maxHeartbeats 4000000
/-! my walk kit over the hand layer -/
namespace WK
open PySem PySem.Spec PyProof.Rows L2

abbrev Sg := L2.St
/-! ### a def by its name -/
structure Kn (P : Program) (w : World) (K : PySem.W.Frag) (mg : Str → Option Value) (base : Heap) (k : Nat) (x : Str) (ps : List Str) (sp : Sp) : Prop where
  ex : ∃ (f : Addr) (fd : FuncData), FnOk P w K mg base CX0 k f fd ps sp ∧ mg x = some (.ref f) ∧ PySem.W.keepIn K (.ref f) = true ∧ Binds K fd ps []
section
variable {X : Cx} {k : Nat} {sp : Sp} {ps : List Str} {x : Str} {p pos : Pos} {e : Expr} {es : List Expr} {t : TA}
theorem pc (F : Kn X.prog X.w X.K X.mg X.base k x ps sp) (hr : Room k X.A) (ha : PA X (e :: es) t) (hg : Gl X x := by rfl)
    (hdb : (x == ("__debug__" : Str)) = false := by decide) (he : starEach (e :: es) X.env = (false, eval e X.env) :: starEach es X.env := by rfl) (hpl : (backTo pos (starEach es X.env)).any (·.1) = false := by rfl) :
    PE X (.Call (.Name x p) (e :: es) [] pos) (tCall sp [] E0 t) := by
  obtain ⟨f, fd, F, hm, hk, hb⟩ := F.ex
  exact pe_call F hr hg hm hk hb .nil pass0 ha hdb he hpl
theorem pc0 (F : Kn X.prog X.w X.K X.mg X.base k x ps sp) (hr : Room k X.A) (hg : Gl X x := by rfl) (hdb : (x == ("__debug__" : Str)) = false := by decide) :
    PE X (.Call (.Name x p) [] [] pos) (tCall sp [] E0 tNil) := by
  obtain ⟨f, fd, F, hm, hk, hb⟩ := F.ex
  exact pe_call0 F hr hg hm hk hb .nil pass0 hdb
end
section
variable {P : Program} {w : World} {K : PySem.W.Frag} {mg : Str → Option Value} {base : Heap}
theorem kn_mk {x qual : Str} {params : Arguments} {body : List Stmt} {scope : Scope} {f : Addr} {fd : FuncData} {N ps : List Str} {k : Nat} {sp : Sp} (F : FunD K x qual params body scope [] [] f fd) (hm : mg x = some (.ref f)) (S : FnScope N ps scope)
    (bd : ∀ (kV doc pm : Value) (an : Option Addr) (cdv ct : Value) (us : List Value), us.length = ps.length → bindArgs (PySem.W.fnOf x qual params body scope .none kV doc pm an cdv ct) ⟨us, []⟩ = pure (ps.zip us))
    (len : ∀ vs H Q E, sp vs H Q E → vs.length = ps.length)
    (hbody : ∀ (cdv : Value) (A : Around) (outer : List Env) (s : Shared) (H : Hp) (vs : List V) (Q : VK) (E : XK), Room k (A.deeper (envOfC qual scope s.heap.objs.size f cdv)) → sp vs H Q E →
      ∃ t, PSs (cxOf CX0 P w K mg base N qual scope f cdv A outer s H E).nox body t ∧ t { nx := fun _ H' => Q .non H', rt := Q } (start N vs) H) : Kn P w K mg base (k + 1) x ps sp :=
  ⟨f, fd, F.ok S len fun cdv A outer s H vs Q E hr h => by
    obtain ⟨t, ht, q⟩ := hbody cdv A outer s H vs Q E hr h
    exact ⟨t, ht.nox, q⟩, hm, F.kp, F.bindsN bd⟩
end

/-! ### expressions -/
section
variable {X : Cx} {x : Str} {pos : Pos} {e : Expr} {t : TE}
theorem pe_gi {i : Int} (h : ∃ t, X.mg x = some (.int i t)) (hg : Gl X x := by rfl) (hd : (x == ("__debug__" : Str)) = false := by decide) : PE X (.Name x pos) (tC (.int i)) := by
  obtain ⟨t, h⟩ := h
  exact pe_glob hg h ⟨t, rfl⟩ hd
theorem pe_gs {z : Str} (h : ∃ t, X.mg x = some (.str z t)) (hg : Gl X x := by rfl) (hd : (x == ("__debug__" : Str)) = false := by decide) : PE X (.Name x pos) (tC (.str z)) := by
  obtain ⟨t, h⟩ := h
  exact pe_glob hg h ⟨t, rfl⟩ hd
theorem pe_gr {a : Addr} (h : X.mg x = some (.ref a)) (hg : Gl X x := by rfl) (hd : (x == ("__debug__" : Str)) = false := by decide) : PE X (.Name x pos) (tC (.ref a)) := pe_glob hg h rfl hd
/-- an expression that is always one value -/
theorem pe_k {v : V} (h : PE X e t) (hv : ∀ σ H Q, Q v H → t σ H Q) : PE X e (tC v) := ⟨fun pins s σ H Q I q => h.run pins s σ H Q I (hv σ H Q q)⟩
end
theorem k_pow {i j r : Int} (c : CPow i j := by exact ⟨by decide, by decide, by decide⟩) (h : i ^ j.toNat = r := by decide) : ∀ (σ : Sg) (H : Hp) (Q : VK), Q (.int r) H → tOp (rI CPow fun i j => .int (i ^ j.toNat)) (tC (.int i)) (tC (.int j)) σ H Q := fun σ H Q q => ⟨i, j, rfl, rfl, c, by show Q (.int (i ^ j.toNat)) H; rw [h]; exact q⟩
theorem k_shl {i j r : Int} (c : CPow i j := by exact ⟨by decide, by decide, by decide⟩) (h : i * 2 ^ j.toNat = r := by decide) : ∀ (σ : Sg) (H : Hp) (Q : VK), Q (.int r) H → tOp (rI CPow fun i j => .int (i * 2 ^ j.toNat)) (tC (.int i)) (tC (.int j)) σ H Q := fun σ H Q q => ⟨i, j, rfl, rfl, c, by show Q (.int (i * 2 ^ j.toNat)) H; rw [h]; exact q⟩
theorem k_sub {i j r : Int} (h : i - j = r := by decide) : ∀ (σ : Sg) (H : Hp) (Q : VK), Q (.int r) H → tOp (rI0 fun i j => .int (i - j)) (tC (.int i)) (tC (.int j)) σ H Q := fun σ H Q q => ⟨i, j, rfl, rfl, by show Q (.int (i - j)) H; rw [h]; exact q⟩
theorem k_add {i j r : Int} (h : i + j = r := by decide) : ∀ (σ : Sg) (H : Hp) (Q : VK), Q (.int r) H → tOp (rI0 fun i j => .int (i + j)) (tC (.int i)) (tC (.int j)) σ H Q := fun σ H Q q => ⟨i, j, rfl, rfl, by show Q (.int (i + j)) H; rw [h]; exact q⟩
theorem k_mul {i j r : Int} (c : CMul i j := by first | exact .inl ⟨by decide, by decide⟩ | exact .inr ⟨by decide, by decide⟩) (h : i * j = r := by decide) : ∀ (σ : Sg) (H : Hp) (Q : VK), Q (.int r) H → tOp (rI CMul fun i j => .int (i * j)) (tC (.int i)) (tC (.int j)) σ H Q := fun σ H Q q => ⟨i, j, rfl, rfl, c, by show Q (.int (i * j)) H; rw [h]; exact q⟩

/-! ### readings, step by step -/
section
variable {σ : Sg} {H H1 H2 : Hp} {Q : VK} {QB : Bool → Hp → Prop} {QA : List V → Hp → Prop} {D : Ends} {t u : TS} {te ta tb tc : TE} {tt tu : TT} {g : TG} {v x y : V} {i j : Nat} {r r' : R2} {ru : V → Hp → VK → Prop} {rc : List V → Hp → VK → Prop} {ar br : TA} {a b : Int} {K : PySem.W.Frag} {p q : Addr}
theorem g_seq (h : t { D with nx := u D } σ H) : tSeq t u D σ H := h
theorem g_next (h : D.nx σ H) : tNext D σ H := h
theorem g_brk (h : D.bk σ H) : tBreak D σ H := h
theorem g_cont (h : D.ct σ H) : tCont D σ H := h
theorem g_drop (h : te σ H fun _ H1 => D.nx σ H1) : tDrop te D σ H := h
theorem g_asg (h : te σ H fun x H1 => g x σ H1 D.nx) : tAsg te g D σ H := h
theorem g_name {QS : Sg → Hp → Prop} (h : QS (σ.set i (some v)) H) : gName i v σ H QS := h
theorem g_sub {QS : Sg → Hp → Prop} {to ti : TE} {ts : TSet} (h : to σ H fun o H1 => ti σ H1 fun i H2 => ts o i v H2 fun H3 => QS σ H3) : gSub to ti ts v σ H QS := h
theorem g_tup {QS : Sg → Hp → Prop} {n : Nat} {gs : TGs} {xs : List V} (h : SqT K H p xs) (hn : xs.length = n) (k : gs xs σ H QS) : gTup K n gs (.ref p) σ H QS := ⟨p, xs, rfl, h, hn, k⟩
theorem g_gnil {QS : Sg → Hp → Prop} (h : QS σ H) : gNil [] σ H QS := ⟨rfl, h⟩
theorem g_gcons {QS : Sg → Hp → Prop} {gs : TGs} {xs : List V} (h : g v σ H fun σ' H' => gs xs σ' H' QS) : gCons g gs (v :: xs) σ H QS := ⟨v, xs, rfl, h⟩
theorem g_ret (h : te σ H D.rt) : tRet te D σ H := h
theorem g_retN (h : D.rt .non H) : tRetN D σ H := h
theorem g_if (h : tt σ H fun b H1 => if b = true then t D σ H1 else u D σ H1) : tIfS tt t u D σ H := h
theorem g_par (h : ar σ H fun vs H1 => ∃ v w, vs = [v, w] ∧ D.nx ((σ.set i (some v)).set j (some w)) H1) : tPar i j ar D σ H := h
theorem g_par_ {v w : V} {R : V → V → Prop} (h : R v w) : ∃ v' w', [v, w] = [v', w'] ∧ R v' w' := ⟨v, w, rfl, h⟩
theorem g_par3 {l : Nat} (h : ar σ H fun vs H1 => ∃ u v w, vs = [u, v, w] ∧ D.nx (((σ.set i (some u)).set j (some v)).set l (some w)) H1) : tPar3 i j l ar D σ H := h
theorem g_par3_ {u v w : V} {R : V → V → V → Prop} (h : R u v w) : ∃ u' v' w', [u, v, w] = [u', v', w'] ∧ R u' v' w' := ⟨u, v, w, rfl, h⟩
theorem g_var (e : σ[i]? = some (some v)) (h : Q v H) : tVar i σ H Q := ⟨v, e, h⟩
theorem g_c (h : Q v H) : tC v σ H Q := h
theorem g_op (h : ta σ H fun x H1 => tb σ H1 fun y H2 => r x y H2 Q) : tOp r ta tb σ H Q := h
theorem g_un (h : ta σ H fun x H1 => ru x H1 Q) : tUn ru ta σ H Q := h
theorem g_i0 {f : Int → Int → V} (h : Q (f a b) H) : rI0 f (.int a) (.int b) H Q := ⟨a, b, rfl, rfl, h⟩
theorem g_iC {C : Int → Int → Prop} {f : Int → Int → V} (c : C a b) (h : Q (f a b) H) : rI C f (.int a) (.int b) H Q := ⟨a, b, rfl, rfl, c, h⟩
theorem g_uI {f : Int → V} (h : Q (f a) H) : rU f (.int a) H Q := ⟨a, rfl, h⟩
theorem g_eqI (h : Q (.bl (decide (a = b))) H) : rEq (.int a) (.int b) H Q := ⟨rfl, by
  have e : decide (V.int a = V.int b) = decide (a = b) := by
    by_cases z : a = b
    · rw [z]; simp
    · rw [decide_eq_false z]; exact decide_eq_false fun q => z (V.int.inj q)
  rw [e]; exact h⟩
theorem g_neI (h : Q (.bl (!decide (a = b))) H) : rNe (.int a) (.int b) H Q := ⟨rfl, by
  have e : decide (V.int a = V.int b) = decide (a = b) := by
    by_cases z : a = b
    · rw [z]; simp
    · rw [decide_eq_false z]; exact decide_eq_false fun q => z (V.int.inj q)
  rw [e]; exact h⟩
theorem g_eqS {a b : Str} (h : Q (.bl (decide (a = b))) H) : rEq (.str a) (.str b) H Q := ⟨rfl, by
  have e : decide (V.str a = V.str b) = decide (a = b) := by
    by_cases z : a = b
    · rw [z]; simp
    · rw [decide_eq_false z]; exact decide_eq_false fun q => z (V.str.inj q)
  rw [e]; exact h⟩
theorem g_neS {a b : Str} (h : Q (.bl (!decide (a = b))) H) : rNe (.str a) (.str b) H Q := ⟨rfl, by
  have e : decide (V.str a = V.str b) = decide (a = b) := by
    by_cases z : a = b
    · rw [z]; simp
    · rw [decide_eq_false z]; exact decide_eq_false fun q => z (V.str.inj q)
  rw [e]; exact h⟩
theorem g_isN (h : Q (.bl (decide (x = .non))) H) : (∃ _ : True, True) → (V.non = .non ∧ Q (.bl (decide (x = .non))) H) := fun _ => ⟨rfl, h⟩
theorem g_test (h : te σ H fun x H' => ∃ k, x = .bl k ∧ QB k H') : tTest te σ H QB := h
theorem g_tB (h : te σ H fun x H' => ∃ k, x = .bl k ∧ QB k H') : tB te σ H QB := h
theorem g_bl {k : Bool} {R : Bool → Prop} (h : R k) : ∃ k', V.bl k = .bl k' ∧ R k' := ⟨k, rfl, h⟩
theorem g_not (h : tt σ H fun c H1 => QB (!c) H1) : tNot tt σ H QB := h
theorem g_and (h : tt σ H fun c H1 => if c = true then tu σ H1 QB else QB false H1) : tAnd tt tu σ H QB := h
theorem g_or (h : tt σ H fun c H1 => if c = true then QB true H1 else tu σ H1 QB) : tOr tt tu σ H QB := h
theorem g_andV (h : ta σ H fun x H1 => ∃ c, x = .bl c ∧ if c = true then tb σ H1 Q else Q (.bl false) H1) : tAndV ta tb σ H Q := h
theorem g_orV (h : ta σ H fun x H1 => ∃ c, x = .bl c ∧ if c = true then Q (.bl true) H1 else tb σ H1 Q) : tOrV ta tb σ H Q := h
theorem g_notV (h : ta σ H fun x H1 => ∃ c, x = .bl c ∧ Q (.bl (!c)) H1) : tNotV ta σ H Q := h
theorem g_ifE (h : tt σ H fun c H1 => if c = true then ta σ H1 Q else tb σ H1 Q) : tIf tt ta tb σ H Q := h
theorem g_chain (h : ta σ H fun x H1 => tb σ H1 fun y H2 => r x y H2 fun z H3 => ∃ k, z = .bl k ∧ (if k = true then tc σ H3 fun w' H4 => r' y w' H4 Q else Q (.bl false) H3)) : tChain r r' ta tb tc σ H Q := h
theorem g_nil (h : QA [] H) : tNil σ H QA := h
theorem g_cons (h : ta σ H fun x H1 => ar σ H1 fun xs H2 => QA (x :: xs) H2) : tCons ta ar σ H QA := h
theorem g_tupD (h : ar σ H fun xs H1 => xs.length ≤ sizeLine ∧ ∀ p, H1 p = none → Q (.ref p) (upd H1 p (.tup xs))) : tTup ar σ H Q := h
theorem g_lstD (h : ar σ H fun xs H1 => xs.length ≤ sizeLine ∧ ∀ p, H1 p = none → Q (.ref p) (upd H1 p (.lst xs))) : tLst ar σ H Q := h
theorem g_size {xs : List V} {P : Prop} (hl : xs.length ≤ 1000) (h : P) : xs.length ≤ sizeLine ∧ P := ⟨Nat.le_trans hl (by decide), h⟩
theorem g_call {sp : Sp} {dvs : List V} {E : XK} (h : ar σ H fun vs H1 => sp (vs ++ dvs) H1 Q E) : tCall sp dvs E ar σ H Q := h
theorem g_cb (h : ar σ H fun vs H1 => rc vs H1 Q) : tCB rc ar σ H Q := h
theorem g_ixT {xs : List V} (h : SqT K H p xs) (hv : atI xs a = some v) (k : Q v H) : rIxT K (.ref p) (.int a) H Q := ⟨p, xs, a, v, rfl, rfl, h, hv, k⟩
theorem g_ixL {xs : List V} (h : SqL K H p xs) (hv : atI xs a = some v) (k : Q v H) : rIxL K (.ref p) (.int a) H Q := ⟨p, xs, a, v, rfl, rfl, h, hv, k⟩
theorem g_setL {QH : Hp → Prop} {xs : List V} {n : Nat} (h : H p = some (.lst xs)) (hv : ixN xs.length a = some n) (k : QH (upd H p (.lst (xs.set n v)))) : rSetL (.ref p) (.int a) v H QH := ⟨p, xs, a, n, rfl, rfl, h, hv, k⟩
theorem g_all {R : Addr → Prop} (h : ∀ p, H p = none → R p) : ∀ p, H p = none → R p := h
theorem g_newT {R : Addr → Prop} {xs : List V} (h : ∀ p, H p = none → upd H p (.tup xs) p = some (.tup xs) → R p) : ∀ p, H p = none → upd H p (.tup xs) p = some (.tup xs) → R p := h
theorem g_newL {R : Addr → Prop} {xs : List V} (h : ∀ p, H p = none → upd H p (.lst xs) p = some (.lst xs) → R p) : ∀ p, H p = none → upd H p (.lst xs) p = some (.lst xs) → R p := h
theorem sqt_s1 {H0 : Hp} {xs : List V} (h : SqT K H0 p xs) (s : Same H0 H) : SqT K H p xs := by
  rcases h with (h | ⟨o, h⟩) | h
  · exact .inl (.inl (s _ _ h))
  · exact .inl (.inr ⟨o, s _ _ h⟩)
  · exact .inr h
theorem free2 {H0 : Hp} (h : H p = none) (s : Same H0 H) : H0 p = none := s.free h
theorem sqt_s2 {H0 : Hp} {xs : List V} (h : H0 p = some (.tup xs)) (s : Same H0 H) : SqT K H p xs := .inl (.inl (s _ _ h))
theorem sql_s1 {H0 : Hp} {xs : List V} (h : SqL K H0 p xs) (s : Same H0 H) : SqL K H p xs := s.seq h
theorem sql_s2 {H0 : Hp} {xs : List V} (h : H0 p = some (.lst xs)) (s : Same H0 H) : SqL K H p xs := .inl (.inl (s _ _ h))
theorem at_s1 {H0 : Hp} {o : HO} (h : H0 p = some o) (s : Same H0 H) : H p = some o := s p o h
theorem g_inT {xs : List V} {bb : Bool} (h : SqT K H p xs) (hx : flatV x = true) (ha : xs.all flatV = true) (e : inV x xs = bb) (k : Q (.bl bb) H) : rIn K false x (.ref p) H Q := ⟨p, xs, rfl, .inr h, hx, ha, by rw [e]; exact k⟩
theorem g_notInT {xs : List V} {bb : Bool} (h : SqT K H p xs) (hx : flatV x = true) (ha : xs.all flatV = true) (e : inV x xs = bb) (k : Q (.bl (!bb)) H) : rIn K true x (.ref p) H Q := ⟨p, xs, rfl, .inr h, hx, ha, by rw [e]; exact k⟩
theorem g_inL {xs : List V} {bb : Bool} (h : SqL K H p xs) (hx : flatV x = true) (ha : xs.all flatV = true) (e : inV x xs = bb) (k : Q (.bl bb) H) : rIn K false x (.ref p) H Q := ⟨p, xs, rfl, .inl h, hx, ha, by rw [e]; exact k⟩
/-- a test that was reckoned -/
theorem g_ite {c A B : Prop} [Decidable c] (h1 : c → A) (h2 : ¬ c → B) : if decide c = true then A else B := by
  by_cases h : c
  · rw [if_pos (decide_eq_true h)]; exact h1 h
  · rw [if_neg (by rw [decide_eq_false h]; exact Bool.false_ne_true)]; exact h2 h
theorem g_iteN {c A B : Prop} [Decidable c] (h1 : ¬ c → A) (h2 : c → B) : if (!decide c) = true then A else B := by
  by_cases h : c
  · rw [decide_eq_true h]; exact iteF (h2 h)
  · rw [decide_eq_false h]; exact iteT (h1 h)
theorem g_iteY {c A B : Prop} [Decidable c] (h : c) (h1 : A) : if decide c = true then A else B := by rw [if_pos (decide_eq_true h)]; exact h1
theorem g_iteX {c A B : Prop} [Decidable c] (h : ¬ c) (h1 : B) : if decide c = true then A else B := by rw [if_neg (by rw [decide_eq_false h]; exact Bool.false_ne_true)]; exact h1
theorem g_iteNY {c A B : Prop} [Decidable c] (h : ¬ c) (h1 : A) : if (!decide c) = true then A else B := by rw [decide_eq_false h]; exact iteT h1
theorem g_iteNX {c A B : Prop} [Decidable c] (h : c) (h1 : B) : if (!decide c) = true then A else B := by rw [decide_eq_true h]; exact iteF h1
theorem g_iT {A B : Prop} (h : A) : if true = true then A else B := by rw [if_pos rfl]; exact h
theorem g_iF {A B : Prop} (h : B) : if false = true then A else B := by rw [if_neg Bool.false_ne_true]; exact h
theorem g_iNT {A B : Prop} (h : B) : if (!true) = true then A else B := h
theorem g_iNF {A B : Prop} (h : A) : if (!false) = true then A else B := h
/-! ### heaps -/
theorem same_new {o : HO} (np : H p = none) : Same H (upd H p o) := fun b u e => by rw [upd_ne (ne_of_none e np)]; exact e
theorem same_mut {o : HO} (s : Same H H1) (np : H p = none) : Same H (upd H1 p o) := fun b u e => by rw [upd_ne (ne_of_none e np)]; exact s b u e
theorem at_same {o : HO} (s : Same H H1) (h : H p = some o) : H1 p = some o := s p o h
theorem at_new {o u : HO} (np : H p = none) (h : H q = some o) : upd H p u q = some o := by rw [upd_ne (ne_of_none h np)]; exact h
theorem sqt_same {xs : List V} (s : Same H H1) (h : SqT K H p xs) : SqT K H1 p xs := by
  rcases h with (h | ⟨o, h⟩) | h
  · exact .inl (.inl (s _ _ h))
  · exact .inl (.inr ⟨o, s _ _ h⟩)
  · exact .inr h
theorem sqt_new {xs : List V} {o : HO} (np : H p = none) (h : SqT K H q xs) : SqT K (upd H p o) q xs := sqt_same (same_new np) h
theorem sqt_of {xs : List V} (h : H p = some (.tup xs)) : SqT K H p xs := .inl (.inl h)
theorem sql_of {xs : List V} (h : H p = some (.lst xs)) : SqL K H p xs := .inl (.inl h)
theorem sql_same {xs : List V} (s : Same H H1) (h : SqL K H p xs) : SqL K H1 p xs := s.seq h
theorem sql_new {xs : List V} {o : HO} (np : H p = none) (h : SqL K H q xs) : SqL K (upd H p o) q xs := (same_new np).seq h
end
/-! ### loops -/
section
variable {σ : Sg} {H : Hp} {D : Ends} {tb : TS} {tt : TT} {g : TG} {wi : TI} {ta : TA} {te : TE} {K : PySem.W.Frag} {R : It → Hp → Prop}
/-- while: W with its measure -/
theorem g_while (W : Nat → Sg → Hp → Prop) (m0 : Nat) (h0 : W m0 σ H)
    (hs : ∀ m σ H, W m σ H → tt σ H fun b H1 => if b = true then ∃ N : Sg → Hp → Prop, (∀ σ' H', N σ' H' → ∃ m', m' < m ∧ W m' σ' H') ∧ tb { D with nx := N, ct := N, bk := D.nx } σ H1 else D.nx σ H1) : tWhile tt tb D σ H := ⟨W, ⟨m0, h0⟩, hs⟩
theorem g_wN {W : Nat → Sg → Hp → Prop} {m : Nat} (h : tb { D with nx := fun σ' H' => ∃ m', m' < m ∧ W m' σ' H', ct := fun σ' H' => ∃ m', m' < m ∧ W m' σ' H', bk := D.nx } σ H) :
    ∃ N : Sg → Hp → Prop, (∀ σ' H', N σ' H' → ∃ m', m' < m ∧ W m' σ' H') ∧ tb { D with nx := N, ct := N, bk := D.nx } σ H := ⟨_, fun _ _ n => n, h⟩
theorem g_for (h : wi σ H fun J H1 => ∃ W : Nat → Nat → Sg → Hp → Prop, (∃ m, W 0 m σ H1) ∧ ∀ i m σ H, W i m σ H →
  (J.stop i H ∧ D.nx σ H) ∨ (J.go i H ∧ ∃ N : Sg → Hp → Prop, (∀ σ' H', N σ' H' → ∃ m', m' < m ∧ W (i + 1) m' σ' H') ∧ ∀ x H', J.yld i H x H' → g x σ H' fun σ2 H2 => tb { D with nx := N, ct := N, bk := D.nx } σ2 H2)) : tFor wi g tb D σ H := h
theorem g_rng1 (h : ta σ H fun vs H1 => ∃ j : Int, vs = [.int j] ∧ -(2 ^ 62) ≤ j ∧ j < 2 ^ 62 ∧ R (Itr 0 j.toNat) H1) : iRng1 ta σ H R := h
theorem g_rng2 (h : ta σ H fun vs H1 => ∃ i j : Int, vs = [.int i, .int j] ∧ (-(2 ^ 62) ≤ i ∧ i < 2 ^ 62 ∧ -(2 ^ 62) ≤ j ∧ j < 2 ^ 62) ∧ R (Itr i (j - i).toNat) H1) : iRng2 ta σ H R := h
theorem g_iList (h : te σ H fun x H1 => ∃ a, x = .ref a ∧ (∃ xs, SqL K H1 a xs) ∧ R (Itl K a) H1) : iList K te σ H R := h
theorem g_iTup (h : te σ H fun x H1 => ∃ a, x = .ref a ∧ (∃ xs, SqT K H1 a xs) ∧ R (Itt K a) H1) : iTup K te σ H R := h
end
/-! ### readings by simp -/
section
variable {σ : Sg} {H : Hp} {Q : VK} {D : Ends} {v : V} {o : Option V} {i : Nat} {a b : Int} {C : Int → Int → Prop} {f : Int → Int → V}
theorem x_var0 : tVar 0 (some v :: σ) H Q = Q v H := by
  refine propext ⟨fun ⟨u, e, h⟩ => ?_, fun h => ⟨v, rfl, h⟩⟩
  have e2 : v = u := by simpa using e
  rw [e2]; exact h
theorem x_varS : tVar (i + 1) (o :: σ) H Q = tVar i σ H Q := by
  unfold tVar
  rw [List.getElem?_cons_succ]
theorem x_var1 {o0 : Option V} : tVar 1 (o0 :: some v :: σ) H Q = Q v H := by rw [show (1 : Nat) = 0 + 1 by rfl, x_varS, x_var0]
theorem x_var2 {o0 o1 : Option V} : tVar 2 (o0 :: o1 :: some v :: σ) H Q = Q v H := by rw [show (2 : Nat) = 1 + 1 by rfl, x_varS, x_var1]
theorem x_var3 {o0 o1 o2 : Option V} : tVar 3 (o0 :: o1 :: o2 :: some v :: σ) H Q = Q v H := by rw [show (3 : Nat) = 2 + 1 by rfl, x_varS, x_var2]
theorem x_var4 {o0 o1 o2 o3 : Option V} : tVar 4 (o0 :: o1 :: o2 :: o3 :: some v :: σ) H Q = Q v H := by rw [show (4 : Nat) = 3 + 1 by rfl, x_varS, x_var3]
theorem x_var5 {o0 o1 o2 o3 o4 : Option V} : tVar 5 (o0 :: o1 :: o2 :: o3 :: o4 :: some v :: σ) H Q = Q v H := by rw [show (5 : Nat) = 4 + 1 by rfl, x_varS, x_var4]
theorem x_var6 {o0 o1 o2 o3 o4 o5 : Option V} : tVar 6 (o0 :: o1 :: o2 :: o3 :: o4 :: o5 :: some v :: σ) H Q = Q v H := by rw [show (6 : Nat) = 5 + 1 by rfl, x_varS, x_var5]
theorem x_var7 {o0 o1 o2 o3 o4 o5 o6 : Option V} : tVar 7 (o0 :: o1 :: o2 :: o3 :: o4 :: o5 :: o6 :: some v :: σ) H Q = Q v H := by rw [show (7 : Nat) = 6 + 1 by rfl, x_varS, x_var6]
theorem x_var8 {o0 o1 o2 o3 o4 o5 o6 o7 : Option V} : tVar 8 (o0 :: o1 :: o2 :: o3 :: o4 :: o5 :: o6 :: o7 :: some v :: σ) H Q = Q v H := by rw [show (8 : Nat) = 7 + 1 by rfl, x_varS, x_var7]
theorem x_var9 {o0 o1 o2 o3 o4 o5 o6 o7 o8 : Option V} : tVar 9 (o0 :: o1 :: o2 :: o3 :: o4 :: o5 :: o6 :: o7 :: o8 :: some v :: σ) H Q = Q v H := by rw [show (9 : Nat) = 8 + 1 by rfl, x_varS, x_var8]
theorem x_var10 {o0 o1 o2 o3 o4 o5 o6 o7 o8 o9 : Option V} : tVar 10 (o0 :: o1 :: o2 :: o3 :: o4 :: o5 :: o6 :: o7 :: o8 :: o9 :: some v :: σ) H Q = Q v H := by rw [show (10 : Nat) = 9 + 1 by rfl, x_varS, x_var9]
theorem x_var11 {o0 o1 o2 o3 o4 o5 o6 o7 o8 o9 o10 : Option V} : tVar 11 (o0 :: o1 :: o2 :: o3 :: o4 :: o5 :: o6 :: o7 :: o8 :: o9 :: o10 :: some v :: σ) H Q = Q v H := by rw [show (11 : Nat) = 10 + 1 by rfl, x_varS, x_var10]
theorem x_var12 {o0 o1 o2 o3 o4 o5 o6 o7 o8 o9 o10 o11 : Option V} : tVar 12 (o0 :: o1 :: o2 :: o3 :: o4 :: o5 :: o6 :: o7 :: o8 :: o9 :: o10 :: o11 :: some v :: σ) H Q = Q v H := by rw [show (12 : Nat) = 11 + 1 by rfl, x_varS, x_var11]
theorem x_var13 {o0 o1 o2 o3 o4 o5 o6 o7 o8 o9 o10 o11 o12 : Option V} : tVar 13 (o0 :: o1 :: o2 :: o3 :: o4 :: o5 :: o6 :: o7 :: o8 :: o9 :: o10 :: o11 :: o12 :: some v :: σ) H Q = Q v H := by rw [show (13 : Nat) = 12 + 1 by rfl, x_varS, x_var12]
theorem x_var14 {o0 o1 o2 o3 o4 o5 o6 o7 o8 o9 o10 o11 o12 o13 : Option V} : tVar 14 (o0 :: o1 :: o2 :: o3 :: o4 :: o5 :: o6 :: o7 :: o8 :: o9 :: o10 :: o11 :: o12 :: o13 :: some v :: σ) H Q = Q v H := by rw [show (14 : Nat) = 13 + 1 by rfl, x_varS, x_var13]
theorem x_var15 {o0 o1 o2 o3 o4 o5 o6 o7 o8 o9 o10 o11 o12 o13 o14 : Option V} : tVar 15 (o0 :: o1 :: o2 :: o3 :: o4 :: o5 :: o6 :: o7 :: o8 :: o9 :: o10 :: o11 :: o12 :: o13 :: o14 :: some v :: σ) H Q = Q v H := by rw [show (15 : Nat) = 14 + 1 by rfl, x_varS, x_var14]
theorem x_set1 {α : Type} {o0 o1 x : α} {r : List α} : (o0 :: o1 :: r).set 1 x = o0 :: x :: r := rfl
theorem x_set2 {α : Type} {o0 o1 o2 x : α} {r : List α} : (o0 :: o1 :: o2 :: r).set 2 x = o0 :: o1 :: x :: r := rfl
theorem x_set3 {α : Type} {o0 o1 o2 o3 x : α} {r : List α} : (o0 :: o1 :: o2 :: o3 :: r).set 3 x = o0 :: o1 :: o2 :: x :: r := rfl
theorem x_set4 {α : Type} {o0 o1 o2 o3 o4 x : α} {r : List α} : (o0 :: o1 :: o2 :: o3 :: o4 :: r).set 4 x = o0 :: o1 :: o2 :: o3 :: x :: r := rfl
theorem x_set5 {α : Type} {o0 o1 o2 o3 o4 o5 x : α} {r : List α} : (o0 :: o1 :: o2 :: o3 :: o4 :: o5 :: r).set 5 x = o0 :: o1 :: o2 :: o3 :: o4 :: x :: r := rfl
theorem x_set6 {α : Type} {o0 o1 o2 o3 o4 o5 o6 x : α} {r : List α} : (o0 :: o1 :: o2 :: o3 :: o4 :: o5 :: o6 :: r).set 6 x = o0 :: o1 :: o2 :: o3 :: o4 :: o5 :: x :: r := rfl
theorem x_set7 {α : Type} {o0 o1 o2 o3 o4 o5 o6 o7 x : α} {r : List α} : (o0 :: o1 :: o2 :: o3 :: o4 :: o5 :: o6 :: o7 :: r).set 7 x = o0 :: o1 :: o2 :: o3 :: o4 :: o5 :: o6 :: x :: r := rfl
theorem x_set8 {α : Type} {o0 o1 o2 o3 o4 o5 o6 o7 o8 x : α} {r : List α} : (o0 :: o1 :: o2 :: o3 :: o4 :: o5 :: o6 :: o7 :: o8 :: r).set 8 x = o0 :: o1 :: o2 :: o3 :: o4 :: o5 :: o6 :: o7 :: x :: r := rfl
theorem x_set9 {α : Type} {o0 o1 o2 o3 o4 o5 o6 o7 o8 o9 x : α} {r : List α} : (o0 :: o1 :: o2 :: o3 :: o4 :: o5 :: o6 :: o7 :: o8 :: o9 :: r).set 9 x = o0 :: o1 :: o2 :: o3 :: o4 :: o5 :: o6 :: o7 :: o8 :: x :: r := rfl
theorem x_set10 {α : Type} {o0 o1 o2 o3 o4 o5 o6 o7 o8 o9 o10 x : α} {r : List α} : (o0 :: o1 :: o2 :: o3 :: o4 :: o5 :: o6 :: o7 :: o8 :: o9 :: o10 :: r).set 10 x = o0 :: o1 :: o2 :: o3 :: o4 :: o5 :: o6 :: o7 :: o8 :: o9 :: x :: r := rfl
theorem x_set11 {α : Type} {o0 o1 o2 o3 o4 o5 o6 o7 o8 o9 o10 o11 x : α} {r : List α} : (o0 :: o1 :: o2 :: o3 :: o4 :: o5 :: o6 :: o7 :: o8 :: o9 :: o10 :: o11 :: r).set 11 x = o0 :: o1 :: o2 :: o3 :: o4 :: o5 :: o6 :: o7 :: o8 :: o9 :: o10 :: x :: r := rfl
theorem x_set12 {α : Type} {o0 o1 o2 o3 o4 o5 o6 o7 o8 o9 o10 o11 o12 x : α} {r : List α} : (o0 :: o1 :: o2 :: o3 :: o4 :: o5 :: o6 :: o7 :: o8 :: o9 :: o10 :: o11 :: o12 :: r).set 12 x = o0 :: o1 :: o2 :: o3 :: o4 :: o5 :: o6 :: o7 :: o8 :: o9 :: o10 :: o11 :: x :: r := rfl
theorem x_set13 {α : Type} {o0 o1 o2 o3 o4 o5 o6 o7 o8 o9 o10 o11 o12 o13 x : α} {r : List α} : (o0 :: o1 :: o2 :: o3 :: o4 :: o5 :: o6 :: o7 :: o8 :: o9 :: o10 :: o11 :: o12 :: o13 :: r).set 13 x = o0 :: o1 :: o2 :: o3 :: o4 :: o5 :: o6 :: o7 :: o8 :: o9 :: o10 :: o11 :: o12 :: x :: r := rfl
theorem x_set14 {α : Type} {o0 o1 o2 o3 o4 o5 o6 o7 o8 o9 o10 o11 o12 o13 o14 x : α} {r : List α} : (o0 :: o1 :: o2 :: o3 :: o4 :: o5 :: o6 :: o7 :: o8 :: o9 :: o10 :: o11 :: o12 :: o13 :: o14 :: r).set 14 x = o0 :: o1 :: o2 :: o3 :: o4 :: o5 :: o6 :: o7 :: o8 :: o9 :: o10 :: o11 :: o12 :: o13 :: x :: r := rfl
theorem x_set15 {α : Type} {o0 o1 o2 o3 o4 o5 o6 o7 o8 o9 o10 o11 o12 o13 o14 o15 x : α} {r : List α} : (o0 :: o1 :: o2 :: o3 :: o4 :: o5 :: o6 :: o7 :: o8 :: o9 :: o10 :: o11 :: o12 :: o13 :: o14 :: o15 :: r).set 15 x = o0 :: o1 :: o2 :: o3 :: o4 :: o5 :: o6 :: o7 :: o8 :: o9 :: o10 :: o11 :: o12 :: o13 :: o14 :: x :: r := rfl
theorem x_i0 : rI0 f (.int a) (.int b) H Q = Q (f a b) H := propext ⟨fun ⟨i, j, e1, e2, h⟩ => by cases e1; cases e2; exact h, fun h => ⟨a, b, rfl, rfl, h⟩⟩
theorem x_iC : rI C f (.int a) (.int b) H Q = (C a b ∧ Q (f a b) H) := propext ⟨fun ⟨i, j, e1, e2, c, h⟩ => by cases e1; cases e2; exact ⟨c, h⟩, fun ⟨c, h⟩ => ⟨a, b, rfl, rfl, c, h⟩⟩
theorem x_uI {f : Int → V} : rU f (.int a) H Q = Q (f a) H := propext ⟨fun ⟨i, e1, h⟩ => by cases e1; exact h, fun h => ⟨a, rfl, h⟩⟩
theorem x_bl {k : Bool} {R : Bool → Prop} : (∃ c, V.bl k = .bl c ∧ R c) = R k := propext ⟨fun ⟨c, e, h⟩ => by cases e; exact h, fun h => ⟨k, rfl, h⟩⟩
theorem x_eqI : rEq (.int a) (.int b) H Q = Q (.bl (decide (a = b))) H := propext ⟨fun ⟨_, h⟩ => by
  have e : decide (V.int a = V.int b) = decide (a = b) := by simp
  rw [e] at h; exact h, g_eqI⟩
theorem x_neI : rNe (.int a) (.int b) H Q = Q (.bl (!decide (a = b))) H := propext ⟨fun ⟨_, h⟩ => by
  have e : decide (V.int a = V.int b) = decide (a = b) := by simp
  rw [e] at h; exact h, g_neI⟩
theorem x_eqS {a b : Str} : rEq (.str a) (.str b) H Q = Q (.bl (decide (a = b))) H := propext ⟨fun ⟨_, h⟩ => by
  have e : decide (V.str a = V.str b) = decide (a = b) := by simp
  rw [e] at h; exact h, g_eqS⟩
theorem x_neS {a b : Str} : rNe (.str a) (.str b) H Q = Q (.bl (!decide (a = b))) H := propext ⟨fun ⟨_, h⟩ => by
  have e : decide (V.str a = V.str b) = decide (a = b) := by simp
  rw [e] at h; exact h, g_neS⟩
theorem x_isN {x : V} {R : Prop} : (V.non = .non ∧ R) = R := propext ⟨fun h => h.2, fun h => ⟨rfl, h⟩⟩
theorem x_par {v w : V} {R : V → V → Prop} : (∃ v' w', [v, w] = [v', w'] ∧ R v' w') = R v w := propext ⟨fun ⟨a, b, e, h⟩ => by cases e; exact h, fun h => ⟨v, w, rfl, h⟩⟩
theorem x_par3 {u v w : V} {R : V → V → V → Prop} : (∃ u' v' w', [u, v, w] = [u', v', w'] ∧ R u' v' w') = R u v w := propext ⟨fun ⟨a, b, c, e, h⟩ => by cases e; exact h, fun h => ⟨u, v, w, rfl, h⟩⟩
theorem x_gnil {QS : Sg → Hp → Prop} : gNil [] σ H QS = QS σ H := propext ⟨fun ⟨_, h⟩ => h, fun h => ⟨rfl, h⟩⟩
theorem x_gcons {QS : Sg → Hp → Prop} {g : TG} {gs : TGs} {xs : List V} : gCons g gs (v :: xs) σ H QS = g v σ H (fun σ' H' => gs xs σ' H' QS) := propext ⟨fun ⟨a, b, e, h⟩ => by cases e; exact h, fun h => ⟨v, xs, rfl, h⟩⟩
theorem x_one {j : Int} {R : Int → Prop} : (∃ i, V.int j = .int i ∧ R i) = R j := propext ⟨fun ⟨i, e, h⟩ => by cases e; exact h, fun h => ⟨j, rfl, h⟩⟩
theorem x_rt {nx : Sg → Hp → Prop} {rt : VK} {bk ct : Sg → Hp → Prop} : (Ends.mk nx rt bk ct).rt = rt := rfl
theorem x_nx {nx : Sg → Hp → Prop} {rt : VK} {bk ct : Sg → Hp → Prop} : (Ends.mk nx rt bk ct).nx = nx := rfl
theorem x_bk {nx : Sg → Hp → Prop} {rt : VK} {bk ct : Sg → Hp → Prop} : (Ends.mk nx rt bk ct).bk = bk := rfl
theorem x_ct {nx : Sg → Hp → Prop} {rt : VK} {bk ct : Sg → Hp → Prop} : (Ends.mk nx rt bk ct).ct = ct := rfl
theorem st_as {t : TS} {σ' : Sg} (e : σ = σ') (h : t D σ' H) : t D σ H := e ▸ h
end
/-! ### isinstance by built-in types -/
section
variable {K : PySem.W.Frag} {H : Hp} {Q : VK} {p : Addr} {xs : List V}
theorem isi_ty {x : V} {a c : String} {b : Bool} (hx : TyX K H x (.type a)) (hk : kitB a c = some b) (h : Q (.bl b) H) : rIsi K [x, .ty c] H Q := ⟨x, .ty c, .type a, .type c, b, rfl, .ty c, hx, kit_ty hk, h⟩
theorem ty_int (i : Int) : TyX K H (.int i) (.type "int") := .base (.int i)
theorem ty_bl (i : Bool) : TyX K H (.bl i) (.type "bool") := .base (.bl i)
theorem ty_str (i : Str) : TyX K H (.str i) (.type "str") := .base (.str i)
theorem ty_non : TyX K H .non (.type "NoneType") := .base .non
theorem ty_tup (h : SqT K H p xs) : TyX K H (.ref p) (.type "tuple") := by
  rcases h with (h | ⟨o, h⟩) | h
  · exact .base (.tup h)
  · exact .fTuple h
  · obtain ⟨o, its, n, e, c, _⟩ := h
    exact .kTuple e c
theorem kb1 : kitB "int" "int" = some true := by decide +kernel
theorem kb2 : kitB "int" "bool" = some false := by decide +kernel
theorem kb3 : kitB "str" "str" = some true := by decide +kernel
theorem kb4 : kitB "tuple" "tuple" = some true := by decide +kernel
theorem kb5 : kitB "int" "str" = some false := by decide +kernel
theorem kb6 : kitB "str" "int" = some false := by decide +kernel
theorem kb7 : kitB "bool" "bool" = some true := by decide +kernel
theorem kb8 : kitB "bool" "int" = some true := by decide +kernel
theorem kb9 : kitB "NoneType" "tuple" = some false := by decide +kernel
theorem kb10 : kitB "NoneType" "int" = some false := by decide +kernel
theorem kb11 : kitB "tuple" "str" = some false := by decide +kernel
theorem kb12 : kitB "tuple" "int" = some false := by decide +kernel
theorem isi_ii {i : Int} (h : Q (.bl true) H) : rIsi K [.int i, .ty "int"] H Q := isi_ty (ty_int i) kb1 h
theorem isi_ib {i : Int} (h : Q (.bl false) H) : rIsi K [.int i, .ty "bool"] H Q := isi_ty (ty_int i) kb2 h
theorem isi_is {i : Int} (h : Q (.bl false) H) : rIsi K [.int i, .ty "str"] H Q := isi_ty (ty_int i) kb5 h
theorem isi_ss {i : Str} (h : Q (.bl true) H) : rIsi K [.str i, .ty "str"] H Q := isi_ty (ty_str i) kb3 h
theorem isi_tt (ht : SqT K H p xs) (h : Q (.bl true) H) : rIsi K [.ref p, .ty "tuple"] H Q := isi_ty (ty_tup ht) kb4 h
theorem isi_bb {i : Bool} (h : Q (.bl true) H) : rIsi K [.bl i, .ty "bool"] H Q := isi_ty (ty_bl i) kb7 h
end
theorem cx_K {CX : CXT} {P : Program} {w : World} {K : PySem.W.Frag} {mg : Str → Option Value} {base : Heap} {N : List Str} {qual : Str} {scope : Scope} {f : Addr} {cd : Value} {A : Around} {outer : List Env} {s : Shared} {H : Hp} {E : XK} :
    (cxOf CX P w K mg base N qual scope f cd A outer s H E).nox.K = K := rfl
theorem cx_K1 {CX : CXT} {P : Program} {w : World} {K : PySem.W.Frag} {mg : Str → Option Value} {base : Heap} {N : List Str} {qual : Str} {scope : Scope} {f : Addr} {cd : Value} {A : Around} {outer : List Env} {s : Shared} {H : Hp} {E : XK} :
    (cxOf CX P w K mg base N qual scope f cd A outer s H E).K = K := rfl
theorem g_pY {c A B : Prop} [Decidable c] (h : c) (h1 : A) : if c then A else B := by rw [if_pos h]; exact h1
theorem g_pX {c A B : Prop} [Decidable c] (h : ¬ c) (h1 : B) : if c then A else B := by rw [if_neg h]; exact h1
theorem cx_A {CX : CXT} {P : Program} {w : World} {K : PySem.W.Frag} {mg : Str → Option Value} {base : Heap} {N : List Str} {qual : Str} {scope : Scope} {f : Addr} {cd : Value} {A : Around} {outer : List Env} {s : Shared} {H : Hp} {E : XK} :
    (cxOf CX P w K mg base N qual scope f cd A outer s H E).nox.A = A.deeper (envOfC qual scope s.heap.objs.size f cd) := rfl
/-! ### conditions -/
theorem cdw_of {i j : Int} (h0 : 0 < j) (h : j ≤ 18446744073709551616) : CDivW i j := wide_div (b := 65) h0 (by
  have e : (2 : Nat) ^ 65 = 36893488147419103232 := by decide
  rw [e]; omega) (by decide) (by decide)
theorem cpow_of {i j : Int} (h0 : 0 ≤ j) (h : j ≤ 1000000) (hi : -18446744073709551616 < i ∧ i < 18446744073709551616) : CPow i j := ⟨h0, h, by
  have e : (2 : Nat) ^ 64 = 18446744073709551616 := by decide
  rw [e]; omega⟩
/-! ### a call of a value that is a def -/
def tCallX (P : Program) (w : World) (K : PySem.W.Frag) (mg : Str → Option Value) (base : Heap) (k : Nat) (tf : TE) (t : TA) : TE := fun σ H Q => tf σ H fun v H1 => ∃ (f : Addr) (x : Str) (ps : List Str) (sp : Sp), v = .ref f ∧ mg x = some (.ref f) ∧ Kn P w K mg base k x ps sp ∧ t σ H1 fun vs H2 => sp vs H2 Q E0
theorem arm_call_any {func : Expr} {args : List Expr} {keywords : List Keyword} {pos : Pos} {env : Env} (h : eval (.Call func args keywords pos) env = (do callWith pos (← eval func env) [] (backTo pos (starEach args env)) (backToKw pos (keywordEach keywords env)))) : True := trivial
theorem pe_callX {X : Cx} {k : Nat} {fe : Expr} {tf : TE} {pos : Pos} {e : Expr} {es : List Expr} {t : TA} (hf : PE X fe tf) (hr : Room k X.A) (ha : PA X (e :: es) t)
    (hev : eval (.Call fe (e :: es) [] pos) X.env = (do callWith pos (← eval fe X.env) [] (backTo pos (starEach (e :: es) X.env)) (backToKw pos (keywordEach [] X.env))) := by rfl)
    (he : starEach (e :: es) X.env = (false, eval e X.env) :: starEach es X.env := by rfl) (hpl : (backTo pos (starEach es X.env)).any (·.1) = false := by rfl) :
    PE X (.Call fe (e :: es) [] pos) (tCallX X.prog X.w X.K X.mg X.base k tf t) := by
  refine ⟨fun pins s σ H Q I h => ?_⟩
  rw [hev]
  refine wpAny_bind (thn (hf.run pins s σ H _ I h) fun u s1 ⟨v, H1, I1, r1, q1⟩ => ?_)
  obtain ⟨f, x, ps, sp, rfl, hm, Kf, q1⟩ := q1
  obtain ⟨f', fd, F, hm', hk, hb⟩ := Kf.ex
  have ef : f' = f := by rw [hm] at hm'; exact (Value.ref.inj (Option.some.inj hm')).symm
  subst ef
  cases r1
  refine PySem.W.callWith_K (h₀ := X.base) I.ok.mod.kin hk (thn (ha.run pos pins s1 σ H1 _ I1 q1) fun us s2 ⟨vs, H2, I2, r, q⟩ => ⟨I2.kIn, ?_⟩) he hpl
  exact run_fn (dvs := []) (ds := []) F hr hb .nil pass0 I2 r (by rw [List.append_nil]; exact q)
theorem Kn.mono {P : Program} {w : World} {K : PySem.W.Frag} {mg : Str → Option Value} {base : Heap} {j k : Nat} {x : Str} {ps : List Str} {sp : Sp} (F : Kn P w K mg base j x ps sp) (h : j ≤ k) : Kn P w K mg base k x ps sp := by
  obtain ⟨f, fd, F, hm, hk, hb⟩ := F.ex
  exact ⟨f, fd, F.mono h, hm, hk, hb⟩
theorem sqt_all {K : PySem.W.Frag} {H : Hp} {p : Addr} {xs : List V} (h : ∀ H, SqT K H p xs) : SqT K H p xs := h H
/-! ### the layer's rules, the written part by its own name -/
section
variable {X : Cx} (K : PySem.W.Frag)
theorem ix_tupK (h : X.K = K := by rfl) : IxR X (rIxT K) := by subst h; exact ix_tup
theorem ix_listK (h : X.K = K := by rfl) : IxR X (rIxL K) := by subst h; exact ix_list
theorem op_inK (h : X.K = K := by rfl) : OpR X (compareOp .In) (rIn K false) := by subst h; exact op_in_seq
theorem op_notInK (h : X.K = K := by rfl) : OpR X (compareOp .NotIn) (rIn K true) := by subst h; exact op_notIn_seq
theorem call_isiK1 (h : X.K = K := by rfl) : CallR X (.builtin "isinstance") (rIsi K) := by subst h; exact call_isi
theorem call_isiTK (h : X.K = K := by rfl) : CallR X (.builtin "isinstance") (rIsiT K) := by subst h; exact call_isiT
/-- len of a list, of a tuple -/
def rLenS (K : PySem.W.Frag) : List V → Hp → VK → Prop := fun xs H Q => ∃ p ys, xs = [.ref p] ∧ (SqL K H p ys ∨ SqT K H p ys) ∧ Q (.int ys.length) H
def rListOf (K : PySem.W.Frag) : List V → Hp → VK → Prop := fun xs H Q => ∃ p ys, xs = [.ref p] ∧ (SqL K H p ys ∨ SqT K H p ys) ∧ ∀ l, H l = none → Q (.ref l) (upd H l (.lst ys))
theorem call_lenK (h : X.K = K := by rfl) : CallR X (.builtin "len") (rLenS K) := by subst h; exact call_len_seq
theorem call_listK (h : X.K = K := by rfl) : CallR X (.type "list") (rListOf K) := by subst h; exact call_list_of
theorem cr_sumK (hc : X.calm = true) (h : X.K = K := by rfl) : CallR X (.builtin "sum") (rSum K) := by subst h; exact cr_sum hc
theorem cr_allK (hc : X.calm = true) (h : X.K = K := by rfl) : CallR X (.builtin "all") (rAll K) := by subst h; exact cr_all hc
theorem cr_anyK (hc : X.calm = true) (h : X.K = K := by rfl) : CallR X (.builtin "any") (rAny K) := by subst h; exact cr_any hc
theorem sl_tupK (h : X.K = K := by rfl) : SlR X (rSlT K) := by subst h; exact sl_tup
theorem sl_listK (h : X.K = K := by rfl) : SlR X (rSlL K) := by subst h; exact sl_list
theorem op_eqDK (hu : X.A.units + 64 < cLine) (h : X.K = K := by rfl) : OpR X (compareOp .Eq) (rEqD K) := by subst h; exact op_eqD hu
theorem op_neDK (hu : X.A.units + 64 < cLine) (h : X.K = K := by rfl) : OpR X (compareOp .NotEq) (rNeD K) := by subst h; exact op_neD hu
theorem op_catTK (h : X.K = K := by rfl) : OpR X (binaryOp .Add) (rCatT K) := by subst h; exact op_catT
theorem pi_listK {tg l : Expr} {tl : TE} (hl : PE X l tl) (h : X.K = K := by rfl) : PI X tg l (iList K tl) := by subst h; exact pi_list hl
theorem pi_tupK {tg l : Expr} {tl : TE} (hl : PE X l tl) (h : X.K = K := by rfl) : PI X tg l (iTup K tl) := by subst h; exact pi_tup hl
end
/-! ### the combinators, applied -/
/-- the turns of a for over range(n), range(a, b), a list, a tuple: opaque for simp -/
def LoopR1 (g : TG) (tb : TS) (D : Ends) (σ : Sg) : List V → Hp → Prop := fun vs H1 => ∃ j : Int, vs = [.int j] ∧ -(2 ^ 62) ≤ j ∧ j < 2 ^ 62 ∧ ∃ W : Nat → Nat → Sg → Hp → Prop, (∃ m, W 0 m σ H1) ∧ ∀ i m σ H, W i m σ H →
  ((Itr 0 j.toNat).stop i H ∧ D.nx σ H) ∨ ((Itr 0 j.toNat).go i H ∧ ∃ N : Sg → Hp → Prop, (∀ σ' H', N σ' H' → ∃ m', m' < m ∧ W (i + 1) m' σ' H') ∧ ∀ x H', (Itr 0 j.toNat).yld i H x H' → g x σ H' fun σ2 H2 => tb { D with nx := N, ct := N, bk := D.nx } σ2 H2)
def LoopR2 (g : TG) (tb : TS) (D : Ends) (σ : Sg) : List V → Hp → Prop := fun vs H1 => ∃ i j : Int, vs = [.int i, .int j] ∧ (-(2 ^ 62) ≤ i ∧ i < 2 ^ 62 ∧ -(2 ^ 62) ≤ j ∧ j < 2 ^ 62) ∧ ∃ W : Nat → Nat → Sg → Hp → Prop, (∃ m, W 0 m σ H1) ∧ ∀ k m σ H, W k m σ H →
  ((Itr i (j - i).toNat).stop k H ∧ D.nx σ H) ∨ ((Itr i (j - i).toNat).go k H ∧ ∃ N : Sg → Hp → Prop, (∀ σ' H', N σ' H' → ∃ m', m' < m ∧ W (k + 1) m' σ' H') ∧ ∀ x H', (Itr i (j - i).toNat).yld k H x H' → g x σ H' fun σ2 H2 => tb { D with nx := N, ct := N, bk := D.nx } σ2 H2)
def LoopL (K : PySem.W.Frag) (g : TG) (tb : TS) (D : Ends) (σ : Sg) : VK := fun x H1 => ∃ a, x = .ref a ∧ (∃ xs, SqL K H1 a xs) ∧ ∃ W : Nat → Nat → Sg → Hp → Prop, (∃ m, W 0 m σ H1) ∧ ∀ i m σ H, W i m σ H →
  ((Itl K a).stop i H ∧ D.nx σ H) ∨ ((Itl K a).go i H ∧ ∃ N : Sg → Hp → Prop, (∀ σ' H', N σ' H' → ∃ m', m' < m ∧ W (i + 1) m' σ' H') ∧ ∀ x H', (Itl K a).yld i H x H' → g x σ H' fun σ2 H2 => tb { D with nx := N, ct := N, bk := D.nx } σ2 H2)
def LoopT (K : PySem.W.Frag) (g : TG) (tb : TS) (D : Ends) (σ : Sg) : VK := fun x H1 => ∃ a, x = .ref a ∧ (∃ xs, SqT K H1 a xs) ∧ ∃ W : Nat → Nat → Sg → Hp → Prop, (∃ m, W 0 m σ H1) ∧ ∀ i m σ H, W i m σ H →
  ((Itt K a).stop i H ∧ D.nx σ H) ∨ ((Itt K a).go i H ∧ ∃ N : Sg → Hp → Prop, (∀ σ' H', N σ' H' → ∃ m', m' < m ∧ W (i + 1) m' σ' H') ∧ ∀ x H', (Itt K a).yld i H x H' → g x σ H' fun σ2 H2 => tb { D with nx := N, ct := N, bk := D.nx } σ2 H2)
section
variable {σ : Sg} {H H1 : Hp} {Q : VK} {QB : Bool → Hp → Prop} {QA : List V → Hp → Prop} {QS : Sg → Hp → Prop} {D : Ends} {t u tb : TS} {te ta tc : TE} {tt tu : TT} {g : TG} {v x : V} {i j l : Nat} {r r' : R2} {ru : V → Hp → VK → Prop} {rc : List V → Hp → VK → Prop} {ar br : TA} {K : PySem.W.Frag} {sp : Sp} {dvs : List V} {E : XK}
theorem x_seq : tSeq t u D σ H = t { D with nx := u D } σ H := rfl
theorem x_next : tNext D σ H = D.nx σ H := rfl
theorem x_brk : tBreak D σ H = D.bk σ H := rfl
theorem x_cont : tCont D σ H = D.ct σ H := rfl
theorem x_never : tNever D σ H = False := rfl
theorem x_drop : tDrop te D σ H = te σ H fun _ H1 => D.nx σ H1 := rfl
theorem x_asg : tAsg te g D σ H = te σ H fun x H1 => g x σ H1 D.nx := rfl
theorem x_name : gName i v σ H QS = QS (σ.set i (some v)) H := rfl
theorem x_sub {to ti : TE} {ts : TSet} : gSub to ti ts v σ H QS = to σ H fun o H1 => ti σ H1 fun i H2 => ts o i v H2 fun H3 => QS σ H3 := rfl
theorem x_ret : tRet te D σ H = te σ H D.rt := rfl
theorem x_retN : tRetN D σ H = D.rt .non H := rfl
theorem x_ifS : tIfS tt t u D σ H = tt σ H fun b H1 => if b = true then t D σ H1 else u D σ H1 := rfl
theorem x_parD : tPar i j ar D σ H = ar σ H fun vs H1 => ∃ v w, vs = [v, w] ∧ D.nx ((σ.set i (some v)).set j (some w)) H1 := rfl
theorem x_par3D : tPar3 i j l ar D σ H = ar σ H fun vs H1 => ∃ u v w, vs = [u, v, w] ∧ D.nx (((σ.set i (some u)).set j (some v)).set l (some w)) H1 := rfl
theorem x_c : tC v σ H Q = Q v H := rfl
theorem x_op : tOp r ta te σ H Q = ta σ H fun x H1 => te σ H1 fun y H2 => r x y H2 Q := rfl
theorem x_un : tUn ru ta σ H Q = ta σ H fun x H1 => ru x H1 Q := rfl
theorem x_test : tTest te σ H QB = te σ H fun x H' => ∃ k, x = .bl k ∧ QB k H' := rfl
theorem x_tB : tB te σ H QB = te σ H fun x H' => ∃ k, x = .bl k ∧ QB k H' := rfl
theorem x_yes : tYes σ H QB = QB true H := rfl
theorem x_not : tNot tt σ H QB = tt σ H fun c H1 => QB (!c) H1 := rfl
theorem x_and : tAnd tt tu σ H QB = tt σ H fun c H1 => if c = true then tu σ H1 QB else QB false H1 := rfl
theorem x_or : tOr tt tu σ H QB = tt σ H fun c H1 => if c = true then QB true H1 else tu σ H1 QB := rfl
theorem x_andV : tAndV ta te σ H Q = ta σ H fun x H1 => ∃ c, x = .bl c ∧ if c = true then te σ H1 Q else Q (.bl false) H1 := rfl
theorem x_orV : tOrV ta te σ H Q = ta σ H fun x H1 => ∃ c, x = .bl c ∧ if c = true then Q (.bl true) H1 else te σ H1 Q := rfl
theorem x_notV : tNotV ta σ H Q = ta σ H fun x H1 => ∃ c, x = .bl c ∧ Q (.bl (!c)) H1 := rfl
theorem x_ifE : tIf tt ta te σ H Q = tt σ H fun c H1 => if c = true then ta σ H1 Q else te σ H1 Q := rfl
theorem x_chain : tChain r r' ta te tc σ H Q = ta σ H fun x H1 => te σ H1 fun y H2 => r x y H2 fun z H3 => ∃ k, z = .bl k ∧ (if k = true then tc σ H3 fun w' H4 => r' y w' H4 Q else Q (.bl false) H3) := rfl
theorem x_nil : tNil σ H QA = QA [] H := rfl
theorem x_cons : tCons ta ar σ H QA = ta σ H fun x H1 => ar σ H1 fun xs H2 => QA (x :: xs) H2 := rfl
theorem x_tupD : tTup ar σ H Q = ar σ H fun xs H1 => xs.length ≤ sizeLine ∧ ∀ p, H1 p = none → upd H1 p (.tup xs) p = some (.tup xs) → Q (.ref p) (upd H1 p (.tup xs)) := by
  unfold tTup
  congr 1
  funext xs H1
  exact propext ⟨fun ⟨a, b⟩ => ⟨a, fun p n _ => b p n⟩, fun ⟨a, b⟩ => ⟨a, fun p n => b p n upd_same⟩⟩
theorem x_lstD : tLst ar σ H Q = ar σ H fun xs H1 => xs.length ≤ sizeLine ∧ ∀ p, H1 p = none → upd H1 p (.lst xs) p = some (.lst xs) → Q (.ref p) (upd H1 p (.lst xs)) := by
  unfold tLst
  congr 1
  funext xs H1
  exact propext ⟨fun ⟨a, b⟩ => ⟨a, fun p n _ => b p n⟩, fun ⟨a, b⟩ => ⟨a, fun p n => b p n upd_same⟩⟩
theorem x_call : tCall sp dvs E ar σ H Q = ar σ H fun vs H1 => sp (vs ++ dvs) H1 Q E := rfl
theorem x_callX {P : Program} {w : World} {mg : Str → Option Value} {base : Heap} {k : Nat} : tCallX P w K mg base k te ar σ H Q = te σ H fun v H1 => ∃ (f : Addr) (x : Str) (ps : List Str) (sp : Sp), v = .ref f ∧ mg x = some (.ref f) ∧ Kn P w K mg base k x ps sp ∧ ar σ H1 fun vs H2 => sp vs H2 Q E0 := rfl
theorem x_cb : tCB rc ar σ H Q = ar σ H fun vs H1 => rc vs H1 Q := rfl
theorem x_forR1 : tFor (iRng1 ar) g tb D σ H = ar σ H (LoopR1 g tb D σ) := rfl
theorem x_forR2 : tFor (iRng2 ar) g tb D σ H = ar σ H (LoopR2 g tb D σ) := rfl
theorem x_forL : tFor (iList K te) g tb D σ H = te σ H (LoopL K g tb D σ) := rfl
theorem x_forT : tFor (iTup K te) g tb D σ H = te σ H (LoopT K g tb D σ) := rfl
theorem x_bits : tBits te σ H Q = te σ H fun x H1 => ∃ i, x = .int i ∧ Q (.int (Builtin.Int.intBits i : Nat)) H1 := rfl
theorem x_part {QO : Option Int → Hp → Prop} : tPart te σ H QO = te σ H fun x H1 => ∃ i, x = .int i ∧ QO (some i) H1 := rfl
theorem x_nopart {QO : Option Int → Hp → Prop} : tNoPart σ H QO = QO none H := rfl
theorem x_sl {rs : V → Option Int → Option Int → Hp → VK → Prop} {tl th : TO} : tSl rs te tl th σ H Q = te σ H fun x H1 => tl σ H1 fun l H2 => th σ H2 fun u H3 => rs x l u H3 Q := rfl
theorem x_bm0 {T : String} {rm : V → List V → Hp → VK → Prop} : tBM0 K T rm te σ H Q = te σ H fun x H1 => tyV K T x H1 ∧ rm x [] H1 Q := rfl
theorem x_bm {T : String} {rm : V → List V → Hp → VK → Prop} : tBM K T rm te ar σ H Q = te σ H fun x H1 => tyV K T x H1 ∧ ar σ H1 fun xs H2 => rm x xs H2 Q := rfl
theorem loopR1 {n : Int} (hb : 0 ≤ n ∧ n < 4611686018427387904) (Pv : Nat → Sg → Hp → Prop) (h0 : Pv 0 σ H) (hs : ∀ (i : Nat) σ H, (i : Int) < n → Pv i σ H → g (.int (i : Int)) σ H fun σ2 H2 => tb { D with nx := Pv (i + 1), ct := Pv (i + 1), bk := D.nx } σ2 H2)
    (hd : ∀ σ H, Pv n.toNat σ H → D.nx σ H) : LoopR1 g tb D σ [.int n] H := ⟨n, rfl, by omega, by omega, for_range (lo := 0) (n := n.toNat) Pv h0 (fun i σ H hi p => by rw [Int.zero_add]; exact hs i σ H (by omega) p) hd⟩
theorem loopR2 {a b : Int} (hb : -4611686018427387904 ≤ a ∧ a < 4611686018427387904 ∧ -4611686018427387904 ≤ b ∧ b < 4611686018427387904) (Pv : Nat → Sg → Hp → Prop) (h0 : Pv 0 σ H) (hs : ∀ (i : Nat) σ H, a + (i : Int) < b → Pv i σ H → g (.int (a + (i : Int))) σ H fun σ2 H2 => tb { D with nx := Pv (i + 1), ct := Pv (i + 1), bk := D.nx } σ2 H2)
    (hd : ∀ σ H, Pv (b - a).toNat σ H → D.nx σ H) : LoopR2 g tb D σ [.int a, .int b] H := ⟨a, b, rfl, ⟨by omega, by omega, by omega, by omega⟩, for_range (lo := a) (n := (b - a).toNat) Pv h0 (fun i σ H hi p => hs i σ H (by omega) p) hd⟩
theorem loopL {a : Addr} (xs : List V) (Pv : Nat → Sg → Hp → Prop) (h0 : Pv 0 σ H) (hl : ∀ i σ H, i ≤ xs.length → Pv i σ H → SqL K H a xs)
    (hs : ∀ i x σ H, xs[i]? = some x → Pv i σ H → g x σ H fun σ2 H2 => tb { D with nx := Pv (i + 1), ct := Pv (i + 1), bk := D.nx } σ2 H2) (hd : ∀ σ H, Pv xs.length σ H → D.nx σ H) : LoopL K g tb D σ (.ref a) H :=
  ⟨a, rfl, ⟨xs, hl 0 σ H (Nat.zero_le _) h0⟩, for_list Pv h0 hl hs hd⟩
theorem loopT {a : Addr} (xs : List V) (Pv : Nat → Sg → Hp → Prop) (h0 : Pv 0 σ H) (hl : ∀ i σ H, i ≤ xs.length → Pv i σ H → SqT K H a xs)
    (hs : ∀ i x σ H, xs[i]? = some x → Pv i σ H → g x σ H fun σ2 H2 => tb { D with nx := Pv (i + 1), ct := Pv (i + 1), bk := D.nx } σ2 H2) (hd : ∀ σ H, Pv xs.length σ H → D.nx σ H) : LoopT K g tb D σ (.ref a) H :=
  ⟨a, rfl, ⟨xs, hl 0 σ H (Nat.zero_le _) h0⟩, for_tup Pv h0 hl hs hd⟩
/-- comprehensions -/
def LcL (K : PySem.W.Frag) (g : TG) (tt : TT) (te : TE) (vs : List Nat) (σ : Sg) (Q : VK) : VK := fun x H1 => ∃ a, x = .ref a ∧ (∃ xs, SqL K H1 a xs) ∧ ∀ D, H1 D = none → ∃ W : Nat → Nat → Hp → Prop, (∃ m, W 0 m (upd H1 D (.lst []))) ∧ ∀ i m H, W i m H →
  ((Itl K a).stop i H ∧ Q (.ref D) H) ∨ ((Itl K a).go i H ∧ ∃ Nx : Hp → Prop, (∀ H', Nx H' → ∃ m', m' < m ∧ W (i + 1) m' H') ∧ ∀ x H', (Itl K a).yld i H x H' → g x (wipe σ vs) H' fun σ2 H2 => wipe σ2 vs = wipe σ vs ∧ tt σ2 H2 fun b H3 =>
    if b = true then te σ2 H3 fun y H4 => ∃ acc, H4 D = some (.lst acc) ∧ acc.length < sizeLine ∧ Nx (upd H4 D (.lst (acc ++ [y]))) else Nx H3)
def LcT (K : PySem.W.Frag) (g : TG) (tt : TT) (te : TE) (vs : List Nat) (σ : Sg) (Q : VK) : VK := fun x H1 => ∃ a, x = .ref a ∧ (∃ xs, SqT K H1 a xs) ∧ ∀ D, H1 D = none → ∃ W : Nat → Nat → Hp → Prop, (∃ m, W 0 m (upd H1 D (.lst []))) ∧ ∀ i m H, W i m H →
  ((Itt K a).stop i H ∧ Q (.ref D) H) ∨ ((Itt K a).go i H ∧ ∃ Nx : Hp → Prop, (∀ H', Nx H' → ∃ m', m' < m ∧ W (i + 1) m' H') ∧ ∀ x H', (Itt K a).yld i H x H' → g x (wipe σ vs) H' fun σ2 H2 => wipe σ2 vs = wipe σ vs ∧ tt σ2 H2 fun b H3 =>
    if b = true then te σ2 H3 fun y H4 => ∃ acc, H4 D = some (.lst acc) ∧ acc.length < sizeLine ∧ Nx (upd H4 D (.lst (acc ++ [y]))) else Nx H3)
def LcR1 (g : TG) (tt : TT) (te : TE) (vs : List Nat) (σ : Sg) (Q : VK) : List V → Hp → Prop := fun ws H1 => ∃ j : Int, ws = [.int j] ∧ -(2 ^ 62) ≤ j ∧ j < 2 ^ 62 ∧ ∀ D, H1 D = none → ∃ W : Nat → Nat → Hp → Prop, (∃ m, W 0 m (upd H1 D (.lst []))) ∧ ∀ i m H, W i m H →
  ((Itr 0 j.toNat).stop i H ∧ Q (.ref D) H) ∨ ((Itr 0 j.toNat).go i H ∧ ∃ Nx : Hp → Prop, (∀ H', Nx H' → ∃ m', m' < m ∧ W (i + 1) m' H') ∧ ∀ x H', (Itr 0 j.toNat).yld i H x H' → g x (wipe σ vs) H' fun σ2 H2 => wipe σ2 vs = wipe σ vs ∧ tt σ2 H2 fun b H3 =>
    if b = true then te σ2 H3 fun y H4 => ∃ acc, H4 D = some (.lst acc) ∧ acc.length < sizeLine ∧ Nx (upd H4 D (.lst (acc ++ [y]))) else Nx H3)
theorem x_lcL {vs : List Nat} : tLc (iList K ta) g tt te vs σ H Q = ta σ H (LcL K g tt te vs σ Q) := rfl
theorem x_lcT {vs : List Nat} : tLc (iTup K ta) g tt te vs σ H Q = ta σ H (LcT K g tt te vs σ Q) := rfl
theorem x_lcR1 {vs : List Nat} : tLc (iRng1 ar) g tt te vs σ H Q = ar σ H (LcR1 g tt te vs σ Q) := rfl
theorem mk_lcL {vs : List Nat} {a : Addr} (xs : List V) (Pv : Addr → Nat → Hp → Prop) (h0 : ∀ D, H D = none → Pv D 0 (upd H D (.lst []))) (hl : ∀ D, H D = none → ∀ i H, i ≤ xs.length → Pv D i H → SqL K H a xs) (hx : SqL K H a xs)
    (hs : ∀ D, H D = none → ∀ i x H, xs[i]? = some x → Pv D i H → g x (wipe σ vs) H fun σ2 H2 => wipe σ2 vs = wipe σ vs ∧ tt σ2 H2 fun b H3 => if b = true then te σ2 H3 fun y H4 => ∃ acc, H4 D = some (.lst acc) ∧ acc.length < sizeLine ∧ Pv D (i + 1) (upd H4 D (.lst (acc ++ [y]))) else Pv D (i + 1) H3)
    (hd : ∀ D, H D = none → ∀ H, Pv D xs.length H → Q (.ref D) H) : LcL K g tt te vs σ Q (.ref a) H := ⟨a, rfl, ⟨xs, hx⟩, fun D hD => lc_list (Pv D) (h0 D hD) (hl D hD) (hs D hD) (hd D hD)⟩
theorem mk_lcT {vs : List Nat} {a : Addr} (xs : List V) (Pv : Addr → Nat → Hp → Prop) (h0 : ∀ D, H D = none → Pv D 0 (upd H D (.lst []))) (hl : ∀ D, H D = none → ∀ i H, i ≤ xs.length → Pv D i H → SqT K H a xs) (hx : SqT K H a xs)
    (hs : ∀ D, H D = none → ∀ i x H, xs[i]? = some x → Pv D i H → g x (wipe σ vs) H fun σ2 H2 => wipe σ2 vs = wipe σ vs ∧ tt σ2 H2 fun b H3 => if b = true then te σ2 H3 fun y H4 => ∃ acc, H4 D = some (.lst acc) ∧ acc.length < sizeLine ∧ Pv D (i + 1) (upd H4 D (.lst (acc ++ [y]))) else Pv D (i + 1) H3)
    (hd : ∀ D, H D = none → ∀ H, Pv D xs.length H → Q (.ref D) H) : LcT K g tt te vs σ Q (.ref a) H := ⟨a, rfl, ⟨xs, hx⟩, fun D hD => lc_tup (Pv D) (h0 D hD) (hl D hD) (hs D hD) (hd D hD)⟩
theorem mk_lcR1 {vs : List Nat} {n : Int} (hb : 0 ≤ n ∧ n < 4611686018427387904) (Pv : Addr → Nat → Hp → Prop) (h0 : ∀ D, H D = none → Pv D 0 (upd H D (.lst [])))
    (hs : ∀ D, H D = none → ∀ (i : Nat) H, (i : Int) < n → Pv D i H → g (.int (i : Int)) (wipe σ vs) H fun σ2 H2 => wipe σ2 vs = wipe σ vs ∧ tt σ2 H2 fun b H3 => if b = true then te σ2 H3 fun y H4 => ∃ acc, H4 D = some (.lst acc) ∧ acc.length < sizeLine ∧ Pv D (i + 1) (upd H4 D (.lst (acc ++ [y]))) else Pv D (i + 1) H3)
    (hd : ∀ D, H D = none → ∀ H, Pv D n.toNat H → Q (.ref D) H) : LcR1 g tt te vs σ Q [.int n] H := ⟨n, rfl, by omega, by omega, fun D hD => lc_range (lo := 0) (n := n.toNat) (Pv D) (h0 D hD) (fun i H hi p => by rw [Int.zero_add]; exact hs D hD i H (by omega) p) (hd D hD)⟩
end
theorem bl_pow (t : Nat) : Builtin.Int.intBits (2 ^ t) = t + 1 := by
  unfold Builtin.Int.intBits
  have e : ((2 : Int) ^ t).natAbs = 2 ^ t := by rw [Int.natAbs_pow]; rfl
  rw [e, Nat.log2_two_pow]
  have p : (0 : Int) < 2 ^ t := PySem.W.kbt_pos t
  split
  · rename_i h
    have := eq_of_beq h
    omega
  · rfl
theorem dp_tup {K : PySem.W.Frag} {H : Hp} {p : Addr} {xs : List V} {ds : List PyData} (h : SqT K H p xs) (hd : DpAll K H xs ds) : Dp K H (.ref p) (.tuple ds) := .tup h hd
theorem g_eqD {K : PySem.W.Frag} {H : Hp} {Q : VK} {x y : V} {d e : PyData} {b : Bool} (hx : Dp K H x d) (hy : Dp K H y e) (sd : SeqAt.shaped d = true) (se : SeqAt.shaped e = true) (hb : PyData.eqv d e = b) (k : Q (.bl b) H) : rEqD K x y H Q := ⟨d, e, hx, hy, sd, se, by rw [hb]; exact k⟩
theorem g_neD {K : PySem.W.Frag} {H : Hp} {Q : VK} {x y : V} {d e : PyData} {b : Bool} (hx : Dp K H x d) (hy : Dp K H y e) (sd : SeqAt.shaped d = true) (se : SeqAt.shaped e = true) (hb : PyData.eqv d e = b) (k : Q (.bl (!b)) H) : rNeD K x y H Q := ⟨d, e, hx, hy, sd, se, by rw [hb]; exact k⟩
/-- a written dict -/
theorem g_lenT {K : PySem.W.Frag} {H : Hp} {Q : VK} {p : Addr} {xs : List V} (h : SqT K H p xs) (k : Q (.int xs.length) H) : rLenS K [.ref p] H Q := ⟨p, xs, rfl, .inr h, k⟩
theorem g_lenL {K : PySem.W.Frag} {H : Hp} {Q : VK} {p : Addr} {xs : List V} (h : SqL K H p xs) (k : Q (.int xs.length) H) : rLenS K [.ref p] H Q := ⟨p, xs, rfl, .inl h, k⟩
theorem g_listL {K : PySem.W.Frag} {H : Hp} {Q : VK} {p : Addr} {xs : List V} (h : SqL K H p xs) (k : ∀ l, H l = none → Q (.ref l) (upd H l (.lst xs))) : rListOf K [.ref p] H Q := ⟨p, xs, rfl, .inl h, k⟩
theorem g_sum {K : PySem.W.Frag} {H : Hp} {Q : VK} {p : Addr} (ns : List Int) (h : SqL K H p (ns.map V.int)) (k : Q (.int ns.sum) H) : rSum K [.ref p] H Q := ⟨p, ns, rfl, h, k⟩
theorem g_allL {K : PySem.W.Frag} {H : Hp} {Q : VK} {p : Addr} (bs : List Bool) (h : SqL K H p (bs.map V.bl)) (k : Q (.bl (bs.all id)) H) : rAll K [.ref p] H Q := ⟨p, bs, rfl, h, k⟩
theorem g_anyL {K : PySem.W.Frag} {H : Hp} {Q : VK} {p : Addr} (bs : List Bool) (h : SqL K H p (bs.map V.bl)) (k : Q (.bl (bs.any id)) H) : rAny K [.ref p] H Q := ⟨p, bs, rfl, h, k⟩
theorem g_slT {K : PySem.W.Frag} {H : Hp} {Q : VK} {p : Addr} {xs : List V} {lo hi : Option Int} (h : SqT K H p xs) (hn : ¬ (HT.sIx xs.length 0 lo = 0 ∧ HT.sIx xs.length xs.length hi = xs.length)) (k : ∀ q, H q = none → Q (.ref q) (upd H q (.tup (cutV xs lo hi)))) : rSlT K (.ref p) lo hi H Q := ⟨p, xs, rfl, h, hn, k⟩
theorem g_slL {K : PySem.W.Frag} {H : Hp} {Q : VK} {p : Addr} {xs : List V} {lo hi : Option Int} (h : SqL K H p xs) (k : ∀ q, H q = none → Q (.ref q) (upd H q (.lst (cutV xs lo hi)))) : rSlL K (.ref p) lo hi H Q := ⟨p, xs, rfl, h, k⟩
theorem sh_of {d : PyData} (h1 : PyData.canLay0 d = true) (h2 : PyData.depth d ≤ 64) : SeqAt.shaped d = true := Bool.and_eq_true_iff.mpr ⟨h1, decide_eq_true h2⟩
theorem cl_int {i : Int} : PyData.canLay0 (.int i) = true := by simp only [PyData.canLay0]
theorem cl_str {x : Str} (h : PyData.strOk x = true := by decide +kernel) : PyData.canLay0 (.str x) = true := by simp only [PyData.canLay0]; exact h
theorem cl_tup {ds : List PyData} (h : PyData.canLayAll0 ds = true) : PyData.canLay0 (.tuple ds) = true := by simp only [PyData.canLay0]; exact h
theorem cl_nil : PyData.canLayAll0 [] = true := by simp only [PyData.canLayAll0]
theorem cl_cons {d : PyData} {ds : List PyData} (h : PyData.canLay0 d = true) (k : PyData.canLayAll0 ds = true) : PyData.canLayAll0 (d :: ds) = true := by simp only [PyData.canLayAll0, h, k, Bool.and_self]
example (i : Int) : SeqAt.shaped (.tuple [.str "row", .int i]) = true := sh_of (cl_tup (cl_cons cl_str (cl_cons cl_int cl_nil))) (by simp only [PyData.depth, PyData.depthAll]; omega)
example (i : Int) : PyData.eqv (.tuple [.str "row", .int i]) (.tuple []) = false := by rfl
/-- all(..) over a made list of trues -/
theorem g_allT {K : PySem.W.Frag} {H : Hp} {Q : VK} {p : Addr} (n : Nat) (h : H p = some (.lst ((List.replicate n true).map V.bl))) (k : Q (.bl true) H) : rAll K [.ref p] H Q := ⟨p, List.replicate n true, rfl, .inl (.inl h), by
  have e : (List.replicate n true).all id = true := by rw [List.all_eq_true]; intro x hx; exact (List.mem_replicate.mp hx).2
  rw [e]; exact k⟩
theorem rep_len {n : Nat} {b : Bool} (h : n < 16777216) : ((List.replicate n b).map V.bl).length < sizeLine := by rw [List.length_map, List.length_replicate]; exact Nat.lt_of_lt_of_le h (by decide)
theorem rep_snoc {n : Nat} {b : Bool} : (List.replicate n b).map V.bl ++ [V.bl b] = (List.replicate (n + 1) b).map V.bl := by rw [List.replicate_succ', List.map_append]; rfl
theorem g_tl4 {K : PySem.W.Frag} {H : Hp} {Q : VK} {p : Addr} {a b c d : V} (h : SqT K H p [a, b, c, d]) (k : ∀ q, H q = none → upd H q (.tup [b, c, d]) q = some (.tup [b, c, d]) → Q (.ref q) (upd H q (.tup [b, c, d]))) : rSlT K (.ref p) (some 1) none H Q := g_slT h (by
  show ¬ (HT.sIx 4 0 (some 1) = 0 ∧ HT.sIx 4 4 none = 4)
  decide) fun q n => k q n upd_same
theorem g_tl3 {K : PySem.W.Frag} {H : Hp} {Q : VK} {p : Addr} {a b c : V} (h : SqT K H p [a, b, c]) (k : ∀ q, H q = none → upd H q (.tup [b, c]) q = some (.tup [b, c]) → Q (.ref q) (upd H q (.tup [b, c]))) : rSlT K (.ref p) (some 1) none H Q := g_slT h (by
  show ¬ (HT.sIx 3 0 (some 1) = 0 ∧ HT.sIx 3 3 none = 3)
  decide) fun q n => k q n upd_same
theorem x_aug {i : Nat} {te : TE} {ti : TIp} {D : Ends} {σ : Sg} {H : Hp} : tAug i te ti D σ H = tVar i σ H fun x H0 => te σ H0 fun y H1 => ti x y H1 fun z H2 => D.nx (σ.set i (some z)) H2 := rfl
theorem x_ipI {f : Int → Int → Int} {a b : Int} {H : Hp} {Q : VK} : ipI f (.int a) (.int b) H Q = Q (.int (f a b)) H := propext ⟨fun ⟨i, j, e1, e2, h⟩ => by cases e1; cases e2; exact h, fun h => ⟨a, b, rfl, rfl, h⟩⟩
theorem x_ib {i : Int} {k : Bool} : ([V.int i] = [V.bl k]) = False := by simp
theorem x_bi {i : Int} {k : Bool} : ([V.bl k] = [V.int i]) = False := by simp
theorem x_onelB {b : Bool} {R : Bool → Prop} : (∃ k : Bool, [V.bl b] = [V.bl k] ∧ R k) = R b := propext ⟨fun ⟨i, e, h⟩ => by cases e; exact h, fun h => ⟨b, rfl, h⟩⟩
theorem x_two {a b : Int} {R : Int → Int → Prop} : (∃ i j : Int, [V.int a, V.int b] = [V.int i, V.int j] ∧ R i j) = R a b := propext ⟨fun ⟨i, j, e, h⟩ => by cases e; exact h, fun h => ⟨a, b, rfl, h⟩⟩
theorem x_onel {a : Int} {R : Int → Prop} : (∃ i : Int, [V.int a] = [V.int i] ∧ R i) = R a := propext ⟨fun ⟨i, e, h⟩ => by cases e; exact h, fun h => ⟨a, rfl, h⟩⟩
theorem g_cat {H : Hp} {Q : VK} {l b : Addr} {xs zs : List V} (h1 : H l = some (.lst xs)) (h2 : H b = some (.lst zs)) (hl : xs.length + zs.length ≤ sizeLine) (k : ∀ p, H p = none → upd H p (.lst (xs ++ zs)) p = some (.lst (xs ++ zs)) → Q (.ref p) (upd H p (.lst (xs ++ zs)))) : rCat (.ref l) (.ref b) H Q := ⟨l, b, xs, zs, rfl, rfl, h1, h2, hl, fun p n => k p n upd_same⟩
theorem x_disp {trs : List (TE × TE)} {σ : Sg} {H : Hp} {Q : VK} : tDisp trs σ H Q = ∀ p, H p = none → tPairs trs σ (upd H p (.dK [])) fun ps H2 => H2 p = some (.dK []) ∧ ∃ kvs : List (Key × V), ps = kvs.map (fun kv => (kV kv.1, kv.2)) ∧ kvs.length ≤ 15 ∧ Q (.ref p) (upd H2 p (.dK (mergeK [] kvs))) := rfl
theorem x_pairs0 {σ : Sg} {H : Hp} {QP : List (V × V) → Hp → Prop} : tPairs [] σ H QP = QP [] H := rfl
theorem x_pairsS {tk tv : TE} {trs : List (TE × TE)} {σ : Sg} {H : Hp} {QP : List (V × V) → Hp → Prop} : tPairs ((tk, tv) :: trs) σ H QP = tk σ H fun x H1 => tv σ H1 fun y H2 => tPairs trs σ H2 fun ps H3 => QP ((x, y) :: ps) H3 := rfl
theorem x_dget2 {td ty tx : TE} {σ : Sg} {H : Hp} {Q : VK} : tDGet2 td ty tx σ H Q = td σ H fun x H1 => ∃ a, x = .ref a ∧ IsD H1 a ∧ ty σ H1 fun y H2 => tx σ H2 fun z H3 => ∃ o, DGet H3 a y o ∧ Q (o.getD z) H3 := rfl
/-- a value comes back, what was tracked is as it was -/
abbrev Ret (v : V) (H : Hp) (Q : VK) : Prop := ∀ H', Same H H' → Q v H'
/-- a new tuple comes back -/
abbrev RetT (xs : List V) (H : Hp) (Q : VK) : Prop := ∀ H' p, Same H H' → H p = none → H' p = some (.tup xs) → Q (.ref p) H'
end WK

set_option maxHeartbeats 4000000
/-! plain mathematics: affine rounds modulo powers of two -/
namespace Mt
/-- n rounds, unreduced -/
def It (a b : Int) : Nat → Int → Int
  | 0, x => x
  | n + 1, x => a * It a b n x + b
theorem It_add (a b : Int) (n m : Nat) (x : Int) : It a b (n + m) x = It a b m (It a b n x) := by
  induction m with
  | zero => rfl
  | succ m ih => show a * It a b (n + m) x + b = a * It a b m (It a b n x) + b; rw [ih]
theorem It_aff (a b : Int) (n : Nat) (x y : Int) : It a b n x - It a b n y = a ^ n * (x - y) := by
  induction n with
  | zero => simp [It]
  | succ n ih =>
    show a * It a b n x + b - (a * It a b n y + b) = a ^ (n + 1) * (x - y)
    have e : a * It a b n x + b - (a * It a b n y + b) = a * (It a b n x - It a b n y) := by grind
    rw [e, ih, Int.pow_succ]; grind
theorem It_lin (a b : Int) (n : Nat) (x : Int) : It a b n x = a ^ n * x + It a b n 0 := by
  have h := It_aff a b n x 0
  grind
/-- congruence -/
abbrev Cg (m x y : Int) : Prop := m ∣ x - y
theorem Cg.refl (m x : Int) : Cg m x x := ⟨0, by simp⟩
theorem Cg.symm {m x y : Int} (h : Cg m x y) : Cg m y x := by
  obtain ⟨c, h⟩ := h
  exact ⟨-c, by grind⟩
theorem Cg.trans {m x y z : Int} (h : Cg m x y) (k : Cg m y z) : Cg m x z := by
  obtain ⟨c, h⟩ := h
  obtain ⟨d, k⟩ := k
  exact ⟨c + d, by grind⟩
theorem Cg.add {m x y u v : Int} (h : Cg m x y) (k : Cg m u v) : Cg m (x + u) (y + v) := by
  obtain ⟨c, h⟩ := h
  obtain ⟨d, k⟩ := k
  exact ⟨c + d, by grind⟩
theorem Cg.sub {m x y u v : Int} (h : Cg m x y) (k : Cg m u v) : Cg m (x - u) (y - v) := by
  obtain ⟨c, h⟩ := h
  obtain ⟨d, k⟩ := k
  exact ⟨c - d, by grind⟩
theorem Cg.mul {m x y u v : Int} (h : Cg m x y) (k : Cg m u v) : Cg m (x * u) (y * v) := by
  obtain ⟨c, h⟩ := h
  obtain ⟨d, k⟩ := k
  exact ⟨c * u + y * d, by grind⟩
theorem Cg.pow {m x y : Int} (h : Cg m x y) (n : Nat) : Cg m (x ^ n) (y ^ n) := by
  induction n with
  | zero => rw [Int.pow_zero, Int.pow_zero]; exact Cg.refl _ _
  | succ n ih => rw [Int.pow_succ, Int.pow_succ]; exact ih.mul h
theorem Cg.of_mod (m x : Int) : Cg m (x % m) x := ⟨-(x / m), by have := Int.emod_add_mul_ediv x m; grind⟩
theorem Cg.eq_mod {m x y : Int} (h : Cg m x y) : x % m = y % m := by
  obtain ⟨c, h⟩ := h
  have e : x = y + m * c := by grind
  rw [e, Int.add_mul_emod_self_left]
theorem Cg.of_eq {m x y : Int} (h : x % m = y % m) : Cg m x y := (Cg.of_mod m x).symm.trans (by rw [h]; exact Cg.of_mod m y)
theorem Cg.weak {m k x y : Int} (h : Cg m x y) (d : k ∣ m) : Cg k x y := Int.dvd_trans d h
/-- it respects congruence -/
theorem It_cg {m a b a' b' x y : Int} (ha : Cg m a a') (hb : Cg m b b') (h : Cg m x y) (n : Nat) : Cg m (It a b n x) (It a' b' n y) := by
  induction n with
  | zero => exact h
  | succ n ih => exact (ha.mul ih).add hb
theorem odd_pow {a : Int} (ha : a % 2 = 1) (n : Nat) : a ^ n % 2 = 1 := by
  induction n with
  | zero => rw [Int.pow_zero]; rfl
  | succ n ih => rw [Int.pow_succ, Int.mul_emod, ih, ha]; rfl
theorem cancel1 {a : Int} (ha : a % 2 = 1) : ∀ (t : Nat) (z : Int), (2 : Int) ^ t ∣ a * z → (2 : Int) ^ t ∣ z
  | 0, z, _ => ⟨z, by simp⟩
  | t + 1, z, h => by
    obtain ⟨c, hc⟩ := h
    obtain ⟨e, he⟩ : ∃ e, a = 2 * e + 1 := ⟨a / 2, by omega⟩
    have hp : (2 : Int) ^ (t + 1) = 2 * 2 ^ t := by rw [Int.pow_succ]; omega
    have hz : z = 2 * (2 ^ t * c - e * z) := by grind
    have hz2 : z % 2 = 0 := by omega
    obtain ⟨w, hw⟩ : ∃ w, z = 2 * w := ⟨z / 2, by omega⟩
    have h2 : (2 : Int) ^ t ∣ a * w := ⟨c, by
      have : 2 * (a * w) = 2 * (2 ^ t * c) := by grind
      omega⟩
    obtain ⟨d, hd⟩ := cancel1 ha t w h2
    exact ⟨d, by grind⟩
theorem It_inj {a b : Int} (ha : a % 2 = 1) {t n : Nat} {x y : Int} (h : Cg (2 ^ t) (It a b n x) (It a b n y)) : Cg (2 ^ t) x y := by
  have h2 : (2 : Int) ^ t ∣ It a b n x - It a b n y := h
  rw [It_aff] at h2
  exact cancel1 (odd_pow ha n) t _ h2
/-- 2 ^ k rounds lead back, modulo 2 ^ k -/
theorem It_pow {a b : Int} (ha : a % 2 = 1) : ∀ (k : Nat) (x : Int), Cg (2 ^ k) (It a b (2 ^ k) x) x
  | 0, x => ⟨It a b (2 ^ 0) x - x, by simp⟩
  | k + 1, x => by
    obtain ⟨c, hc⟩ := It_pow ha k x
    have e1 : It a b (2 ^ (k + 1)) x = It a b (2 ^ k) (It a b (2 ^ k) x) := by rw [Nat.pow_succ, show 2 ^ k * 2 = 2 ^ k + 2 ^ k by omega, It_add]
    have e2 := It_aff a b (2 ^ k) (It a b (2 ^ k) x) x
    have e3 := odd_pow ha (2 ^ k)
    generalize hA : a ^ (2 ^ k) = A at e2 e3
    obtain ⟨e, he⟩ : ∃ e, A = 2 * e + 1 := ⟨A / 2, by omega⟩
    have hp : (2 : Int) ^ (k + 1) = 2 * 2 ^ k := by rw [Int.pow_succ]; omega
    refine ⟨(e + 1) * c, ?_⟩
    rw [e1]
    generalize It a b (2 ^ k) (It a b (2 ^ k) x) = y at *
    generalize It a b (2 ^ k) x = z at *
    grind
/-! ### periods -/
theorem gcd_closed {S : Nat → Prop} (h0 : S 0) (hs : ∀ n m, S n → S m → S (n % m)) : ∀ m n, S m → S n → S (Nat.gcd m n) := by
  intro m n
  induction m, n using Nat.gcd.induction with
  | H0 n => intro _ h; rw [Nat.gcd_zero_left]; exact h
  | H1 m n hm ih => intro h1 h2; rw [Nat.gcd_rec]; exact ih (hs _ _ h2 h1) h1
theorem dvd_pow_two : ∀ (j g : Nat), g ∣ 2 ^ j → ∃ i, i ≤ j ∧ g = 2 ^ i
  | 0, g, h => ⟨0, Nat.le_refl _, by simpa using h⟩
  | j + 1, g, h => by
    obtain ⟨c, hc⟩ := h
    by_cases hg : g % 2 = 0
    · obtain ⟨k, hk⟩ : ∃ k, g = 2 * k := ⟨g / 2, by omega⟩
      have : 2 * (k * c) = 2 * 2 ^ j := by rw [← Nat.mul_assoc, ← hk, ← hc, Nat.pow_succ, Nat.mul_comm]
      obtain ⟨i, hi, e⟩ := dvd_pow_two j k ⟨c, by omega⟩
      exact ⟨i + 1, by omega, by rw [hk, e, Nat.pow_succ, Nat.mul_comm]⟩
    · have hc2 : c % 2 = 0 := by
        by_cases z : c % 2 = 0
        · exact z
        · have q : g * c % 2 = 1 := by rw [Nat.mul_mod, show g % 2 = 1 by omega, show c % 2 = 1 by omega]
          rw [← hc, Nat.pow_succ] at q
          omega
      obtain ⟨k, hk⟩ : ∃ k, c = 2 * k := ⟨c / 2, by omega⟩
      have : 2 * (g * k) = 2 * 2 ^ j := by
        have q : g * (2 * k) = 2 ^ j * 2 := by rw [← hk, ← hc, Nat.pow_succ]
        rw [Nat.mul_left_comm] at q
        omega
      obtain ⟨i, hi, e⟩ := dvd_pow_two j g ⟨k, by omega⟩
      exact ⟨i, by omega, e⟩
theorem per_add {m a b x : Int} {n k : Nat} (h : Cg m (It a b n x) x) (h2 : Cg m (It a b k x) x) : Cg m (It a b (n + k) x) x := by
  rw [It_add]
  exact (It_cg (Cg.refl _ _) (Cg.refl _ _) h k).trans h2
theorem per_sub {m a b x : Int} {n k : Nat} (h : Cg m (It a b n x) x) (h2 : Cg m (It a b (n + k) x) x) : Cg m (It a b k x) x := by
  rw [It_add] at h2
  exact (It_cg (Cg.refl _ _) (Cg.refl _ _) h k).symm.trans h2
theorem per_mul {m a b x : Int} {n : Nat} (h : Cg m (It a b n x) x) : ∀ q : Nat, Cg m (It a b (n * q) x) x
  | 0 => Cg.refl _ _
  | q + 1 => per_add (per_mul h q) h
theorem per_mod {m a b x : Int} {n k : Nat} (h : Cg m (It a b n x) x) (h2 : Cg m (It a b k x) x) : Cg m (It a b (k % n) x) x := by
  have e := Nat.div_add_mod k n
  rw [← e] at h2
  exact per_sub (per_mul h _) h2
/-- r is the period of x, modulo m -/
def Per (m a b x : Int) (r : Nat) : Prop := ∀ n : Nat, Cg m (It a b n x) x ↔ r ∣ n
theorem per_of_least {m a b x : Int} {j : Nat} (h : Cg m (It a b (2 ^ j) x) x) (hl : ∀ i, i < j → ¬ Cg m (It a b (2 ^ i) x) x) : Per m a b x (2 ^ j) := by
  intro n
  constructor
  · intro hn
    have g := gcd_closed (S := fun n => Cg m (It a b n x) x) (Cg.refl _ _) (fun n k a b => per_mod b a) n (2 ^ j) hn h
    obtain ⟨i, hi, e⟩ := dvd_pow_two j (Nat.gcd n (2 ^ j)) (Nat.gcd_dvd_right _ _)
    rw [e] at g
    have : i = j := by
      by_cases z : i < j
      · exact absurd g (hl i z)
      · omega
    rw [this] at e
    rw [← e]
    exact Nat.gcd_dvd_left _ _
  · rintro ⟨q, rfl⟩
    exact per_mul h q
/-- two numbers of rounds lead to the same place just if they differ by periods -/
theorem per_eq {a b : Int} (ha : a % 2 = 1) {t : Nat} {x : Int} {r : Nat} (h : Per (2 ^ t) a b x r) {n k : Nat} (hn : n ≤ k) : Cg (2 ^ t) (It a b k x) (It a b n x) ↔ r ∣ k - n := by
  rw [← h (k - n)]
  have e : It a b k x = It a b n (It a b (k - n) x) := by rw [← It_add]; congr 1; omega
  rw [e]
  constructor
  · exact It_inj ha
  · exact fun q => It_cg (Cg.refl _ _) (Cg.refl _ _) q n
theorem per_at {a b : Int} (ha : a % 2 = 1) {t : Nat} {x : Int} {r : Nat} (h : Per (2 ^ t) a b x r) (c : Nat) : Per (2 ^ t) a b (It a b c x) r := by
  intro n
  have e := per_eq ha h (n := c) (k := c + n) (by omega)
  rw [It_add, show c + n - c = n by omega] at e
  exact e
theorem per_cg {m a b x y : Int} {r : Nat} (h : Per m a b x r) (e : Cg m x y) : Per m a b y r := fun n => by
  rw [← h n]
  have c := It_cg (Cg.refl m a) (Cg.refl m b) e n
  exact ⟨fun q => c.trans (q.trans e.symm), fun q => c.symm.trans (q.trans e)⟩
/-! ### bit by bit -/
section
variable {a b x : Int} {t c r : Nat}
theorem per_zero (a b x : Int) : Per (2 ^ 0) a b x 1 := fun n => ⟨fun _ => Nat.one_dvd n, fun _ => ⟨It a b n x - x, by simp⟩⟩
theorem cg_down {u v : Int} (h : Cg (2 ^ (t + 1)) u v) : Cg (2 ^ t) u v := h.weak ⟨2, by rw [Int.pow_succ]⟩
theorem per_stay (ha : a % 2 = 1) (h : Per (2 ^ t) a b x r) (h2 : Cg (2 ^ (t + 1)) (It a b r x) x) : Per (2 ^ (t + 1)) a b x r := fun n => by
  constructor
  · exact fun q => (h n).mp (cg_down q)
  · rintro ⟨q, rfl⟩
    exact per_mul h2 q
theorem per_double (ha : a % 2 = 1) (h : Per (2 ^ t) a b x r) (h2 : ¬ Cg (2 ^ (t + 1)) (It a b r x) x) : Per (2 ^ (t + 1)) a b x (2 * r) := fun n => by
  have two : Cg (2 ^ (t + 1)) (It a b (2 * r) x) x := by
    obtain ⟨d, hd⟩ := (h r).mpr (Nat.dvd_refl r)
    have e1 : It a b (2 * r) x = It a b r (It a b r x) := by rw [show 2 * r = r + r by omega, It_add]
    have e2 := It_aff a b r (It a b r x) x
    have e3 := odd_pow ha r
    generalize a ^ r = A at e2 e3
    obtain ⟨e, he⟩ : ∃ e, A = 2 * e + 1 := ⟨A / 2, by omega⟩
    have hp : (2 : Int) ^ (t + 1) = 2 * 2 ^ t := by rw [Int.pow_succ]; omega
    refine ⟨(e + 1) * d, ?_⟩
    rw [e1]
    generalize It a b r (It a b r x) = y at *
    generalize It a b r x = z at *
    grind
  constructor
  · intro q
    obtain ⟨k, rfl⟩ := (h n).mp (cg_down q)
    by_cases hk : k % 2 = 0
    · obtain ⟨l, hl⟩ : ∃ l, k = 2 * l := ⟨k / 2, by omega⟩
      exact ⟨l, by rw [hl]; grind⟩
    · obtain ⟨l, hl⟩ : ∃ l, k = 2 * l + 1 := ⟨k / 2, by omega⟩
      refine absurd ?_ h2
      have e : r * k = 2 * r * l + r := by rw [hl]; grind
      rw [e] at q
      exact per_sub (per_mul two l) q
  · rintro ⟨q, rfl⟩
    exact per_mul two q
theorem flip {u v y : Int} (h1 : Cg (2 ^ t) u y) (h2 : ¬ Cg (2 ^ (t + 1)) u y) (h3 : Cg (2 ^ t) v u) (h4 : ¬ Cg (2 ^ (t + 1)) v u) : Cg (2 ^ (t + 1)) v y := by
  obtain ⟨c, hc⟩ := h1
  obtain ⟨d, hd⟩ := h3
  have hp : (2 : Int) ^ (t + 1) = 2 * 2 ^ t := by rw [Int.pow_succ]; omega
  have oc : c % 2 = 1 := by
    by_cases z : c % 2 = 0
    · exact absurd ⟨c / 2, by rw [hp]; have : c = 2 * (c / 2) := by omega
                              grind⟩ h2
    · omega
  have od : d % 2 = 1 := by
    by_cases z : d % 2 = 0
    · exact absurd ⟨d / 2, by rw [hp]; have : d = 2 * (d / 2) := by omega
                              grind⟩ h4
    · omega
  refine ⟨(c + d) / 2, ?_⟩
  have : c + d = 2 * ((c + d) / 2) := by omega
  rw [hp]
  grind
theorem none_step (ha : a % 2 = 1) {y : Int} (h : Cg (2 ^ t) (It a b c x) y) (p : Per (2 ^ t) a b x r) (p1 : Per (2 ^ (t + 1)) a b x r) (hn : ¬ Cg (2 ^ (t + 1)) (It a b c x) y) (n : Nat) : ¬ Cg (2 ^ (t + 1)) (It a b n x) y := fun q => by
  refine hn ?_
  have z : Cg (2 ^ t) (It a b n x) (It a b c x) := (cg_down q).trans h.symm
  by_cases l : c ≤ n
  · exact ((per_eq ha p1 l).mpr ((per_eq ha p l).mp z)).symm.trans q
  · have l2 : n ≤ c := by omega
    exact ((per_eq ha p1 l2).mpr ((per_eq ha p l2).mp z.symm)).trans q
end
/-! ### modulo 2 ^ 64 -/
abbrev M64 : Int := 18446744073709551616
theorem M_eq : M64 = 2 ^ 64 := by decide
def wrap (n : Int) : Int := (n + 9223372036854775808) % 18446744073709551616 - 9223372036854775808
def I64 (n : Int) : Prop := -9223372036854775808 ≤ n ∧ n ≤ 9223372036854775807
def U64 (n : Int) : Prop := 0 ≤ n ∧ n < 18446744073709551616
theorem wrap_I64 (n : Int) : I64 (wrap n) := by unfold wrap I64; omega
theorem wrap_cg (n : Int) : Cg M64 (wrap n) n := ⟨(wrap n - n) / M64, by unfold wrap; show _ = (18446744073709551616 : Int) * ((_ - n) / 18446744073709551616); omega⟩
theorem wrap_eq {n x : Int} (hx : I64 x) (h : Cg M64 n x) : wrap n = x := by
  obtain ⟨c, h⟩ := h
  unfold I64 at hx
  unfold wrap
  have h' : n - x = 18446744073709551616 * c := h
  omega
theorem cg_I64 {x y : Int} (hx : I64 x) (hy : I64 y) (h : Cg M64 x y) : x = y := by
  obtain ⟨c, h⟩ := h
  unfold I64 at hx hy
  have h' : x - y = 18446744073709551616 * c := h
  omega
theorem U64_mod (n : Int) : U64 (n % M64) := by unfold U64; show 0 ≤ n % 18446744073709551616 ∧ n % 18446744073709551616 < _; omega
theorem cg_U64 {x y : Int} (hx : U64 x) (hy : U64 y) (h : Cg M64 x y) : x = y := by
  obtain ⟨c, h⟩ := h
  unfold U64 at hx hy
  have h' : x - y = 18446744073709551616 * c := h
  omega
/-- what a pair (a, b) tells: n rounds -/
structure Rep (a b : Int) (n : Nat) (p q : Int) : Prop where
  u1 : U64 p
  u2 : U64 q
  h1 : Cg M64 p (a ^ n)
  h2 : Cg M64 q (It a b n 0)
theorem rep_one (a b : Int) : Rep a b 1 (a % M64) (b % M64) := ⟨U64_mod _, U64_mod _, by rw [Int.pow_one]; exact Cg.of_mod _ _, by
  show Cg M64 (b % M64) (a * 0 + b)
  rw [Int.mul_zero, Int.zero_add]; exact Cg.of_mod _ _⟩
theorem rep_zero (a b : Int) : Rep a b 0 1 0 := ⟨⟨by decide, by decide⟩, ⟨by decide, by decide⟩, by rw [Int.pow_zero]; exact Cg.refl _ _, Cg.refl _ _⟩
theorem rep_behind {a b p q u v : Int} {n m : Nat} (h : Rep a b n p q) (k : Rep a b m u v) : Rep a b (n + m) (p * u % M64) ((q * u + v) % M64) := ⟨U64_mod _, U64_mod _, by
  rw [Int.pow_add]; exact (Cg.of_mod _ _).trans (h.h1.mul k.h1), by
  rw [It_add, It_lin a b m, Int.mul_comm (a ^ m)]
  exact (Cg.of_mod _ _).trans ((h.h2.mul k.h1).add k.h2)⟩
theorem rep_led {a b p q : Int} {n : Nat} (h : Rep a b n p q) {x y : Int} (e : Cg M64 y x) : Cg M64 ((p * y + q) % M64) (It a b n x) := by
  rw [It_lin]
  exact (Cg.of_mod _ _).trans ((h.h1.mul e).add h.h2)
theorem rep_cg {a b a' b' p q : Int} {n : Nat} (h : Rep a b n p q) (ha : Cg M64 a a') (hb : Cg M64 b b') : Rep a' b' n p q := ⟨h.u1, h.u2, h.h1.trans (ha.pow n), h.h2.trans (It_cg ha hb (Cg.refl _ _) n)⟩
/-! ### what the functions promise -/
/-- (t, r): tail and ring -/
def TR (a b x t r : Int) : Prop := (a % 2 = 0 ∧ r = 1 ∧ ∃ T : Nat, t = T ∧ Cg M64 (It a b (T + 1) x) (It a b T x) ∧ ∀ i, i < T → ¬ Cg M64 (It a b (i + 1) x) (It a b i x)) ∨
  (a % 2 = 1 ∧ t = 0 ∧ ∃ j : Nat, r = ((2 ^ j : Nat) : Int) ∧ Cg M64 (It a b (2 ^ j) x) x ∧ ∀ i, i < j → ¬ Cg M64 (It a b (2 ^ i) x) x)
/-- the least number of rounds to y -/
def RT (a b x y : Int) : Option Nat → Prop
  | some c => Cg M64 (It a b c x) y ∧ ∀ n, n < c → ¬ Cg M64 (It a b n x) y
  | none => ∀ n, ¬ Cg M64 (It a b n x) y
/-- the longest ring -/
def LR (a b r : Int) : Prop := (a % 2 = 0 ∧ r = 1) ∨ (a % 2 = 1 ∧ ∃ j : Nat, r = ((2 ^ j : Nat) : Int) ∧ (Cg M64 (a ^ (2 ^ j)) 1 ∧ Cg M64 (It a b (2 ^ j) 0) 0) ∧ ∀ i, i < j → ¬ (Cg M64 (a ^ (2 ^ i)) 1 ∧ Cg M64 (It a b (2 ^ i) 0) 0))
theorem even64 {a b : Int} (ha : a % 2 = 0) (x : Int) : Cg M64 (It a b (64 + 1) x) (It a b 64 x) := by
  have e : It a b (64 + 1) x = It a b 64 (It a b 1 x) := by rw [show (64 : Nat) + 1 = 1 + 64 by omega, It_add]
  rw [e]
  show M64 ∣ _
  rw [It_aff]
  obtain ⟨c, hc⟩ : ∃ c, a = 2 * c := ⟨a / 2, by omega⟩
  rw [hc, Int.mul_pow, M_eq, Int.mul_assoc]
  exact ⟨_, rfl⟩
theorem fix_on {m a b x : Int} {T : Nat} (h : Cg m (It a b (T + 1) x) (It a b T x)) : ∀ n, T ≤ n → Cg m (It a b n x) (It a b T x) := by
  intro n hn
  obtain ⟨k, rfl⟩ : ∃ k, n = T + k := ⟨n - T, by omega⟩
  induction k with
  | zero => exact Cg.refl _ _
  | succ k ih =>
    have e : It a b (T + (k + 1)) x = It a b 1 (It a b (T + k) x) := by rw [← It_add]; rfl
    have e2 : It a b (T + 1) x = It a b 1 (It a b T x) := by rw [← It_add]
    rw [e]
    rw [e2] at h
    exact (It_cg (Cg.refl _ _) (Cg.refl _ _) (ih (by omega)) 1).trans h
theorem fix_at {m a b x : Int} {T n : Nat} (h : Cg m (It a b (T + 1) x) (It a b T x)) (hn : T ≤ n) : Cg m (It a b (n + 1) x) (It a b n x) := (fix_on h (n + 1) (by omega)).trans (fix_on h n hn).symm
theorem It_twice {a b f s : Int} (hf : Cg M64 f (a * a)) (hs : Cg M64 s (a * b + b)) (n : Nat) (x : Int) : Cg M64 (It f s n x) (It a b (2 * n) x) := by
  induction n with
  | zero => exact Cg.refl _ _
  | succ n ih =>
    show Cg M64 (f * It f s n x + s) (a * (a * It a b (2 * n) x + b) + b)
    have e : a * (a * It a b (2 * n) x + b) + b = a * a * It a b (2 * n) x + (a * b + b) := by grind
    rw [e]
    exact (hf.mul ih).add hs
theorem odd_of_cg {a f : Int} (h : Cg M64 f a) : f % 2 = a % 2 := by
  obtain ⟨c, h⟩ := h
  have h' : f - a = 18446744073709551616 * c := h
  omega
theorem It_double (a b : Int) (n : Nat) (x : Int) : It a (2 * b) n (2 * x) = 2 * It a b n x := by
  induction n with
  | zero => rfl
  | succ n ih => show a * It a (2 * b) n (2 * x) + 2 * b = 2 * (a * It a b n x + b); rw [ih]; grind
theorem two_even {a b x : Int} (ha : a % 2 = 0) {n : Nat} (h : Cg M64 (It a b (n + 2) x) (It a b n x)) : Cg M64 (It a b (n + 1) x) (It a b n x) := by
  have e : It a b (n + 2) x - It a b n x = (a + 1) * (It a b (n + 1) x - It a b n x) := by
    show a * It a b (n + 1) x + b - It a b n x = _
    have e1 : It a b (n + 1) x = a * It a b n x + b := rfl
    generalize It a b n x = z at *
    generalize It a b (n + 1) x = y at *
    grind
  have h2 : M64 ∣ It a b (n + 2) x - It a b n x := h
  rw [e, M_eq] at h2
  show M64 ∣ _
  rw [M_eq]
  exact cancel1 (by omega) 64 _ h2
theorem tr_twice {a b x t r f s t' r' : Int} (h : TR a b x t r) (h2 : TR f s x t' r') (hf : Cg M64 f (a * a)) (hs : Cg M64 s (a * b + b)) :
    t' = (t + 1) / 2 ∧ r' = if r / 2 > 1 then r / 2 else 1 := by
  have par : f % 2 = a % 2 := by
    rw [odd_of_cg hf, Int.mul_emod]
    rcases (by omega : a % 2 = 0 ∨ a % 2 = 1) with e | e <;> rw [e] <;> rfl
  rcases h with ⟨ha, rfl, T, rfl, hT, lT⟩ | ⟨ha, rfl, j, rfl, hj, lj⟩
  · rcases h2 with ⟨_, rfl, T', rfl, hT', lT'⟩ | ⟨hf2, _⟩
    · refine ⟨?_, by decide⟩
      have key : ∀ n, Cg M64 (It f s (n + 1) x) (It f s n x) ↔ T ≤ 2 * n := fun n => by
        have e1 := It_twice hf hs (n + 1) x
        have e2 := It_twice hf hs n x
        rw [show 2 * (n + 1) = 2 * n + 2 by omega] at e1
        constructor
        · intro q
          have q2 := two_even ha (e1.symm.trans (q.trans e2))
          by_cases z : T ≤ 2 * n
          · exact z
          · exact absurd q2 (lT _ (by omega))
        · intro q
          refine e1.trans (Cg.trans ?_ e2.symm)
          exact (fix_on hT (2 * n + 2) (by omega)).trans (fix_on hT (2 * n) q).symm
      have k1 := (key T').mp hT'
      have k2 : ¬ T' > (T + 1) / 2 := fun z => lT' _ z ((key _).mpr (by omega))
      omega
    · omega
  · rcases h2 with ⟨hf2, _⟩ | ⟨_, rfl, j', rfl, hj', lj'⟩
    · omega
    · refine ⟨by decide, ?_⟩
      have key : ∀ i, Cg M64 (It f s (2 ^ i) x) x ↔ Cg M64 (It a b (2 ^ (i + 1)) x) x := fun i => by
        have e := It_twice hf hs (2 ^ i) x
        rw [show 2 * 2 ^ i = 2 ^ (i + 1) by rw [Nat.pow_succ]; omega] at e
        exact ⟨fun q => e.symm.trans q, fun q => e.trans q⟩
      cases j with
      | zero =>
        have z : Cg M64 (It a b (2 ^ (0 + 1)) x) x := per_add hj hj
        have : j' = 0 := by
          cases j' with
          | zero => rfl
          | succ j' => exact absurd ((key 0).mpr z) (lj' 0 (by omega))
        rw [this]; decide
      | succ j =>
        have h1 := (key j).mpr hj
        have : j' = j := by
          by_cases z1 : j' < j
          · exact absurd ((key j').mp hj') (lj (j' + 1) (by omega))
          · by_cases z2 : j < j'
            · exact absurd h1 (lj' j z2)
            · omega
        rw [this]
        have e : (((2 ^ (j + 1) : Nat) : Int)) / 2 = ((2 ^ j : Nat) : Int) := by rw [Nat.pow_succ]; omega
        rw [e]
        have p : 0 < 2 ^ j := Nat.two_pow_pos j
        split
        · rfl
        · omega
/-- the way back -/
structure Bk (a b g m : Int) : Prop where
  h1 : Cg M64 (g * a) 1
  h2 : Cg M64 m (-(g * b))
theorem Bk.there {a b g m : Int} (k : Bk a b g m) (x : Int) : Cg M64 (g * (a * x + b) + m) x := by
  have e := ((k.h1.mul (Cg.refl _ x)).add (Cg.refl _ (g * b))).add k.h2
  have e1 : g * a * x + g * b + m = g * (a * x + b) + m := by grind
  have e2 : 1 * x + g * b + -(g * b) = x := by grind
  rw [e1, e2] at e
  exact e
theorem Bk.here {a b g m : Int} (k : Bk a b g m) (x : Int) : Cg M64 (a * (g * x + m) + b) x := by
  have e := ((k.h1.mul (Cg.refl _ x)).add ((Cg.refl _ a).mul k.h2)).add (Cg.refl _ b)
  have e1 : g * a * x + a * m + b = a * (g * x + m) + b := by grind
  rw [e1] at e
  refine e.trans ?_
  have f := ((k.h1.mul (Cg.refl _ (-b))).add (Cg.refl _ (x + b)))
  have e2 : g * a * -b + (x + b) = 1 * x + a * -(g * b) + b := by grind
  have e3 : 1 * -b + (x + b) = x := by grind
  rw [e2, e3] at f
  exact f
theorem Bk.it {a b g m : Int} (k : Bk a b g m) (n : Nat) (x : Int) : Cg M64 (It g m n (It a b n x)) x := by
  induction n generalizing x with
  | zero => exact Cg.refl _ _
  | succ n ih =>
    have e : It g m (n + 1) (It a b (n + 1) x) = It g m n (It g m 1 (It a b (n + 1) x)) := by rw [← It_add, Nat.add_comm]
    rw [e]
    exact (It_cg (Cg.refl _ _) (Cg.refl _ _) (k.there _) n).trans (ih x)
theorem Bk.ti {a b g m : Int} (k : Bk a b g m) (n : Nat) (x : Int) : Cg M64 (It a b n (It g m n x)) x := by
  induction n generalizing x with
  | zero => exact Cg.refl _ _
  | succ n ih =>
    have e : It a b (n + 1) (It g m (n + 1) x) = It a b n (It a b 1 (It g m (n + 1) x)) := by rw [← It_add, Nat.add_comm]
    rw [e]
    exact (It_cg (Cg.refl _ _) (Cg.refl _ _) (k.here _) n).trans (ih x)
theorem Bk.iff {a b g m : Int} (k : Bk a b g m) (n : Nat) (x : Int) : Cg M64 (It g m n x) x ↔ Cg M64 (It a b n x) x :=
  ⟨fun q => (It_cg (Cg.refl _ _) (Cg.refl _ _) q n).symm.trans (k.ti n x), fun q => (It_cg (Cg.refl _ _) (Cg.refl _ _) q n).symm.trans (k.it n x)⟩
theorem least_eq {S S' : Nat → Prop} (e : ∀ n, S n ↔ S' n) {i j : Nat} (h : S i) (l : ∀ n, n < i → ¬ S n) (h' : S' j) (l' : ∀ n, n < j → ¬ S' n) : i = j := by
  by_cases z1 : i < j
  · exact absurd ((e i).mp h) (l' i z1)
  · by_cases z2 : j < i
    · exact absurd ((e j).mpr h') (l j z2)
    · omega
theorem Bk.odd {a b g m : Int} (k : Bk a b g m) (ha : a % 2 = 1) : g % 2 = 1 := by
  have h := odd_of_cg k.h1
  rw [Int.mul_emod, ha] at h
  omega
theorem tr_back {a b g m x t r t' r' : Int} (k : Bk a b g m) (ha : a % 2 = 1) (h : TR a b x t r) (h2 : TR g m x t' r') : t' = t ∧ r' = r := by
  have hg := k.odd ha
  rcases h with ⟨z, _⟩ | ⟨_, rfl, j, rfl, hj, lj⟩
  · omega
  · rcases h2 with ⟨z, _⟩ | ⟨_, rfl, j', rfl, hj', lj'⟩
    · omega
    · have e := least_eq (S := fun i => Cg M64 (It g m (2 ^ i) x) x) (S' := fun i => Cg M64 (It a b (2 ^ i) x) x) (fun i => k.iff _ x) hj' lj' hj lj
      rw [e]
      exact ⟨rfl, rfl⟩
theorem id_iff {a b : Int} {n : Nat} : (Cg M64 (a ^ n) 1 ∧ Cg M64 (It a b n 0) 0) ↔ ∀ x, Cg M64 (It a b n x) x := by
  constructor
  · rintro ⟨h1, h2⟩ x
    rw [It_lin]
    have e := (h1.mul (Cg.refl _ x)).add h2
    rw [Int.one_mul, Int.add_zero] at e
    exact e
  · intro h
    have h0 := h 0
    have h1 := h 1
    refine ⟨?_, h0⟩
    have e := h1.sub h0
    rw [It_lin a b n 1] at e
    have e2 : a ^ n * 1 + It a b n 0 - It a b n 0 = a ^ n := by grind
    rw [e2] at e
    exact e
theorem lr_back {a b g m r r' : Int} (k : Bk a b g m) (ha : a % 2 = 1) (h : LR a b r) (h2 : LR g m r') : r' = r := by
  have hg := k.odd ha
  rcases h with ⟨z, _⟩ | ⟨_, j, rfl, hj, lj⟩
  · omega
  · rcases h2 with ⟨z, _⟩ | ⟨_, j', rfl, hj', lj'⟩
    · omega
    · have e := least_eq (S := fun i => Cg M64 (g ^ 2 ^ i) 1 ∧ Cg M64 (It g m (2 ^ i) 0) 0) (S' := fun i => Cg M64 (a ^ 2 ^ i) 1 ∧ Cg M64 (It a b (2 ^ i) 0) 0)
        (fun i => by rw [id_iff, id_iff]; exact ⟨fun q x => (k.iff _ x).mp (q x), fun q x => (k.iff _ x).mpr (q x)⟩) hj' lj' hj lj
      rw [e]
theorem id64 {a b : Int} (ha : a % 2 = 1) (x : Int) : Cg M64 (It a b (2 ^ 64) x) x := by
  have h := It_pow (a := a) (b := b) ha 64 x
  rw [← M_eq] at h
  exact h
/-- the ring of an odd factor is the period -/
theorem tr_per {a b x t r : Int} (ha : a % 2 = 1) (h : TR a b x t r) : t = 0 ∧ ∃ R : Nat, r = (R : Int) ∧ 0 < R ∧ Per (2 ^ 64) a b x R := by
  rcases h with ⟨z, _⟩ | ⟨_, rfl, j, rfl, hj, lj⟩
  · omega
  · have hM := M_eq
    refine ⟨rfl, 2 ^ j, rfl, Nat.two_pow_pos j, ?_⟩
    rw [M_eq] at hj
    exact per_of_least hj fun i hi => by rw [← M_eq]; exact lj i hi
theorem rt_some {a b x y : Int} {o : Option Nat} (h : RT a b x y o) {n : Nat} (hn : Cg M64 (It a b n x) y) : ∃ c, o = some c ∧ c ≤ n ∧ Cg M64 (It a b c x) y := by
  cases o with
  | none => exact absurd hn (h n)
  | some c =>
    refine ⟨c, rfl, ?_, h.1⟩
    by_cases z : c ≤ n
    · exact z
    · exact absurd hn (h.2 n (by omega))
/-- rounds_to of an odd factor -/
theorem rt_odd {a b x y t r : Int} {o : Option Nat} (ha : a % 2 = 1) (h : RT a b x y o) (p : TR a b x t r) {n : Nat} (hn : Cg M64 (It a b n x) y) : ∃ c : Nat, o = some c ∧ (c : Int) = (n : Int) % r ∧ (c : Int) < r := by
  obtain ⟨_, R, rfl, hR, hp⟩ := tr_per ha p
  have e := Nat.div_add_mod n R
  have lt := Nat.mod_lt n hR
  have h1 : Cg M64 (It a b (n % R) x) y := by
    refine Cg.trans ?_ hn
    rw [M_eq]
    exact ((per_eq ha hp (Nat.mod_le n R)).mpr ⟨n / R, by omega⟩).symm
  obtain ⟨c, rfl, hc, hy⟩ := rt_some h h1
  have d : R ∣ n % R - c := (per_eq ha hp hc).mp (by rw [← M_eq]; exact h1.trans hy.symm)
  have : n % R - c = 0 := Nat.eq_zero_of_dvd_of_lt d (by omega)
  exact ⟨c, rfl, by omega, by omega⟩
theorem rt_back {a b g m x y t r : Int} {o : Option Nat} (k : Bk a b g m) (ha : a % 2 = 1) (h : RT g m x y o) (p : TR a b x t r) {n : Nat} (hn : Cg M64 (It a b n x) y) : ∃ c : Nat, o = some c ∧ (c : Int) = (0 - (n : Int)) % r := by
  obtain ⟨_, R, rfl, hR, hp⟩ := tr_per ha p
  have hg := k.odd ha
  have hpg : Per (2 ^ 64) g m x R := fun i => by
    rw [← hp i, ← M_eq]
    exact k.iff i x
  -- a number of rounds back that leads there
  obtain ⟨e, he⟩ : ∃ e : Nat, (e : Int) = (0 - (n : Int)) % (R : Int) := ⟨((0 - (n : Int)) % (R : Int)).toNat, by
    have := Int.emod_nonneg (0 - (n : Int)) (show (R : Int) ≠ 0 by omega)
    omega⟩
  have hlt : e < R := by
    have := Int.emod_lt_of_pos (0 - (n : Int)) (show (0 : Int) < (R : Int) by omega)
    omega
  have dv : R ∣ e + n := by
    have d : (R : Int) ∣ (e : Int) + n := by
      rw [he]
      have q := Int.emod_add_mul_ediv (0 - (n : Int)) (R : Int)
      exact ⟨-((0 - (n : Int)) / R), by grind⟩
    exact Int.natCast_dvd_natCast.mp (by rw [Int.natCast_add]; exact d)
  have h1 : Cg M64 (It g m e x) y := by
    -- y = f^n x, f^(e+n) x = x
    have q : Cg M64 (It a b e y) x := by
      have q1 : Cg M64 (It a b (n + e) x) x := by rw [M_eq]; exact (hp _).mpr (by rw [Nat.add_comm]; exact dv)
      rw [It_add] at q1
      exact (It_cg (Cg.refl _ _) (Cg.refl _ _) hn.symm e).trans q1
    exact (It_cg (Cg.refl _ _) (Cg.refl _ _) q.symm e).trans (k.it e y)
  obtain ⟨c, rfl, hc, hy⟩ := rt_some h h1
  have d : R ∣ e - c := (per_eq hg hpg hc).mp (by rw [← M_eq]; exact h1.trans hy.symm)
  have : e - c = 0 := Nat.eq_zero_of_dvd_of_lt d (by omega)
  exact ⟨c, rfl, by omega⟩
theorem rt_parts {a b x t r : Int} {n k : Nat} {o1 o2 o3 : Option Nat} (p : TR a b x t r) (h1 : RT a b x (It a b (n + k) x) o1) (h2 : RT a b x (It a b n x) o2) (h3 : RT a b (It a b n x) (It a b (n + k) x) o3) :
    ∃ c1 c2 c3 : Nat, o1 = some c1 ∧ o2 = some c2 ∧ o3 = some c3 ∧ (c1 : Int) ≤ (c2 : Int) + c3 ∧ ((c2 : Int) + c3 - c1) % r = 0 ∧ (c1 : Int) < t + r ∧ 0 < r := by
  obtain ⟨c2, rfl, l2, e2⟩ := rt_some h2 (Cg.refl _ _)
  obtain ⟨c3, rfl, l3, e3⟩ := rt_some h3 (n := k) (by rw [It_add]; exact Cg.refl _ _)
  have e : Cg M64 (It a b (c2 + c3) x) (It a b (n + k) x) := by
    rw [It_add a b c2]
    exact (It_cg (Cg.refl _ _) (Cg.refl _ _) e2 c3).trans e3
  obtain ⟨c1, rfl, l1, e1⟩ := rt_some h1 e
  refine ⟨c1, c2, c3, rfl, rfl, rfl, by omega, ?_⟩
  rcases p with ⟨ha, rfl, T, rfl, hT, lT⟩ | ⟨ha, rfl, j, rfl, hj, lj⟩
  · refine ⟨by omega, ?_, by decide⟩
    have : c1 ≤ T := by
      by_cases z : n + k ≤ T
      · obtain ⟨c, q, l, _⟩ := rt_some h1 (Cg.refl M64 (It a b (n + k) x))
        cases q
        omega
      · obtain ⟨c, q, l, _⟩ := rt_some h1 (fix_on hT (n + k) (by omega)).symm
        cases q
        exact l
    omega
  · have hp := per_of_least hj lj
    rw [M_eq] at hp
    have hR : 0 < 2 ^ j := Nat.two_pow_pos j
    have d : 2 ^ j ∣ c2 + c3 - c1 := (per_eq ha hp l1).mp (by rw [← M_eq]; exact e.trans e1.symm)
    have d2 : (((2 ^ j : Nat) : Int)) ∣ (c2 : Int) + c3 - c1 := by
      have : (c2 : Int) + c3 - c1 = ((c2 + c3 - c1 : Nat) : Int) := by omega
      rw [this]
      exact Int.natCast_dvd_natCast.mpr d
    refine ⟨Int.emod_eq_zero_of_dvd d2, ?_, by omega⟩
    obtain ⟨c, q, q2, q3⟩ := rt_odd (t := 0) (r := ((2 ^ j : Nat) : Int)) ha h1 (Or.inr ⟨ha, rfl, j, rfl, hj, lj⟩) (Cg.refl M64 (It a b (n + k) x))
    cases q
    omega
/-! ### equations by mul -/
theorem cancel_pow {t s : Nat} {z : Int} : (2 : Int) ^ (t + s) ∣ 2 ^ t * z ↔ (2 : Int) ^ s ∣ z := by
  have p : (0 : Int) < 2 ^ t := by have := Nat.two_pow_pos t; exact_mod_cast this
  rw [Int.pow_add]
  constructor
  · rintro ⟨c, hc⟩
    exact ⟨c, by rw [Int.mul_assoc] at hc; exact Int.eq_of_mul_eq_mul_left (by omega) hc⟩
  · rintro ⟨c, hc⟩
    exact ⟨c, by rw [hc, Int.mul_assoc]⟩
theorem inv_step {n f : Int} : 1 - n * (f * (2 - n * f)) = (1 - n * f) ^ 2 := by grind
theorem inv_start {n : Int} (hn : n % 2 = 1) : (2 : Int) ^ 64 ∣ (1 - n * n) ^ 64 := by
  obtain ⟨c, hc⟩ : ∃ c, 1 - n * n = 2 * c := ⟨(1 - n * n) / 2, by
    have : n * n % 2 = 1 := by rw [Int.mul_emod, hn]; rfl
    omega⟩
  rw [hc, Int.mul_pow]
  exact ⟨_, rfl⟩
/-- the row of all that, times 2 ^ t * u (u odd), are r -/
structure Row (other result first step many : Int) : Prop where
  i1 : I64 first
  s1 : 1 ≤ step
  s2 : step ≤ 18446744073709551616
  m1 : 1 ≤ many
  m2 : many ≤ 9223372036854775808
  top : first + step * (many - 1) ≤ 9223372036854775807
  iff : ∀ x, I64 x → (Cg M64 (x * other) result ↔ ∃ k, 0 ≤ k ∧ k < many ∧ x = first + step * k)
theorem row_of {other result o v : Int} {t : Nat} (ht : t ≤ 63) (ho : other = 2 ^ t * (2 * o + 1)) (hr : result % 2 ^ t = 0) (hv : Cg M64 ((other / 2 ^ t) * v) 1)
    {step least first : Int} (hs : step = M64 / 2 ^ t) (hl : least = result / 2 ^ t * v % step) (hf : first = if least + -9223372036854775808 / step * step ≥ -9223372036854775808 then least + -9223372036854775808 / step * step else least + -9223372036854775808 / step * step + step) :
    Row other result first step (2 ^ t) := by
  obtain ⟨s, hts⟩ : ∃ s : Nat, t + s = 64 := ⟨64 - t, by omega⟩
  have pt : (0 : Int) < 2 ^ t := by have := Nat.two_pow_pos t; exact_mod_cast this
  have ps : (0 : Int) < 2 ^ s := by have := Nat.two_pow_pos s; exact_mod_cast this
  have eM : M64 = 2 ^ t * 2 ^ s := by rw [M_eq, ← hts, Int.pow_add]
  have es : step = 2 ^ s := by rw [hs, eM, Int.mul_ediv_cancel_left _ (by omega)]
  have eo : other / 2 ^ t = 2 * o + 1 := by rw [ho, Int.mul_ediv_cancel_left _ (by omega)]
  rw [eo] at hv
  obtain ⟨q, hq⟩ : ∃ q, result = 2 ^ t * q := ⟨result / 2 ^ t, by have := Int.emod_add_mul_ediv result (2 ^ t); omega⟩
  have eq : result / 2 ^ t = q := by rw [hq, Int.mul_ediv_cancel_left _ (by omega)]
  rw [eq] at hl
  -- where first lies, and what it is
  have l0 : 0 ≤ least := by rw [hl]; exact Int.emod_nonneg _ (by omega)
  have l1 : least < step := by rw [hl]; exact Int.emod_lt_of_pos _ (by omega)
  have fac : I64 first ∧ first < -9223372036854775808 + step ∧ Cg step first least ∧ step ≤ 18446744073709551616 := by
    by_cases z : t = 0
    · have e : s = 64 := by omega
      rw [e] at es
      have es' : step = 18446744073709551616 := by rw [es]; decide
      rw [es'] at hf l1 ⊢
      have d : (-9223372036854775808 : Int) / 18446744073709551616 * 18446744073709551616 = -18446744073709551616 := by decide
      rw [d] at hf
      unfold I64
      split at hf
      · exact ⟨by omega, by omega, ⟨-1, by omega⟩, by omega⟩
      · exact ⟨by omega, by omega, ⟨0, by omega⟩, by omega⟩
    · obtain ⟨t', ht'⟩ : ∃ t', t = t' + 1 := ⟨t - 1, by omega⟩
      have e63 : (9223372036854775808 : Int) = 2 ^ t' * step := by
        have : M64 = 2 * (2 ^ t' * step) := by rw [eM, ht', Int.pow_succ, es]; grind
        have : (18446744073709551616 : Int) = 2 * (2 ^ t' * step) := this
        omega
      have d : (-9223372036854775808 : Int) / step * step = -9223372036854775808 := by
        refine Int.ediv_mul_cancel ⟨-(2 ^ t'), ?_⟩
        have : step * -(2 ^ t') = -(2 ^ t' * step) := by grind
        omega
      rw [d, if_pos (by omega)] at hf
      have hp : 1 ≤ (2 : Int) ^ t' := by have := Nat.two_pow_pos t'; exact_mod_cast this
      have hle : step ≤ 9223372036854775808 := by
        rw [e63]
        have := Int.mul_le_mul_of_nonneg_right hp (show (0 : Int) ≤ step by omega)
        omega
      unfold I64
      refine ⟨by omega, by omega, ⟨-(2 ^ t'), ?_⟩, by omega⟩
      have : step * -(2 ^ t') = -(2 ^ t' * step) := by grind
      omega
  obtain ⟨f1, f2, f3, f4⟩ := fac
  have eM2 : (18446744073709551616 : Int) = 2 ^ t * step := by rw [es]; exact eM
  have sp : 1 ≤ step := by omega
  have mle : (2 : Int) ^ t ≤ 9223372036854775808 := by
    have h := Nat.pow_le_pow_right (show 0 < 2 by decide) ht
    have e : (2 : Nat) ^ 63 = 9223372036854775808 := by decide
    rw [e] at h
    have c : ((2 ^ t : Nat) : Int) = (2 : Int) ^ t := Int.natCast_pow 2 t
    omega
  unfold I64 at f1
  refine ⟨f1, sp, f4, by omega, mle, ?_, fun x hx => ?_⟩
  · have : step * (2 ^ t - 1) = 2 ^ t * step - step := by grind
    omega
  · -- the equation, modulo step
    have c1 : Cg M64 (x * other) result ↔ Cg step (x * (2 * o + 1)) q := by
      have e : x * other - result = 2 ^ t * (x * (2 * o + 1) - q) := by rw [ho, hq]; grind
      show M64 ∣ _ ↔ step ∣ _
      rw [e, es, M_eq, ← hts]
      exact cancel_pow
    have hv2 : Cg step ((2 * o + 1) * v) 1 := hv.weak ⟨2 ^ t, by rw [es, eM, Int.mul_comm]⟩
    have c2 : Cg step (x * (2 * o + 1)) q ↔ Cg step x first := by
      have fl : Cg step first (q * v) := f3.trans (by rw [hl]; exact Cg.of_mod _ _)
      constructor
      · intro k
        have k2 := k.mul (Cg.refl step v)
        have k3 := (Cg.refl step x).mul hv2
        have e : x * ((2 * o + 1) * v) = x * (2 * o + 1) * v := by grind
        rw [e, Int.mul_one] at k3
        exact k3.symm.trans (k2.trans fl.symm)
      · intro k
        have k2 := (k.trans fl).mul (Cg.refl step (2 * o + 1))
        have k3 := (Cg.refl step q).mul hv2
        have e : q * ((2 * o + 1) * v) = q * v * (2 * o + 1) := by grind
        rw [e, Int.mul_one] at k3
        exact k2.trans k3
    rw [c1, c2]
    unfold I64 at hx
    constructor
    · rintro ⟨k, hk⟩
      refine ⟨k, ?_, ?_, by omega⟩
      · by_cases z : 0 ≤ k
        · exact z
        · have : step * k ≤ step * (-1) := Int.mul_le_mul_of_nonneg_left (by omega) (by omega)
          omega
      · by_cases z : k < 2 ^ t
        · exact z
        · have : step * 2 ^ t ≤ step * k := Int.mul_le_mul_of_nonneg_left (by omega) (by omega)
          have : step * 2 ^ t = 2 ^ t * step := Int.mul_comm _ _
          omega
    · rintro ⟨k, _, _, e⟩
      exact ⟨k, by omega⟩
theorem no_row {other result o : Int} {t : Nat} (ht : t ≤ 63) (ho : other = 2 ^ t * (2 * o + 1)) (hr : result % 2 ^ t ≠ 0) (x : Int) : ¬ Cg M64 (x * other) result := by
  rintro ⟨c, hc⟩
  refine hr (Int.emod_eq_zero_of_dvd ?_)
  obtain ⟨s, hts⟩ : ∃ s : Nat, t + s = 64 := ⟨64 - t, by omega⟩
  have eM : M64 = 2 ^ t * 2 ^ s := by rw [M_eq, ← hts, Int.pow_add]
  refine ⟨x * (2 * o + 1) - 2 ^ s * c, ?_⟩
  rw [ho] at hc
  rw [eM] at hc
  grind
/-- an integer that is not 0 by its twos -/
theorem twos_of {n : Int} (h : n ≠ 0) : ∃ (t : Nat) (o : Int), n = 2 ^ t * (2 * o + 1) := by
  have key : ∀ (k : Nat) (n : Int), n.natAbs ≤ k → n ≠ 0 → ∃ (t : Nat) (o : Int), n = 2 ^ t * (2 * o + 1) := by
    intro k
    induction k with
    | zero => intro n hk hn; omega
    | succ k ih =>
      intro n hk hn
      by_cases z : n % 2 = 0
      · obtain ⟨t, o, e⟩ := ih (n / 2) (by omega) (by omega)
        refine ⟨t + 1, o, ?_⟩
        have e2 : n = 2 * (n / 2) := by omega
        rw [e2, e, Int.pow_succ]
        grind
      · exact ⟨0, n / 2, by rw [Int.pow_zero]; omega⟩
  exact key n.natAbs n (Nat.le_refl _) h
theorem twos_le {n o : Int} {t : Nat} (h : n = 2 ^ t * (2 * o + 1)) (hn : I64 n) : t ≤ 63 := by
  by_cases z : t ≤ 63
  · exact z
  · exfalso
    have hp : (18446744073709551616 : Int) ≤ 2 ^ t := by
      have h := Nat.pow_le_pow_right (show 0 < 2 by decide) (show 64 ≤ t by omega)
      have e : (2 : Nat) ^ 64 = 18446744073709551616 := by decide
      rw [e] at h
      have c : ((2 ^ t : Nat) : Int) = (2 : Int) ^ t := Int.natCast_pow 2 t
      omega
    unfold I64 at hn
    by_cases y : 0 ≤ o
    · have : 2 ^ t * 1 ≤ (2 : Int) ^ t * (2 * o + 1) := Int.mul_le_mul_of_nonneg_left (by omega) (by omega)
      omega
    · have : (2 : Int) ^ t * (2 * o + 1) ≤ 2 ^ t * (-1) := Int.mul_le_mul_of_nonneg_left (by omega) (by omega)
      omega
end Mt

set_option maxHeartbeats 4000000
namespace W41
open PySem PySem.Spec PyProof.Rows L2 WK Mt
abbrev PG : Program := PySem.Challenge.pw_walkmade_k41_whole_rounds_as_equations
def top (i : Nat) : Stmt := PG.main.body.getD i (.Pass ⟨0, 0, 0, 0⟩)
abbrev s_wrapped : Stmt := top 20
theorem sc_wrapped : FnScope ["number"] ["number"] (defScope s_wrapped) := ⟨rfl, rfl, rfl, by decide +kernel, rfl, by decide +kernel, by decide +kernel⟩
abbrev s_is_whole_number : Stmt := top 38
theorem sc_is_whole_number : FnScope ["thing"] ["thing"] (defScope s_is_whole_number) := ⟨rfl, rfl, rfl, by decide +kernel, rfl, by decide +kernel, by decide +kernel⟩
abbrev s_arith : Stmt := top 23
theorem sc_arith : FnScope ["word", "one", "other"] ["word", "one", "other"] (defScope s_arith) := ⟨rfl, rfl, rfl, by decide +kernel, rfl, by decide +kernel, by decide +kernel⟩
abbrev s_check_equation : Stmt := top 39
theorem sc_check_equation : FnScope ["word", "other", "result"] ["word", "other", "result"] (defScope s_check_equation) := ⟨rfl, rfl, rfl, by decide +kernel, rfl, by decide +kernel, by decide +kernel⟩
abbrev s_row_told : Stmt := top 40
theorem sc_row_told : FnScope ["first", "step", "many"] ["first", "step", "many"] (defScope s_row_told) := ⟨rfl, rfl, rfl, by decide +kernel, rfl, by decide +kernel, by decide +kernel⟩
abbrev s_bits_told : Stmt := top 41
theorem sc_bits_told : FnScope ["fixed", "mask"] ["fixed", "mask"] (defScope s_bits_told) := ⟨rfl, rfl, rfl, by decide +kernel, rfl, by decide +kernel, by decide +kernel⟩
abbrev s_inverse : Stmt := top 43
theorem sc_inverse : FnScope ["number", "found", "turn"] ["number"] (defScope s_inverse) := ⟨rfl, rfl, rfl, by decide +kernel, rfl, by decide +kernel, by decide +kernel⟩
abbrev s_solved_mul : Stmt := top 44
theorem sc_solved_mul : FnScope ["other", "result", "twos", "step", "least", "first"] ["other", "result"] (defScope s_solved_mul) := ⟨rfl, rfl, rfl, by decide +kernel, rfl, by decide +kernel, by decide +kernel⟩
abbrev s_solved : Stmt := top 50
theorem sc_solved : FnScope ["word", "other", "result", "back", "ways"] ["word", "other", "result"] (defScope s_solved) := ⟨rfl, rfl, rfl, by decide +kernel, rfl, by decide +kernel, by decide +kernel⟩
abbrev s_count_of : Stmt := top 51
theorem sc_count_of : FnScope ["told", "at"] ["told"] (defScope s_count_of) := ⟨rfl, rfl, rfl, by decide +kernel, rfl, by decide +kernel, by decide +kernel⟩
abbrev s_check_solution : Stmt := top 52
theorem sc_check_solution : FnScope ["told", "part"] ["told"] (defScope s_check_solution) := ⟨rfl, rfl, rfl, by decide +kernel, rfl, by decide +kernel, by decide +kernel⟩
abbrev s_is_whole_or_many : Stmt := top 53
theorem sc_is_whole_or_many : FnScope ["thing"] ["thing"] (defScope s_is_whole_or_many) := ⟨rfl, rfl, rfl, by decide +kernel, rfl, by decide +kernel, by decide +kernel⟩
abbrev s_solution_at : Stmt := top 55
theorem sc_solution_at : FnScope ["told", "number", "found", "mask", "at"] ["told", "number"] (defScope s_solution_at) := ⟨rfl, rfl, rfl, by decide +kernel, rfl, by decide +kernel, by decide +kernel⟩
abbrev s_check_map : Stmt := top 59
theorem sc_check_map : FnScope ["a", "b", "x"] ["a", "b", "x"] (defScope s_check_map) := ⟨rfl, rfl, rfl, by decide +kernel, rfl, by decide +kernel, by decide +kernel⟩
abbrev s_behind : Stmt := top 60
theorem sc_behind : FnScope ["one", "other"] ["one", "other"] (defScope s_behind) := ⟨rfl, rfl, rfl, by decide +kernel, rfl, by decide +kernel, by decide +kernel⟩
abbrev s_powered : Stmt := top 61
theorem sc_powered : FnScope ["pair", "count", "found"] ["pair", "count"] (defScope s_powered) := ⟨rfl, rfl, rfl, by decide +kernel, rfl, by decide +kernel, by decide +kernel⟩
abbrev s_led : Stmt := top 62
theorem sc_led : FnScope ["pair", "x"] ["pair", "x"] (defScope s_led) := ⟨rfl, rfl, rfl, by decide +kernel, rfl, by decide +kernel, by decide +kernel⟩
abbrev s_after_rounds : Stmt := top 63
theorem sc_after_rounds : FnScope ["a", "b", "x", "count"] ["a", "b", "x", "count"] (defScope s_after_rounds) := ⟨rfl, rfl, rfl, by decide +kernel, rfl, by decide +kernel, by decide +kernel⟩
abbrev s_tail_and_ring : Stmt := top 64
theorem sc_tail_and_ring : FnScope ["a", "b", "x", "pair", "here", "tail", "ring"] ["a", "b", "x"] (defScope s_tail_and_ring) := ⟨rfl, rfl, rfl, by decide +kernel, rfl, by decide +kernel, by decide +kernel⟩
abbrev s_meeting_by_bits : Stmt := top 65
theorem sc_meeting_by_bits : FnScope ["pair", "x", "y", "count", "ring", "jump", "here", "bits", "whole", "doubles"] ["pair", "x", "y"] (defScope s_meeting_by_bits) := ⟨rfl, rfl, rfl, by decide +kernel, rfl, by decide +kernel, by decide +kernel⟩
abbrev s_rounds_to : Stmt := top 66
theorem sc_rounds_to : FnScope ["a", "b", "x", "y", "pair", "here", "goal", "tail", "count"] ["a", "b", "x", "y"] (defScope s_rounds_to) := ⟨rfl, rfl, rfl, by decide +kernel, rfl, by decide +kernel, by decide +kernel⟩
abbrev s__law_well : Stmt := top 69
theorem sc__law_well : FnScope ["cell"] ["cell"] (defScope s__law_well) := ⟨rfl, rfl, rfl, by decide +kernel, rfl, by decide +kernel, by decide +kernel⟩
abbrev s__law_draw : Stmt := top 70
theorem sc__law_draw : FnScope ["well", "many", "digit", "number"] ["well", "many"] (defScope s__law_draw) := ⟨rfl, rfl, rfl, by decide +kernel, rfl, by decide +kernel, by decide +kernel⟩
abbrev s__law_one : Stmt := top 71
theorem sc__law_one : FnScope ["well", "some"] ["well", "some"] (defScope s__law_one) := ⟨rfl, rfl, rfl, by decide +kernel, rfl, by decide +kernel, by decide +kernel⟩
abbrev s__law_wells : Stmt := top 72
theorem sc__law_wells : FnScope ["script", "many", "cell"] ["script", "many"] (defScope s__law_wells) := ⟨rfl, rfl, rfl, by decide +kernel, rfl, by decide +kernel, by decide +kernel⟩
abbrev s__law_great : Stmt := top 73
theorem sc__law_great : FnScope ["well", "kind", "found", "turn"] ["well"] (defScope s__law_great) := ⟨rfl, rfl, rfl, by decide +kernel, rfl, by decide +kernel, by decide +kernel⟩
abbrev s__law_wrap : Stmt := top 74
theorem sc__law_wrap : FnScope ["number"] ["number"] (defScope s__law_wrap) := ⟨rfl, rfl, rfl, by decide +kernel, rfl, by decide +kernel, by decide +kernel⟩
abbrev s_how_many_solve : Stmt := top 54
theorem sc_how_many_solve : FnScope ["told"] ["told"] (defScope s_how_many_solve) := ⟨rfl, rfl, rfl, by decide +kernel, rfl, by decide +kernel, by decide +kernel⟩
abbrev s_is_told : Stmt := top 56
theorem sc_is_told : FnScope ["told", "number"] ["told", "number"] (defScope s_is_told) := ⟨rfl, rfl, rfl, by decide +kernel, rfl, by decide +kernel, by decide +kernel⟩
abbrev s_leads_to : Stmt := top 57
theorem sc_leads_to : FnScope ["word", "number", "other", "result"] ["word", "number", "other", "result"] (defScope s_leads_to) := ⟨rfl, rfl, rfl, by decide +kernel, rfl, by decide +kernel, by decide +kernel⟩
abbrev s_resting : Stmt := top 67
theorem sc_resting : FnScope ["a", "b"] ["a", "b"] (defScope s_resting) := ⟨rfl, rfl, rfl, by decide +kernel, rfl, by decide +kernel, by decide +kernel⟩
abbrev s__law_some : Stmt := top 75
theorem sc__law_some : FnScope ["well", "told", "many", "number"] ["well", "told"] (defScope s__law_some) := ⟨rfl, rfl, rfl, by decide +kernel, rfl, by decide +kernel, by decide +kernel⟩
abbrev s__law_factor : Stmt := top 76
theorem sc__law_factor : FnScope ["well"] ["well"] (defScope s__law_factor) := ⟨rfl, rfl, rfl, by decide +kernel, rfl, by decide +kernel, by decide +kernel⟩
abbrev s__law_is_rest_right : Stmt := top 77
theorem sc__law_is_rest_right : FnScope ["well", "a", "b", "told", "due", "drawn", "some", "number", "less", "goal", "turn"] ["well", "a", "b"] (defScope s__law_is_rest_right) := ⟨rfl, rfl, rfl, by decide +kernel, rfl, by decide +kernel, by decide +kernel⟩
abbrev s__law_is_ahead_right : Stmt := top 78
theorem sc__law_is_ahead_right : FnScope ["well", "a", "b", "y", "told", "x", "turn"] ["well", "a", "b", "y"] (defScope s__law_is_ahead_right) := ⟨rfl, rfl, rfl, by decide +kernel, rfl, by decide +kernel, by decide +kernel⟩
abbrev s_law : Stmt := top 79
theorem sc_law : FnScope ["script", "well", "turn", "a", "b", "x"] ["script"] (defScope s_law) := ⟨rfl, rfl, rfl, by decide +kernel, rfl, by decide +kernel, by decide +kernel⟩
structure Tx (K : PySem.W.Frag) (mg : Str → Option Value) : Prop where
  g_wrapped : mg "wrapped" = some (.ref (He.ga K "wrapped"))
  d_wrapped : ∃ fd, FunD K "wrapped" "wrapped" (defArgs s_wrapped) (defBody s_wrapped) (defScope s_wrapped) [] [] (He.ga K "wrapped") fd
  g_is_whole_number : mg "is_whole_number" = some (.ref (He.ga K "is_whole_number"))
  d_is_whole_number : ∃ fd, FunD K "is_whole_number" "is_whole_number" (defArgs s_is_whole_number) (defBody s_is_whole_number) (defScope s_is_whole_number) [] [] (He.ga K "is_whole_number") fd
  g_arith : mg "arith" = some (.ref (He.ga K "arith"))
  d_arith : ∃ fd, FunD K "arith" "arith" (defArgs s_arith) (defBody s_arith) (defScope s_arith) [] [] (He.ga K "arith") fd
  g_check_equation : mg "check_equation" = some (.ref (He.ga K "check_equation"))
  d_check_equation : ∃ fd, FunD K "check_equation" "check_equation" (defArgs s_check_equation) (defBody s_check_equation) (defScope s_check_equation) [] [] (He.ga K "check_equation") fd
  g_row_told : mg "row_told" = some (.ref (He.ga K "row_told"))
  d_row_told : ∃ fd, FunD K "row_told" "row_told" (defArgs s_row_told) (defBody s_row_told) (defScope s_row_told) [] [] (He.ga K "row_told") fd
  g_bits_told : mg "bits_told" = some (.ref (He.ga K "bits_told"))
  d_bits_told : ∃ fd, FunD K "bits_told" "bits_told" (defArgs s_bits_told) (defBody s_bits_told) (defScope s_bits_told) [] [] (He.ga K "bits_told") fd
  g_inverse : mg "inverse" = some (.ref (He.ga K "inverse"))
  d_inverse : ∃ fd, FunD K "inverse" "inverse" (defArgs s_inverse) (defBody s_inverse) (defScope s_inverse) [] [] (He.ga K "inverse") fd
  g_solved_mul : mg "solved_mul" = some (.ref (He.ga K "solved_mul"))
  d_solved_mul : ∃ fd, FunD K "solved_mul" "solved_mul" (defArgs s_solved_mul) (defBody s_solved_mul) (defScope s_solved_mul) [] [] (He.ga K "solved_mul") fd
  g_solved : mg "solved" = some (.ref (He.ga K "solved"))
  d_solved : ∃ fd, FunD K "solved" "solved" (defArgs s_solved) (defBody s_solved) (defScope s_solved) [] [] (He.ga K "solved") fd
  g_count_of : mg "count_of" = some (.ref (He.ga K "count_of"))
  d_count_of : ∃ fd, FunD K "count_of" "count_of" (defArgs s_count_of) (defBody s_count_of) (defScope s_count_of) [] [] (He.ga K "count_of") fd
  g_check_solution : mg "check_solution" = some (.ref (He.ga K "check_solution"))
  d_check_solution : ∃ fd, FunD K "check_solution" "check_solution" (defArgs s_check_solution) (defBody s_check_solution) (defScope s_check_solution) [] [] (He.ga K "check_solution") fd
  g_is_whole_or_many : mg "is_whole_or_many" = some (.ref (He.ga K "is_whole_or_many"))
  d_is_whole_or_many : ∃ fd, FunD K "is_whole_or_many" "is_whole_or_many" (defArgs s_is_whole_or_many) (defBody s_is_whole_or_many) (defScope s_is_whole_or_many) [] [] (He.ga K "is_whole_or_many") fd
  g_solution_at : mg "solution_at" = some (.ref (He.ga K "solution_at"))
  d_solution_at : ∃ fd, FunD K "solution_at" "solution_at" (defArgs s_solution_at) (defBody s_solution_at) (defScope s_solution_at) [] [] (He.ga K "solution_at") fd
  g_check_map : mg "check_map" = some (.ref (He.ga K "check_map"))
  d_check_map : ∃ fd, FunD K "check_map" "check_map" (defArgs s_check_map) (defBody s_check_map) (defScope s_check_map) [] [] (He.ga K "check_map") fd
  g_behind : mg "behind" = some (.ref (He.ga K "behind"))
  d_behind : ∃ fd, FunD K "behind" "behind" (defArgs s_behind) (defBody s_behind) (defScope s_behind) [] [] (He.ga K "behind") fd
  g_powered : mg "powered" = some (.ref (He.ga K "powered"))
  d_powered : ∃ fd, FunD K "powered" "powered" (defArgs s_powered) (defBody s_powered) (defScope s_powered) [] [] (He.ga K "powered") fd
  g_led : mg "led" = some (.ref (He.ga K "led"))
  d_led : ∃ fd, FunD K "led" "led" (defArgs s_led) (defBody s_led) (defScope s_led) [] [] (He.ga K "led") fd
  g_after_rounds : mg "after_rounds" = some (.ref (He.ga K "after_rounds"))
  d_after_rounds : ∃ fd, FunD K "after_rounds" "after_rounds" (defArgs s_after_rounds) (defBody s_after_rounds) (defScope s_after_rounds) [] [] (He.ga K "after_rounds") fd
  g_tail_and_ring : mg "tail_and_ring" = some (.ref (He.ga K "tail_and_ring"))
  d_tail_and_ring : ∃ fd, FunD K "tail_and_ring" "tail_and_ring" (defArgs s_tail_and_ring) (defBody s_tail_and_ring) (defScope s_tail_and_ring) [] [] (He.ga K "tail_and_ring") fd
  g_meeting_by_bits : mg "meeting_by_bits" = some (.ref (He.ga K "meeting_by_bits"))
  d_meeting_by_bits : ∃ fd, FunD K "meeting_by_bits" "meeting_by_bits" (defArgs s_meeting_by_bits) (defBody s_meeting_by_bits) (defScope s_meeting_by_bits) [] [] (He.ga K "meeting_by_bits") fd
  g_rounds_to : mg "rounds_to" = some (.ref (He.ga K "rounds_to"))
  d_rounds_to : ∃ fd, FunD K "rounds_to" "rounds_to" (defArgs s_rounds_to) (defBody s_rounds_to) (defScope s_rounds_to) [] [] (He.ga K "rounds_to") fd
  g__law_well : mg "_law_well" = some (.ref (He.ga K "_law_well"))
  d__law_well : ∃ fd, FunD K "_law_well" "_law_well" (defArgs s__law_well) (defBody s__law_well) (defScope s__law_well) [] [] (He.ga K "_law_well") fd
  g__law_draw : mg "_law_draw" = some (.ref (He.ga K "_law_draw"))
  d__law_draw : ∃ fd, FunD K "_law_draw" "_law_draw" (defArgs s__law_draw) (defBody s__law_draw) (defScope s__law_draw) [] [] (He.ga K "_law_draw") fd
  g__law_one : mg "_law_one" = some (.ref (He.ga K "_law_one"))
  d__law_one : ∃ fd, FunD K "_law_one" "_law_one" (defArgs s__law_one) (defBody s__law_one) (defScope s__law_one) [] [] (He.ga K "_law_one") fd
  g__law_wells : mg "_law_wells" = some (.ref (He.ga K "_law_wells"))
  d__law_wells : ∃ fd, FunD K "_law_wells" "_law_wells" (defArgs s__law_wells) (defBody s__law_wells) (defScope s__law_wells) [] [] (He.ga K "_law_wells") fd
  g__law_great : mg "_law_great" = some (.ref (He.ga K "_law_great"))
  d__law_great : ∃ fd, FunD K "_law_great" "_law_great" (defArgs s__law_great) (defBody s__law_great) (defScope s__law_great) [] [] (He.ga K "_law_great") fd
  g__law_wrap : mg "_law_wrap" = some (.ref (He.ga K "_law_wrap"))
  d__law_wrap : ∃ fd, FunD K "_law_wrap" "_law_wrap" (defArgs s__law_wrap) (defBody s__law_wrap) (defScope s__law_wrap) [] [] (He.ga K "_law_wrap") fd
  g_how_many_solve : mg "how_many_solve" = some (.ref (He.ga K "how_many_solve"))
  d_how_many_solve : ∃ fd, FunD K "how_many_solve" "how_many_solve" (defArgs s_how_many_solve) (defBody s_how_many_solve) (defScope s_how_many_solve) [] [] (He.ga K "how_many_solve") fd
  g_is_told : mg "is_told" = some (.ref (He.ga K "is_told"))
  d_is_told : ∃ fd, FunD K "is_told" "is_told" (defArgs s_is_told) (defBody s_is_told) (defScope s_is_told) [] [] (He.ga K "is_told") fd
  g_leads_to : mg "leads_to" = some (.ref (He.ga K "leads_to"))
  d_leads_to : ∃ fd, FunD K "leads_to" "leads_to" (defArgs s_leads_to) (defBody s_leads_to) (defScope s_leads_to) [] [] (He.ga K "leads_to") fd
  g_resting : mg "resting" = some (.ref (He.ga K "resting"))
  d_resting : ∃ fd, FunD K "resting" "resting" (defArgs s_resting) (defBody s_resting) (defScope s_resting) [] [] (He.ga K "resting") fd
  g__law_some : mg "_law_some" = some (.ref (He.ga K "_law_some"))
  d__law_some : ∃ fd, FunD K "_law_some" "_law_some" (defArgs s__law_some) (defBody s__law_some) (defScope s__law_some) [] [] (He.ga K "_law_some") fd
  g__law_factor : mg "_law_factor" = some (.ref (He.ga K "_law_factor"))
  d__law_factor : ∃ fd, FunD K "_law_factor" "_law_factor" (defArgs s__law_factor) (defBody s__law_factor) (defScope s__law_factor) [] [] (He.ga K "_law_factor") fd
  g__law_is_rest_right : mg "_law_is_rest_right" = some (.ref (He.ga K "_law_is_rest_right"))
  d__law_is_rest_right : ∃ fd, FunD K "_law_is_rest_right" "_law_is_rest_right" (defArgs s__law_is_rest_right) (defBody s__law_is_rest_right) (defScope s__law_is_rest_right) [] [] (He.ga K "_law_is_rest_right") fd
  g__law_is_ahead_right : mg "_law_is_ahead_right" = some (.ref (He.ga K "_law_is_ahead_right"))
  d__law_is_ahead_right : ∃ fd, FunD K "_law_is_ahead_right" "_law_is_ahead_right" (defArgs s__law_is_ahead_right) (defBody s__law_is_ahead_right) (defScope s__law_is_ahead_right) [] [] (He.ga K "_law_is_ahead_right") fd
  g_law : mg "law" = some (.ref (He.ga K "law"))
  d_law : ∃ fd, FunD K "law" "law" (defArgs s_law) (defBody s_law) (defScope s_law) [] [] (He.ga K "law") fd
  g_by_bits : mg "by_bits" = some (.ref (He.ga K "by_bits"))
  g_by_floats : mg "by_floats" = some (.ref (He.ga K "by_floats"))
  g_solved_and : mg "solved_and" = some (.ref (He.ga K "solved_and"))
  g_solved_floor : mg "solved_floor" = some (.ref (He.ga K "solved_floor"))
  g_solved_left : mg "solved_left" = some (.ref (He.ga K "solved_left"))
  g_solved_mod : mg "solved_mod" = some (.ref (He.ga K "solved_mod"))
  g_solved_or : mg "solved_or" = some (.ref (He.ga K "solved_or"))
  g_to_float : mg "to_float" = some (.ref (He.ga K "to_float"))
  g_whole_or_thrown : mg "whole_or_thrown" = some (.ref (He.ga K "whole_or_thrown"))
  g_Float : mg "Float" = some (.ref (He.ga K "Float"))
  g_InvalidArgument : mg "InvalidArgument" = some (.ref (He.ga K "InvalidArgument"))
  g_Thrown : mg "Thrown" = some (.ref (He.ga K "Thrown"))
  c_ALL_BITS : ∃ t, mg "ALL_BITS" = some (.int (18446744073709551616) t)
  c_BITS : ∃ t, mg "BITS" = some (.int (64) t)
  c_FREE : ∃ t, mg "FREE" = some (.str "bits" t)
  c_LEAST : ∃ t, mg "LEAST" = some (.int (-9223372036854775808) t)
  c_MOST : ∃ t, mg "MOST" = some (.int (9223372036854775807) t)
  c_ROW : ∃ t, mg "ROW" = some (.str "row" t)
  g_WORDS : mg "WORDS" = some (.ref (He.ga K "WORDS"))
  t_WORDS : ∀ H, SqT K H (He.ga K "WORDS") [.str "add", .str "sub", .str "mul", .str "floor", .str "mod", .str "band", .str "bor", .str "bxor", .str "shl", .str "shr"]
  n_all : mg "all" = none
  n_any : mg "any" = none
  n_bool : mg "bool" = none
  n_int : mg "int" = none
  n_isinstance : mg "isinstance" = none
  n_len : mg "len" = none
  n_list : mg "list" = none
  n_range : mg "range" = none
  n_str : mg "str" = none
  n_sum : mg "sum" = none
  n_tuple : mg "tuple" = none
  f_Float : PySem.W.kitOne K (.type "int") (.ref (He.ga K "Float")) = some false
local macro_rules | `(tactic| wtm_at "hp") => `(tactic| first
  | with_reducible assumption
  | with_reducible exact upd_same
  | with_reducible exact sqt_of upd_same
  | with_reducible exact sql_of upd_same
  | with_reducible exact sqt_s1 (by assumption) (by wtm_at "sm")
  | with_reducible exact sqt_s2 (by assumption) (by wtm_at "sm")
  | with_reducible exact sqt_all (by assumption)
  | with_reducible exact sql_s1 (by assumption) (by wtm_at "sm")
  | with_reducible exact sql_s2 (by assumption) (by wtm_at "sm")
  | with_reducible exact at_s1 (by assumption) (by wtm_at "sm"))
local macro_rules | `(tactic| wtm_at "sd") => `(tactic| first
  | exact Or.inl ⟨by omega, by omega⟩
  | exact Or.inr ⟨by omega, by omega⟩
  | exact ⟨by omega, by decide⟩
  | exact cdw_of (by omega) (by omega)
  | exact cpow_of (by omega) (by omega) (by omega)
  | (dsimp only; omega)
  | (show (0 : Int) < _; omega)
  | (show (0 : Int) ≤ _; omega))
local macro_rules | `(tactic| wtm_at "sx") => `(tactic| simp only [x_seq, x_next, x_brk, x_cont, x_never, x_drop, x_asg, x_name, x_sub, x_ret, x_retN, x_ifS, x_parD, x_par3D, x_c, x_op, x_un, x_test, x_tB, x_yes, x_not, x_and, x_or, x_andV, x_orV, x_notV, x_ifE, x_chain, x_nil, x_cons, x_tupD, x_lstD, x_call, x_callX, x_cb, x_forR1, x_forR2, x_forL, x_forT, x_bits, x_part, x_nopart, x_sl, x_bm0, x_bm, x_lcL, x_lcT, x_lcR1, x_aug, x_ipI, x_ib, x_bi, x_onelB, x_two, x_onel, x_disp, x_pairs0, x_pairsS, x_dget2,
  x_var0, x_var1, x_var2, x_var3, x_var4, x_var5, x_var6, x_var7, x_var8, x_var9, x_var10, x_var11, x_var12, x_var13, x_var14, x_var15, List.set_cons_zero, x_set1, x_set2, x_set3, x_set4, x_set5, x_set6, x_set7, x_set8, x_set9, x_set10, x_set11, x_set12, x_set13, x_set14, x_set15, x_i0, x_iC, x_uI, x_bl, x_eqI, x_neI, x_eqS, x_neS, x_par, x_par3, x_gnil, x_gcons, x_one, x_rt, x_nx, x_bk, x_ct, cx_K, cx_K1, List.append_nil, List.cons_append, List.nil_append, if_true, if_false, ite_not, decide_true, decide_false, Bool.not_true, Bool.not_false, Bool.false_eq_true, decide_eq_true_eq, Bool.not_eq_true', Bool.not_eq_false', decide_eq_false_iff_not, true_and, and_true, reduceCtorEq, Int.reduceLT, Int.reduceLE, Int.reduceToNat, false_and, exists_false, or_false, false_or, wipe, List.map_cons, List.map_nil])
local macro_rules | `(tactic| wtm_at "g1") => `(tactic| first
  | with_reducible refine g_i0 ?_
  | with_reducible refine g_iC (by k_dflt (wtm_at "sd")) ?_
  | with_reducible refine g_ixT (by wtm_at "hp") rfl ?_
  | with_reducible refine g_pY (by k_dflt (wtm_at "cd")) ?_
  | with_reducible refine g_pX (by k_dflt (wtm_at "cd")) ?_
  | with_reducible refine g_size (by k_dflt exact (Nat.le_of_ble_eq_true rfl)) ?_
  | with_reducible refine isi_ii ?_
  | with_reducible refine isi_ib ?_
  | with_reducible refine isi_ss ?_
  | with_reducible refine isi_tt (by wtm_at "hp") ?_
  | with_reducible refine isi_bb ?_
  | with_reducible refine isi_is ?_
  | with_reducible refine g_inT (bb := true) (by wtm_at "hp") rfl rfl (by decide +kernel) ?_
  | with_reducible refine g_inT (bb := false) (by wtm_at "hp") rfl rfl (by decide +kernel) ?_
  | with_reducible refine g_notInT (bb := true) (by wtm_at "hp") rfl rfl (by decide +kernel) ?_
  | with_reducible refine g_notInT (bb := false) (by wtm_at "hp") rfl rfl (by decide +kernel) ?_
  | with_reducible refine g_ixL (by wtm_at "hp") rfl ?_
  | with_reducible refine g_tup (by wtm_at "hp") rfl ?_
  | with_reducible refine g_bl ?_
  | with_reducible refine g_eqI ?_
  | with_reducible refine g_neI ?_
  | with_reducible refine g_lenT (by wtm_at "hp") ?_
  | with_reducible refine g_lenL (by wtm_at "hp") ?_
  | with_reducible refine g_tl4 (by wtm_at "hp") ?_
  | with_reducible refine g_tl3 (by wtm_at "hp") ?_
  | with_reducible refine g_slL (by wtm_at "hp") ?_
  | with_reducible refine g_listL (by wtm_at "hp") ?_
  | with_reducible refine g_setL (by wtm_at "hp") rfl ?_
  | (with_reducible refine g_newT ?_; intro p np hp)
  | (with_reducible refine g_newL ?_; intro p np hp)
  | (with_reducible refine g_all ?_; intro p np)
  | with_reducible refine ⟨by k_dflt (wtm_at "sd"), ?_⟩
  | wtm_at "u1")
local macro_rules | `(tactic| wtm_at "cd") => `(tactic| first | omega | decide +kernel)
local macro_rules | `(tactic| wtm_at "go") => `(tactic| ((try wtm_at "sx"); repeat (wtm_at "g1"; try wtm_at "sx")))
local macro_rules | `(tactic| wtm_at "sm") => `(tactic| first
  | with_reducible assumption
  | with_reducible exact Same.refl _
  | with_reducible exact same_new (by assumption)
  | (with_reducible refine Same.trans ?_ (same_new (by assumption)); wtm_at "sm")
  | (with_reducible refine same_mut ?_ (by wtm_at "fr"); wtm_at "sm")
  | (with_reducible refine Same.trans ?_ (by assumption); wtm_at "sm"))
local macro_rules | `(tactic| wtm_at "fr") => `(tactic| first
  | with_reducible assumption
  | with_reducible exact free2 (by assumption) (by wtm_at "sm"))

theorem isi_own {K : PySem.W.Frag} {H : Hp} {Q : VK} {x : V} {t : Value} {C : Addr} {b : Bool} (hx : TyX K H x t) (hk : PySem.W.kitOne K t (.ref C) = some b) (h : Q (.bl b) H) : rIsi K [x, .ref C] H Q := ⟨x, .ref C, t, .ref C, b, rfl, .own C, hx, hk, h⟩
section
variable {P : Program} {w : World} {K : PySem.W.Frag} {mg : Str → Option Value} {base : Heap}
def sp_wrapped : Sp := fun vs H Q _ => ∃ n : Int, vs = [.int n] ∧ Ret (.int (wrap n)) H Q
theorem kn_wrapped (T : Tx K mg) : Kn P w K mg base 1 "wrapped" ["number"] (sp_wrapped) := by
  obtain ⟨fd, F⟩ := T.d_wrapped
  refine kn_mk F T.g_wrapped sc_wrapped (fun _ _ _ _ _ _ us hl => match us, hl with | [_], _ => rfl) (fun vs H Q E h => ?_) (fun cdv A outer s H vs Q E hr h => ?_)
  · obtain ⟨n, rfl, _⟩ := h
    rfl
  · obtain ⟨n, rfl, k⟩ := h
    refine ⟨_, (pss_one (ps_ret (pe_op op_sub (pe_op op_mod (pe_op op_add (pv 0) (pe_k (v := .int (9223372036854775808)) (pe_op op_pow pe_int pe_int) k_pow)) (pe_k (v := .int (18446744073709551616)) (pe_op op_pow pe_int pe_int) k_pow)) (pe_k (v := .int (9223372036854775808)) (pe_op op_pow pe_int pe_int) k_pow)))), st_as (σ' := [some _]) rfl ?_⟩
    wtm_at "go"
    exact k _ (Same.refl _)
theorem use_wrapped {H : Hp} {Q : VK} {E : XK} {n : Int} (k : Ret (.int (wrap n)) H Q) : sp_wrapped [.int n] H Q E := ⟨n, rfl, k⟩
local macro_rules | `(tactic| wtm_at "u1") => `(tactic| (with_reducible refine use_wrapped ?_; intro H1 s1))
local macro_rules | `(tactic| wtm_at "u1") => `(tactic| (with_reducible refine isi_own (ty_int _) (by assumption) ?_))
def sp_is_whole_number : Sp := fun vs H Q _ => ∃ n : Int, vs = [.int n] ∧ I64 n ∧ Ret (.bl true) H Q
theorem kn_is_whole_number (T : Tx K mg) : Kn P w K mg base 1 "is_whole_number" ["thing"] (sp_is_whole_number) := by
  obtain ⟨fd, F⟩ := T.d_is_whole_number
  refine kn_mk F T.g_is_whole_number sc_is_whole_number (fun _ _ _ _ _ _ us hl => match us, hl with | [_], _ => rfl) (fun vs H Q E h => ?_) (fun cdv A outer s H vs Q E hr h => ?_)
  · obtain ⟨n, rfl, _⟩ := h
    rfl
  · obtain ⟨n, rfl, hn, k⟩ := h
    refine ⟨_, (pss_one (ps_ret (pe_and (pe_callB (call_isiK1 K) (by rfl) T.n_isinstance (by decide +kernel) (pa_cons (pv 0) (pa_cons (pe_bltn (v := .ty "int") rfl T.n_int (by decide +kernel) rfl) pa_nil))) (pe_and (pe_not (pe_callB (call_isiK1 K) (by rfl) T.n_isinstance (by decide +kernel) (pa_cons (pv 0) (pa_cons (pe_bltn (v := .ty "bool") rfl T.n_bool (by decide +kernel) rfl) pa_nil)))) (pe_one (pe_chain op_le op_le (pe_gi T.c_LEAST) (pv 0) (pe_gi T.c_MOST))))))), st_as (σ' := [some _]) rfl ?_⟩
    unfold I64 at hn
    wtm_at "go"
    have e : decide (n ≤ 9223372036854775807) = true := decide_eq_true hn.2
    rw [e]
    exact k _ (Same.refl _)
def sp_arith : Sp := fun vs H Q _ => ∃ (z : Str) (a b v : Int), vs = [.str z, .int a, .int b] ∧ I64 a ∧ I64 b ∧ ((z = "mul" ∧ v = wrap (a * b)) ∨ (z = "add" ∧ v = wrap (a + b))) ∧ Ret (.int v) H Q
theorem kn_arith (T : Tx K mg) : Kn P w K mg base 2 "arith" ["word", "one", "other"] (sp_arith) := by
  obtain ⟨fd, F⟩ := T.d_arith
  refine kn_mk F T.g_arith sc_arith (fun _ _ _ _ _ _ us hl => match us, hl with | [_, _, _], _ => rfl) (fun vs H Q E h => ?_) (fun cdv A outer s H vs Q E hr h => ?_)
  · obtain ⟨z, a, b, v, rfl, _⟩ := h
    rfl
  · obtain ⟨z, a, b, v, rfl, ha, hb, hv, k⟩ := h
    refine ⟨_, (pss_cons (ps_if (pt_cmpR (op_inK K) (pv 0) (pe_tup (pa_cons pe_str (pa_cons pe_str (pa_cons pe_str (pa_cons pe_str (pa_cons pe_str pa_nil)))))) (by first | rfl | exact nomark _ | with_unfolding_all rfl)) pss_never pss_nil)
      (pss_cons (ps_if (PW.pt (pw_or (pt_cmpR op_eq (pv 0) pe_str (nomark _)) (pw_or (pt_val (pe_callB (call_isiK1 K) (by rfl) T.n_isinstance (by decide +kernel) (pa_cons (pv 1) (pa_cons (pe_gr T.g_Float) pa_nil)))) (pw_or1 (pt_val (pe_callB (call_isiK1 K) (by rfl) T.n_isinstance (by decide +kernel) (pa_cons (pv 2) (pa_cons (pe_gr T.g_Float) pa_nil)))))))) pss_never pss_nil)
      (pss_cons (ps_if (pt_cmpR (op_inK K) (pv 0) (pe_tup (pa_cons pe_str (pa_cons pe_str pa_nil))) (by first | rfl | exact nomark _ | with_unfolding_all rfl)) pss_never pss_nil)
      (pss_cons (ps_if (pt_cmpR op_eq (pv 0) pe_str (nomark _)) (pss_one (ps_ret (pc (kn_wrapped T) (hr.mono (by decide)) (pa_cons (pe_op op_mul (pv 1) (pv 2)) pa_nil)))) pss_nil)
      (pss_one (ps_ret (pc (kn_wrapped T) (hr.mono (by decide)) (pa_cons (pe_ifExp (pt_cmpR op_eq (pv 0) pe_str (nomark _)) (pe_op op_add (pv 1) (pv 2)) (pe_op op_sub (pv 1) (pv 2))) pa_nil)))))))), st_as (σ' := [some _, some _, some _]) rfl ?_⟩
    unfold I64 at ha hb
    have f1 := T.f_Float
    rcases hv with ⟨rfl, rfl⟩ | ⟨rfl, rfl⟩
    · wtm_at "go"
      exact k _ (by wtm_at "sm")
    · wtm_at "go"
      exact k _ (by wtm_at "sm")
theorem use_is_whole_number {H : Hp} {Q : VK} {E : XK} {n : Int} (hn : I64 n) (k : Ret (.bl true) H Q) : sp_is_whole_number [.int n] H Q E := ⟨n, rfl, hn, k⟩
local macro_rules | `(tactic| wtm_at "u1") => `(tactic| (with_reducible refine use_is_whole_number (by k_dflt (wtm_at "i64")) ?_; intro H1 s1))
local macro_rules | `(tactic| wtm_at "i64") => `(tactic| first | assumption | exact wrap_I64 _ | (unfold I64; omega))
def sp_check_equation : Sp := fun vs H Q _ => ∃ (z : Str) (a b : Int), vs = [.str z, .int a, .int b] ∧ I64 a ∧ I64 b ∧ inV (.str z) [.str "add", .str "sub", .str "mul", .str "floor", .str "mod", .str "band", .str "bor", .str "bxor", .str "shl", .str "shr"] = true ∧ Ret .non H Q
theorem kn_check_equation (T : Tx K mg) : Kn P w K mg base 2 "check_equation" ["word", "other", "result"] (sp_check_equation) := by
  obtain ⟨fd, F⟩ := T.d_check_equation
  refine kn_mk F T.g_check_equation sc_check_equation (fun _ _ _ _ _ _ us hl => match us, hl with | [_, _, _], _ => rfl) (fun vs H Q E h => ?_) (fun cdv A outer s H vs Q E hr h => ?_)
  · obtain ⟨z, a, b, rfl, _⟩ := h
    rfl
  · obtain ⟨z, a, b, rfl, ha, hb, hz, k⟩ := h
    refine ⟨_, (pss_cons (ps_if (PW.pt (pw_or (pt_not (pt_val (pe_callB (call_isiK1 K) (by rfl) T.n_isinstance (by decide +kernel) (pa_cons (pv 0) (pa_cons (pe_bltn (v := .ty "str") rfl T.n_str (by decide +kernel) rfl) pa_nil))))) (pw_or1 (pt_cmpR (op_notInK K) (pv 0) (pe_gr T.g_WORDS) (by first | rfl | exact nomark _ | with_unfolding_all rfl))))) pss_never pss_nil)
      (pss_cons (ps_if (pt_not (pt_val (pc (kn_is_whole_number T) (hr.mono (by decide)) (pa_cons (pv 1) pa_nil)))) pss_never pss_nil)
      (pss_one (ps_if (pt_not (pt_val (pc (kn_is_whole_number T) (hr.mono (by decide)) (pa_cons (pv 2) pa_nil)))) pss_never pss_nil)))), st_as (σ' := [some _, some _, some _]) rfl ?_⟩
    have tW := T.t_WORDS
    wtm_at "go"
    refine g_notInT (bb := true) (by wtm_at "hp") rfl rfl hz ?_
    wtm_at "go"
    exact k _ (by wtm_at "sm")
def sp_row_told : Sp := fun vs H Q _ => ∃ (f s m : Int), vs = [.int f, .int s, .int m] ∧ 0 < m ∧ RetT [.str "row", .int f, .int (if 1 < m then s else 1), .int m] H Q
theorem kn_row_told (T : Tx K mg) : Kn P w K mg base 1 "row_told" ["first", "step", "many"] (sp_row_told) := by
  obtain ⟨fd, F⟩ := T.d_row_told
  refine kn_mk F T.g_row_told sc_row_told (fun _ _ _ _ _ _ us hl => match us, hl with | [_, _, _], _ => rfl) (fun vs H Q E h => ?_) (fun cdv A outer s H vs Q E hr h => ?_)
  · obtain ⟨f, s, m, rfl, _⟩ := h
    rfl
  · obtain ⟨f, s0, m, rfl, hm, k⟩ := h
    refine ⟨_, (pss_one (ps_ret (pe_ifExp (pt_cmpR op_gt (pv 2) pe_int (nomark _)) (pe_tup (pa_cons (pe_gs T.c_ROW) (pa_cons (pv 0) (pa_cons (pe_ifExp (pt_cmpR op_gt (pv 2) pe_int (nomark _)) (pv 1) pe_int) (pa_cons (pv 2) pa_nil))))) pe_non))), st_as (σ' := [some _, some _, some _]) rfl ?_⟩
    wtm_at "go"
    refine ite2 (fun c => ?_) (fun c => ?_)
    · wtm_at "go"
      rw [if_pos c] at k
      exact k _ _ (by wtm_at "sm") (by wtm_at "fr") (by wtm_at "hp")
    · wtm_at "go"
      rw [if_neg c] at k
      exact k _ _ (by wtm_at "sm") (by wtm_at "fr") (by wtm_at "hp")
def sp_bits_told : Sp := fun vs H Q _ => ∃ (x y : Int), vs = [.int x, .int y] ∧ RetT [.str "bits", .int (wrap x), .int (wrap y)] H Q
theorem kn_bits_told (T : Tx K mg) : Kn P w K mg base 2 "bits_told" ["fixed", "mask"] (sp_bits_told) := by
  obtain ⟨fd, F⟩ := T.d_bits_told
  refine kn_mk F T.g_bits_told sc_bits_told (fun _ _ _ _ _ _ us hl => match us, hl with | [_, _], _ => rfl) (fun vs H Q E h => ?_) (fun cdv A outer s H vs Q E hr h => ?_)
  · obtain ⟨x, y, rfl, _⟩ := h
    rfl
  · obtain ⟨x, y, rfl, k⟩ := h
    refine ⟨_, (pss_one (ps_ret (pe_tup (pa_cons (pe_gs T.c_FREE) (pa_cons (pc (kn_wrapped T) (hr.mono (by decide)) (pa_cons (pv 0) pa_nil)) (pa_cons (pc (kn_wrapped T) (hr.mono (by decide)) (pa_cons (pv 1) pa_nil)) pa_nil)))))), st_as (σ' := [some _, some _]) rfl ?_⟩
    wtm_at "go"
    exact k _ _ (by wtm_at "sm") (by wtm_at "fr") (by wtm_at "hp")
def sp_inverse : Sp := fun vs H Q _ => ∃ n : Int, vs = [.int n] ∧ U64 n ∧ n % 2 = 1 ∧ ∀ v, U64 v → Cg M64 (n * v) 1 → Ret (.int v) H Q
theorem kn_inverse (T : Tx K mg) : Kn P w K mg base 1 "inverse" ["number"] (sp_inverse) := by
  obtain ⟨fd, F⟩ := T.d_inverse
  refine kn_mk F T.g_inverse sc_inverse (fun _ _ _ _ _ _ us hl => match us, hl with | [_], _ => rfl) (fun vs H Q E h => ?_) (fun cdv A outer s H vs Q E hr h => ?_)
  · obtain ⟨n, rfl, _⟩ := h
    rfl
  · obtain ⟨n, rfl, hu, ho, k⟩ := h
    refine ⟨_, (pss_cons (ps_set (i := 1) sc_inverse.nd rfl (Or.inl rfl) (pv 0))
      (pss_cons (ps_for PassesOwn.never rfl (pi_range1 rfl T.n_range (pa_cons pe_int pa_nil)) (pg_name (i := 2) sc_inverse.nd rfl (Or.inl rfl)) (pss_one (ps_set (i := 1) sc_inverse.nd rfl (Or.inl rfl) (pe_op op_mod (pe_op op_mul (pv 1) (pe_op op_sub pe_int (pe_op op_mul (pv 0) (pv 1)))) (pe_gi T.c_ALL_BITS)))))
      (pss_one (ps_ret (pv 1))))), st_as (σ' := [some _, none, none]) rfl ?_⟩
    wtm_at "go"
    refine loopR1 (by decide) (fun i σ H' => ∃ (f : Int) (o : Option V), σ = [some (.int n), some (.int f), o] ∧ Same H H' ∧ U64 f ∧ Cg M64 (1 - n * f) ((1 - n * n) ^ (2 ^ i))) ⟨n, none, rfl, Same.refl _, hu, by rw [show (2 : Nat) ^ 0 = 1 by rfl, Int.pow_succ, Int.pow_zero, Int.one_mul]; exact Cg.refl _ _⟩ ?_ ?_
    · rintro i σ H' hi ⟨f, o, rfl, s1, hf, hc⟩
      unfold U64 at hu hf
      wtm_at "go"
      refine ⟨_, _, rfl, s1, U64_mod _, ?_⟩
      have e : 1 - n * (f * (2 - n * f)) = (1 - n * f) ^ 2 := by grind
      have c1 : Cg M64 (1 - n * (f * (2 - n * f) % M64)) (1 - n * (f * (2 - n * f))) := (Cg.refl _ 1).sub ((Cg.refl _ n).mul (Cg.of_mod _ _))
      rw [e] at c1
      refine c1.trans ?_
      have c2 := hc.pow 2
      rw [← Int.pow_mul, ← Nat.pow_succ] at c2
      exact c2
    · rintro σ H' ⟨f, o, rfl, s1, hf, hc⟩
      wtm_at "go"
      refine k f hf ?_ _ s1
      have d : Cg M64 ((1 - n * n) ^ 64) 0 := by
        show M64 ∣ _
        rw [Int.sub_zero, M_eq]
        exact inv_start ho
      have e := (Cg.refl M64 1).sub (hc.trans d)
      rw [show 1 - (1 - n * f) = n * f by grind] at e
      exact e
end
end W41

set_option maxHeartbeats 4000000
namespace W41
open PySem PySem.Spec PyProof.Rows L2 WK Mt
local macro_rules | `(tactic| wtm_at "hp") => `(tactic| first
  | with_reducible assumption
  | with_reducible exact upd_same
  | with_reducible exact sqt_of upd_same
  | with_reducible exact sql_of upd_same
  | with_reducible exact sqt_s1 (by assumption) (by wtm_at "sm")
  | with_reducible exact sqt_s2 (by assumption) (by wtm_at "sm")
  | with_reducible exact sqt_all (by assumption)
  | with_reducible exact sql_s1 (by assumption) (by wtm_at "sm")
  | with_reducible exact sql_s2 (by assumption) (by wtm_at "sm")
  | with_reducible exact at_s1 (by assumption) (by wtm_at "sm"))
local macro_rules | `(tactic| wtm_at "sd") => `(tactic| first
  | exact Or.inl ⟨by omega, by omega⟩
  | exact Or.inr ⟨by omega, by omega⟩
  | exact ⟨by omega, by decide⟩
  | exact cdw_of (by omega) (by omega)
  | exact cpow_of (by omega) (by omega) (by omega)
  | (dsimp only; omega)
  | (show (0 : Int) < _; omega)
  | (show (0 : Int) ≤ _; omega))
local macro_rules | `(tactic| wtm_at "sx") => `(tactic| simp only [x_seq, x_next, x_brk, x_cont, x_never, x_drop, x_asg, x_name, x_sub, x_ret, x_retN, x_ifS, x_parD, x_par3D, x_c, x_op, x_un, x_test, x_tB, x_yes, x_not, x_and, x_or, x_andV, x_orV, x_notV, x_ifE, x_chain, x_nil, x_cons, x_tupD, x_lstD, x_call, x_callX, x_cb, x_forR1, x_forR2, x_forL, x_forT, x_bits, x_part, x_nopart, x_sl, x_bm0, x_bm, x_lcL, x_lcT, x_lcR1, x_aug, x_ipI, x_ib, x_bi, x_onelB, x_two, x_onel, x_disp, x_pairs0, x_pairsS, x_dget2,
  x_var0, x_var1, x_var2, x_var3, x_var4, x_var5, x_var6, x_var7, x_var8, x_var9, x_var10, x_var11, x_var12, x_var13, x_var14, x_var15, List.set_cons_zero, x_set1, x_set2, x_set3, x_set4, x_set5, x_set6, x_set7, x_set8, x_set9, x_set10, x_set11, x_set12, x_set13, x_set14, x_set15, x_i0, x_iC, x_uI, x_bl, x_eqI, x_neI, x_eqS, x_neS, x_par, x_par3, x_gnil, x_gcons, x_one, x_rt, x_nx, x_bk, x_ct, cx_K, cx_K1, List.append_nil, List.cons_append, List.nil_append, if_true, if_false, ite_not, decide_true, decide_false, Bool.not_true, Bool.not_false, Bool.false_eq_true, decide_eq_true_eq, Bool.not_eq_true', Bool.not_eq_false', decide_eq_false_iff_not, true_and, and_true, reduceCtorEq, Int.reduceLT, Int.reduceLE, Int.reduceToNat, false_and, exists_false, or_false, false_or, wipe, List.map_cons, List.map_nil])
local macro_rules | `(tactic| wtm_at "g1") => `(tactic| first
  | with_reducible refine g_i0 ?_
  | with_reducible refine g_iC (by k_dflt (wtm_at "sd")) ?_
  | with_reducible refine g_ixT (by wtm_at "hp") rfl ?_
  | with_reducible refine g_pY (by k_dflt (wtm_at "cd")) ?_
  | with_reducible refine g_pX (by k_dflt (wtm_at "cd")) ?_
  | with_reducible refine g_size (by k_dflt exact (Nat.le_of_ble_eq_true rfl)) ?_
  | with_reducible refine isi_ii ?_
  | with_reducible refine isi_ib ?_
  | with_reducible refine isi_ss ?_
  | with_reducible refine isi_tt (by wtm_at "hp") ?_
  | with_reducible refine isi_bb ?_
  | with_reducible refine isi_is ?_
  | with_reducible refine g_inT (bb := true) (by wtm_at "hp") rfl rfl (by decide +kernel) ?_
  | with_reducible refine g_inT (bb := false) (by wtm_at "hp") rfl rfl (by decide +kernel) ?_
  | with_reducible refine g_notInT (bb := true) (by wtm_at "hp") rfl rfl (by decide +kernel) ?_
  | with_reducible refine g_notInT (bb := false) (by wtm_at "hp") rfl rfl (by decide +kernel) ?_
  | with_reducible refine g_ixL (by wtm_at "hp") rfl ?_
  | with_reducible refine g_tup (by wtm_at "hp") rfl ?_
  | with_reducible refine g_bl ?_
  | with_reducible refine g_eqI ?_
  | with_reducible refine g_neI ?_
  | with_reducible refine g_lenT (by wtm_at "hp") ?_
  | with_reducible refine g_lenL (by wtm_at "hp") ?_
  | with_reducible refine g_tl4 (by wtm_at "hp") ?_
  | with_reducible refine g_tl3 (by wtm_at "hp") ?_
  | with_reducible refine g_slL (by wtm_at "hp") ?_
  | with_reducible refine g_listL (by wtm_at "hp") ?_
  | with_reducible refine g_setL (by wtm_at "hp") rfl ?_
  | (with_reducible refine g_newT ?_; intro p np hp)
  | (with_reducible refine g_newL ?_; intro p np hp)
  | (with_reducible refine g_all ?_; intro p np)
  | with_reducible refine ⟨by k_dflt (wtm_at "sd"), ?_⟩
  | wtm_at "u1")
local macro_rules | `(tactic| wtm_at "cd") => `(tactic| first | omega | decide +kernel)
local macro_rules | `(tactic| wtm_at "go") => `(tactic| ((try wtm_at "sx"); repeat (wtm_at "g1"; try wtm_at "sx")))
local macro_rules | `(tactic| wtm_at "sm") => `(tactic| first
  | with_reducible assumption
  | with_reducible exact Same.refl _
  | with_reducible exact same_new (by assumption)
  | (with_reducible refine Same.trans ?_ (same_new (by assumption)); wtm_at "sm")
  | (with_reducible refine same_mut ?_ (by wtm_at "fr"); wtm_at "sm")
  | (with_reducible refine Same.trans ?_ (by assumption); wtm_at "sm"))
local macro_rules | `(tactic| wtm_at "fr") => `(tactic| first
  | with_reducible assumption
  | with_reducible exact free2 (by assumption) (by wtm_at "sm"))

local macro_rules | `(tactic| wtm_at "u1") => `(tactic| (with_reducible refine use_wrapped ?_; intro H1 s1))
local macro_rules | `(tactic| wtm_at "u1") => `(tactic| (with_reducible refine isi_own (ty_int _) (by assumption) ?_))
local macro_rules | `(tactic| wtm_at "u1") => `(tactic| (with_reducible refine use_is_whole_number (by k_dflt (wtm_at "i64")) ?_; intro H1 s1))
local macro_rules | `(tactic| wtm_at "i64") => `(tactic| first | assumption | exact wrap_I64 _ | (unfold I64; omega))
section
variable {P : Program} {w : World} {K : PySem.W.Frag} {mg : Str → Option Value} {base : Heap}
theorem use_arith {H : Hp} {Q : VK} {E : XK} {z : Str} {a b v : Int} (ha : I64 a) (hb : I64 b) (h : (z = "mul" ∧ v = wrap (a * b)) ∨ (z = "add" ∧ v = wrap (a + b))) (k : Ret (.int v) H Q) : sp_arith [.str z, .int a, .int b] H Q E := ⟨z, a, b, v, rfl, ha, hb, h, k⟩
local macro_rules | `(tactic| wtm_at "u1") => `(tactic| (with_reducible refine use_arith (by k_dflt (wtm_at "i64")) (by k_dflt (wtm_at "i64")) (by k_dflt first | exact Or.inl ⟨rfl, rfl⟩ | exact Or.inr ⟨rfl, rfl⟩) ?_; intro H1 s1))
theorem use_check_equation {H : Hp} {Q : VK} {E : XK} {z : Str} {a b : Int} (ha : I64 a) (hb : I64 b) (h : inV (.str z) [.str "add", .str "sub", .str "mul", .str "floor", .str "mod", .str "band", .str "bor", .str "bxor", .str "shl", .str "shr"] = true) (k : Ret .non H Q) : sp_check_equation [.str z, .int a, .int b] H Q E := ⟨z, a, b, rfl, ha, hb, h, k⟩
local macro_rules | `(tactic| wtm_at "u1") => `(tactic| (with_reducible refine use_check_equation (by k_dflt (wtm_at "i64")) (by k_dflt (wtm_at "i64")) (by decide +kernel) ?_; intro H1 s1))
theorem use_row_told {H : Hp} {Q : VK} {E : XK} {f s m : Int} (hm : 0 < m) (k : RetT [.str "row", .int f, .int (if 1 < m then s else 1), .int m] H Q) : sp_row_told [.int f, .int s, .int m] H Q E := ⟨f, s, m, rfl, hm, k⟩
theorem use_bits_told {H : Hp} {Q : VK} {E : XK} {x y : Int} (k : RetT [.str "bits", .int (wrap x), .int (wrap y)] H Q) : sp_bits_told [.int x, .int y] H Q E := ⟨x, y, rfl, k⟩
local macro_rules | `(tactic| wtm_at "u1") => `(tactic| (with_reducible refine use_bits_told ?_; intro H1 p1 s1 n1 h1))
theorem use_inverse {H : Hp} {Q : VK} {E : XK} {n : Int} (hn : U64 n) (ho : n % 2 = 1) (k : ∀ v, U64 v → Cg M64 (n * v) 1 → Ret (.int v) H Q) : sp_inverse [.int n] H Q E := ⟨n, rfl, hn, ho, k⟩
/-- what is told -/
inductive Td where
  | non
  | row (f s m : Int)
  | bits (x y : Int)
def TdAt (K : PySem.W.Frag) (H : Hp) (v : V) : Td → Prop
  | .non => v = .non
  | .row f s m => ∃ p, v = .ref p ∧ SqT K H p [.str "row", .int f, .int s, .int m]
  | .bits x y => ∃ p, v = .ref p ∧ SqT K H p [.str "bits", .int x, .int y]
theorem TdAt.same {K : PySem.W.Frag} {H H' : Hp} {v : V} {d : Td} (s : Same H H') (h : TdAt K H v d) : TdAt K H' v d := by
  cases d with
  | non => exact h
  | row f s0 m => obtain ⟨p, e, h⟩ := h; exact ⟨p, e, sqt_same s h⟩
  | bits x y => obtain ⟨p, e, h⟩ := h; exact ⟨p, e, sqt_same s h⟩
def Sol (other result : Int) : Td → Prop
  | .non => ∀ x, ¬ Cg M64 (x * other) result
  | .row f s m => Row other result f s m ∧ (other % 2 = 1 → m = 1)
  | .bits x y => x = 0 ∧ y = -1 ∧ other = 0 ∧ result = 0
theorem row_one {other result f s : Int} (h : Row other result f s 1) : Row other result f 1 1 := ⟨h.i1, by decide, by decide, by decide, by decide, by have := h.top; omega, fun x hx => by
  rw [h.iff x hx]
  constructor
  · rintro ⟨k, h0, h1, e⟩
    have : k = 0 := by omega
    rw [this] at e
    exact ⟨0, by omega, by omega, by omega⟩
  · rintro ⟨k, h0, h1, e⟩
    have : k = 0 := by omega
    rw [this] at e
    exact ⟨0, by omega, by omega, by omega⟩⟩
def sp_solved_mul (K : PySem.W.Frag) : Sp := fun vs H Q _ => ∃ a r : Int, vs = [.int a, .int r] ∧ I64 a ∧ I64 r ∧ ∀ d, Sol a r d → ∀ H' v, Same H H' → TdAt K H' v d → Q v H'
theorem kn_solved_mul (T : Tx K mg) : Kn P w K mg base 3 "solved_mul" ["other", "result"] (sp_solved_mul K) := by
  obtain ⟨fd, F⟩ := T.d_solved_mul
  refine kn_mk F T.g_solved_mul sc_solved_mul (fun _ _ _ _ _ _ us hl => match us, hl with | [_, _], _ => rfl) (fun vs H Q E h => ?_) (fun cdv A outer s H vs Q E hr h => ?_)
  · obtain ⟨a, r, rfl, _⟩ := h
    rfl
  · obtain ⟨a, r, rfl, ha, hr0, k⟩ := h
    refine ⟨_, (pss_cons (ps_if (pt_cmpR op_eq (pv 0) pe_int (nomark _)) (pss_one (ps_ret (pe_ifExp (pt_cmpR op_eq (pv 1) pe_int (nomark _)) (pc (kn_bits_told T) (hr.mono (by decide)) (pa_cons pe_int (pa_cons (pe_op op_sub (pe_gi T.c_ALL_BITS) pe_int) pa_nil))) pe_non))) pss_nil)
      (pss_cons (ps_set (i := 2) sc_solved_mul.nd rfl (Or.inl rfl) (pe_op op_sub (pe_bits (pe_op op_and (pv 0) (pe_op op_sub pe_int (pv 0)))) pe_int))
      (pss_cons (ps_if (pt_cmpR op_ne (pe_op op_mod (pv 1) (pe_op op_shl pe_int (pv 2))) pe_int (nomark _)) (pss_one (ps_ret pe_non)) pss_nil)
      (pss_cons (ps_set (i := 3) sc_solved_mul.nd rfl (Or.inl rfl) (pe_op op_fdivW (pe_gi T.c_ALL_BITS) (pe_op op_shl pe_int (pv 2))))
      (pss_cons (ps_set (i := 4) sc_solved_mul.nd rfl (Or.inl rfl) (pe_op op_mod (pe_op op_mul (pe_op op_shr (pv 1) (pv 2)) (pc (kn_inverse T) (hr.mono (by decide)) (pa_cons (pe_op op_mod (pe_op op_shr (pv 0) (pv 2)) (pe_gi T.c_ALL_BITS)) pa_nil))) (pv 3)))
      (pss_cons (ps_set (i := 5) sc_solved_mul.nd rfl (Or.inl rfl) (pe_op op_add (pv 4) (pe_op op_mul (pe_op op_fdivW (pe_gi T.c_LEAST) (pv 3)) (pv 3))))
      (pss_cons (ps_set (i := 5) sc_solved_mul.nd rfl (Or.inl rfl) (pe_ifExp (pt_cmpR op_ge (pv 5) (pe_gi T.c_LEAST) (nomark _)) (pv 5) (pe_op op_add (pv 5) (pv 3))))
      (pss_one (ps_ret (pc (kn_row_told T) (hr.mono (by decide)) (pa_cons (pv 5) (pa_cons (pv 3) (pa_cons (pe_op op_shl pe_int (pv 2)) pa_nil))))))))))))), st_as (σ' := [some _, some _, none, none, none, none]) rfl ?_⟩
    wtm_at "go"
    refine ite2 (fun c => ?_) (fun c => ?_)
    · subst c
      refine ite2 (fun c2 => ?_) (fun c2 => ?_)
      · wtm_at "go"
        refine k (.bits 0 (-1)) ⟨rfl, rfl, rfl, c2⟩ _ _ (by wtm_at "sm") ⟨_, rfl, sqt_of (by assumption)⟩
      · refine k .non (fun x hx => c2 ?_) _ _ (Same.refl _) rfl
        rw [Int.mul_zero] at hx
        unfold I64 at hr0
        obtain ⟨z, hz⟩ := hx
        have hz' : 0 - r = 18446744073709551616 * z := hz
        omega
    · obtain ⟨t, o, ho⟩ := twos_of c
      have ht := twos_le ho ha
      have eb : Builtin.bitAnd a (0 - a) = 2 ^ t := by rw [ho, Int.zero_sub]; exact PySem.W.kbt_low t o
      have e1 : ((Builtin.Int.intBits (Builtin.bitAnd a (0 - a)) : Nat) : Int) - 1 = (t : Int) := by rw [eb, bl_pow]; omega
      simp only [e1, Int.toNat_natCast, Int.one_mul]
      have pt : (0 : Int) < 2 ^ t := PySem.W.kbt_pos t
      have mle : (2 : Int) ^ t ≤ 9223372036854775808 := by
        have h := Nat.pow_le_pow_right (show 0 < 2 by decide) ht
        have e : (2 : Nat) ^ 63 = 9223372036854775808 := by decide
        rw [e] at h
        have c : ((2 ^ t : Nat) : Int) = (2 : Int) ^ t := Int.natCast_pow 2 t
        omega
      have cp : CPow 1 (t : Int) := cpow_of (by omega) (by omega) (by omega)
      refine ⟨cp, pt, ite2 (fun c2 => ?_) (fun c2 => ?_)⟩
      · refine ⟨cp, cdw_of pt (by omega), by omega, by omega, ?_⟩
        have eo : a / 2 ^ t = 2 * o + 1 := by rw [ho, Int.mul_ediv_cancel_left _ (by omega)]
        refine use_inverse (U64_mod _) (by rw [eo]; omega) fun v hv hc H1 s1 => ?_
        have hc2 : Cg M64 (a / 2 ^ t * v) 1 := ((Cg.of_mod M64 (a / 2 ^ t)).symm.mul (Cg.refl _ v)).trans hc
        obtain ⟨s0, hts⟩ : ∃ s0 : Nat, t + s0 = 64 := ⟨64 - t, by omega⟩
        have eM : (18446744073709551616 : Int) = 2 ^ t * 2 ^ s0 := by
          have := M_eq
          rw [← hts, Int.pow_add] at this
          exact this
        have es : (18446744073709551616 : Int) / 2 ^ t = 2 ^ s0 := by rw [eM, Int.mul_ediv_cancel_left _ (by omega)]
        have ps : (0 : Int) < 2 ^ s0 := PySem.W.kbt_pos s0
        have sle : (2 : Int) ^ s0 ≤ 18446744073709551616 := by
          rw [eM]
          have := Int.mul_le_mul_of_nonneg_right (show (1 : Int) ≤ 2 ^ t by omega) (show (0 : Int) ≤ 2 ^ s0 by omega)
          omega
        unfold U64 at hv
        rw [es]
        have fin : ∀ first : Int, first = (if r / 2 ^ t * v % 2 ^ s0 + -9223372036854775808 / 2 ^ s0 * 2 ^ s0 ≥ -9223372036854775808 then r / 2 ^ t * v % 2 ^ s0 + -9223372036854775808 / 2 ^ s0 * 2 ^ s0 else r / 2 ^ t * v % 2 ^ s0 + -9223372036854775808 / 2 ^ s0 * 2 ^ s0 + 2 ^ s0) →
            ∀ H2, Same H H2 → sp_row_told [.int first, .int (2 ^ s0), .int (2 ^ t)] H2 Q E0 := fun first hf H2 s2 => by
          have R := row_of ht ho c2 hc2 (step := 2 ^ s0) (by rw [← es]) rfl hf
          have odd : a % 2 = 1 → (2 : Int) ^ t = 1 := fun h => by
            by_cases z : t = 0
            · rw [z]; rfl
            · exfalso
              obtain ⟨t', ht'⟩ : ∃ t', t = t' + 1 := ⟨t - 1, by omega⟩
              rw [ho, ht', Int.pow_succ, Int.mul_assoc, Int.mul_left_comm] at h
              omega
          refine use_row_told pt fun H3 p s3 n3 h3 => ?_
          by_cases z : (1 : Int) < 2 ^ t
          · rw [if_pos z] at h3
            exact k (.row first (2 ^ s0) (2 ^ t)) ⟨R, odd⟩ _ _ (s2.trans s3) ⟨p, rfl, sqt_of h3⟩
          · rw [if_neg z] at h3
            have e1 : (2 : Int) ^ t = 1 := by omega
            rw [e1] at R h3
            exact k (.row first 1 1) ⟨row_one R, fun _ => rfl⟩ _ _ (s2.trans s3) ⟨p, rfl, sqt_of h3⟩
        have c3 : CDivW (-9223372036854775808) (2 ^ s0) := cdw_of ps sle
        have c4 : CMul (-9223372036854775808 / 2 ^ s0) (2 ^ s0) := by
          refine Or.inl ⟨?_, ?_⟩
          · have := Int.ediv_nonneg_iff_of_pos (a := -9223372036854775808) ps
            have := Int.le_ediv_of_mul_le ps (show (-9223372036854775808 : Int) * 2 ^ s0 ≤ -9223372036854775808 by
              have := Int.mul_le_mul_of_nonneg_left (show (1 : Int) ≤ 2 ^ s0 by omega) (show (0 : Int) ≤ 9223372036854775808 by decide)
              omega)
            omega
          · have := Int.ediv_lt_of_lt_mul ps (show (-9223372036854775808 : Int) < 1 * 2 ^ s0 by omega)
            omega
        have q1 : CMul (r / 2 ^ t) v := Or.inr ⟨by omega, by omega⟩
        wtm_at "go"
        refine ⟨c4, ite2 (fun z => ⟨cp, ?_⟩) (fun z => ⟨cp, ?_⟩)⟩
        · exact fin _ (by rw [if_pos z]) _ s1
        · exact fin _ (by rw [if_neg z]) _ s1
      · exact k .non (no_row ht ho c2) _ _ (Same.refl _) rfl
theorem use_solved_mul {H : Hp} {Q : VK} {E : XK} {a r : Int} (ha : I64 a) (hr : I64 r) (k : ∀ d, Sol a r d → ∀ H' v, Same H H' → TdAt K H' v d → Q v H') : sp_solved_mul K [.int a, .int r] H Q E := ⟨a, r, rfl, ha, hr, k⟩
def sp_solved (K : PySem.W.Frag) : Sp := fun vs H Q _ => ∃ a r : Int, vs = [.str "mul", .int a, .int r] ∧ I64 a ∧ I64 r ∧ ∀ d, Sol a r d → ∀ H' v, Same H H' → TdAt K H' v d → Q v H'
theorem kn_solved (T : Tx K mg) : Kn P w K mg base 4 "solved" ["word", "other", "result"] (sp_solved K) := by
  obtain ⟨fd, F⟩ := T.d_solved
  refine kn_mk F T.g_solved sc_solved (fun _ _ _ _ _ _ us hl => match us, hl with | [_, _, _], _ => rfl) (fun vs H Q E h => ?_) (fun cdv A outer s H vs Q E hr h => ?_)
  · obtain ⟨a, r, rfl, _⟩ := h
    rfl
  · obtain ⟨a, r, rfl, ha, hr0, k⟩ := h
    refine ⟨_, (pss_cons (ps_expr (pc (kn_check_equation T) (hr.mono (by decide)) (pa_cons (pv 0) (pa_cons (pv 1) (pa_cons (pv 2) pa_nil)))))
      (pss_cons (ps_if (pt_cmpR (op_inK K) (pv 0) (pe_tup (pa_cons pe_str (pa_cons pe_str (pa_cons pe_str pa_nil)))) (by first | rfl | exact nomark _ | with_unfolding_all rfl)) pss_never pss_nil)
      (pss_cons (ps_if (pt_cmpR op_eq (pv 0) pe_str (nomark _)) pss_never pss_nil)
      (pss_cons (ps_set (i := 4) sc_solved.nd rfl (Or.inl rfl) (pe_disp (pps_cons pe_str (pe_gr T.g_solved_mul) (pps_cons pe_str (pe_gr T.g_solved_floor) (pps_cons pe_str (pe_gr T.g_solved_mod) (pps_cons pe_str (pe_gr T.g_solved_and) (pps_cons pe_str (pe_gr T.g_solved_or) pps_nil))))) (by rfl) (by rfl) (fun z => by cases z) (by decide)))
      (pss_one (ps_ret (pe_callX (k := 3) (pe_dget2 (hu_of hr) (pv 4) (pv 0) (pe_gr T.g_solved_left) ⟨rfl, rfl, rfl, rfl⟩) (hr.mono (by decide)) (pa_cons (pv 1) (pa_cons (pv 2) pa_nil))))))))), st_as (σ' := [some _, some _, some _, none, none]) rfl ?_⟩
    wtm_at "go"
    rename_i H1 s1 p1 n1 h1 p2 n2
    refine ⟨upd_same, [(Sum.inr "mul", .ref (He.ga K "solved_mul")), (Sum.inr "floor", .ref (He.ga K "solved_floor")), (Sum.inr "mod", .ref (He.ga K "solved_mod")), (Sum.inr "band", .ref (He.ga K "solved_and")), (Sum.inr "bor", .ref (He.ga K "solved_or"))], rfl, Nat.le_of_ble_eq_true rfl, _, rfl, .inl ⟨_, .inl upd_same⟩, _, DGet.k (k := Sum.inr "mul") upd_same, ?_⟩
    have ev : valV (mergeK [] [(Sum.inr (Str.ofString "mul"), V.ref (He.ga K "solved_mul")), (Sum.inr (Str.ofString "floor"), .ref (He.ga K "solved_floor")), (Sum.inr (Str.ofString "mod"), .ref (He.ga K "solved_mod")), (Sum.inr (Str.ofString "band"), .ref (He.ga K "solved_and")), (Sum.inr (Str.ofString "bor"), .ref (He.ga K "solved_or"))]) (Sum.inr (Str.ofString "mul")) = some (.ref (He.ga K "solved_mul")) := rfl
    rw [ev]
    refine ⟨_, _, _, _, rfl, T.g_solved_mul, (kn_solved_mul T).mono (by decide), use_solved_mul ha hr0 fun d hd H' v s2 hv => k d hd H' v ?_ hv⟩
    exact s1.trans ((same_mut (same_mut (same_new n1) (Same.free (same_new n1) n2)) (Same.free (same_new n1) n2)).trans s2)
theorem use_solved {H : Hp} {Q : VK} {E : XK} {a r : Int} (ha : I64 a) (hr : I64 r) (k : ∀ d, Sol a r d → ∀ H' v, Same H H' → TdAt K H' v d → Q v H') : sp_solved K [.str "mul", .int a, .int r] H Q E := ⟨a, r, rfl, ha, hr, k⟩
end
end W41

set_option maxHeartbeats 4000000
namespace W41
open PySem PySem.Spec PyProof.Rows L2 WK Mt
local macro_rules | `(tactic| wtm_at "hp") => `(tactic| first
  | with_reducible assumption
  | with_reducible exact upd_same
  | with_reducible exact sqt_of upd_same
  | with_reducible exact sql_of upd_same
  | with_reducible exact sqt_s1 (by assumption) (by wtm_at "sm")
  | with_reducible exact sqt_s2 (by assumption) (by wtm_at "sm")
  | with_reducible exact sqt_all (by assumption)
  | with_reducible exact sql_s1 (by assumption) (by wtm_at "sm")
  | with_reducible exact sql_s2 (by assumption) (by wtm_at "sm")
  | with_reducible exact at_s1 (by assumption) (by wtm_at "sm"))
local macro_rules | `(tactic| wtm_at "sd") => `(tactic| first
  | exact Or.inl ⟨by omega, by omega⟩
  | exact Or.inr ⟨by omega, by omega⟩
  | exact ⟨by omega, by decide⟩
  | exact cdw_of (by omega) (by omega)
  | exact cpow_of (by omega) (by omega) (by omega)
  | (dsimp only; omega)
  | (show (0 : Int) < _; omega)
  | (show (0 : Int) ≤ _; omega))
local macro_rules | `(tactic| wtm_at "sx") => `(tactic| simp only [x_seq, x_next, x_brk, x_cont, x_never, x_drop, x_asg, x_name, x_sub, x_ret, x_retN, x_ifS, x_parD, x_par3D, x_c, x_op, x_un, x_test, x_tB, x_yes, x_not, x_and, x_or, x_andV, x_orV, x_notV, x_ifE, x_chain, x_nil, x_cons, x_tupD, x_lstD, x_call, x_callX, x_cb, x_forR1, x_forR2, x_forL, x_forT, x_bits, x_part, x_nopart, x_sl, x_bm0, x_bm, x_lcL, x_lcT, x_lcR1, x_aug, x_ipI, x_ib, x_bi, x_onelB, x_two, x_onel, x_disp, x_pairs0, x_pairsS, x_dget2,
  x_var0, x_var1, x_var2, x_var3, x_var4, x_var5, x_var6, x_var7, x_var8, x_var9, x_var10, x_var11, x_var12, x_var13, x_var14, x_var15, List.set_cons_zero, x_set1, x_set2, x_set3, x_set4, x_set5, x_set6, x_set7, x_set8, x_set9, x_set10, x_set11, x_set12, x_set13, x_set14, x_set15, x_i0, x_iC, x_uI, x_bl, x_eqI, x_neI, x_eqS, x_neS, x_par, x_par3, x_gnil, x_gcons, x_one, x_rt, x_nx, x_bk, x_ct, cx_K, cx_K1, List.append_nil, List.cons_append, List.nil_append, if_true, if_false, ite_not, decide_true, decide_false, Bool.not_true, Bool.not_false, Bool.false_eq_true, decide_eq_true_eq, Bool.not_eq_true', Bool.not_eq_false', decide_eq_false_iff_not, true_and, and_true, reduceCtorEq, Int.reduceLT, Int.reduceLE, Int.reduceToNat, false_and, exists_false, or_false, false_or, wipe, List.map_cons, List.map_nil])
local macro_rules | `(tactic| wtm_at "g1") => `(tactic| first
  | with_reducible refine g_i0 ?_
  | with_reducible refine g_iC (by k_dflt (wtm_at "sd")) ?_
  | with_reducible refine g_ixT (by wtm_at "hp") rfl ?_
  | with_reducible refine g_pY (by k_dflt (wtm_at "cd")) ?_
  | with_reducible refine g_pX (by k_dflt (wtm_at "cd")) ?_
  | with_reducible refine g_size (by k_dflt exact (Nat.le_of_ble_eq_true rfl)) ?_
  | with_reducible refine isi_ii ?_
  | with_reducible refine isi_ib ?_
  | with_reducible refine isi_ss ?_
  | with_reducible refine isi_tt (by wtm_at "hp") ?_
  | with_reducible refine isi_bb ?_
  | with_reducible refine isi_is ?_
  | with_reducible refine g_inT (bb := true) (by wtm_at "hp") rfl rfl (by decide +kernel) ?_
  | with_reducible refine g_inT (bb := false) (by wtm_at "hp") rfl rfl (by decide +kernel) ?_
  | with_reducible refine g_notInT (bb := true) (by wtm_at "hp") rfl rfl (by decide +kernel) ?_
  | with_reducible refine g_notInT (bb := false) (by wtm_at "hp") rfl rfl (by decide +kernel) ?_
  | with_reducible refine g_ixL (by wtm_at "hp") rfl ?_
  | with_reducible refine g_tup (by wtm_at "hp") rfl ?_
  | with_reducible refine g_bl ?_
  | with_reducible refine g_eqI ?_
  | with_reducible refine g_neI ?_
  | with_reducible refine g_lenT (by wtm_at "hp") ?_
  | with_reducible refine g_lenL (by wtm_at "hp") ?_
  | with_reducible refine g_tl4 (by wtm_at "hp") ?_
  | with_reducible refine g_tl3 (by wtm_at "hp") ?_
  | with_reducible refine g_slL (by wtm_at "hp") ?_
  | with_reducible refine g_listL (by wtm_at "hp") ?_
  | with_reducible refine g_setL (by wtm_at "hp") rfl ?_
  | (with_reducible refine g_newT ?_; intro p np hp)
  | (with_reducible refine g_newL ?_; intro p np hp)
  | (with_reducible refine g_all ?_; intro p np)
  | with_reducible refine ⟨by k_dflt (wtm_at "sd"), ?_⟩
  | wtm_at "u1")
local macro_rules | `(tactic| wtm_at "cd") => `(tactic| first | omega | decide +kernel)
local macro_rules | `(tactic| wtm_at "go") => `(tactic| ((try wtm_at "sx"); repeat (wtm_at "g1"; try wtm_at "sx")))
local macro_rules | `(tactic| wtm_at "sm") => `(tactic| first
  | with_reducible assumption
  | with_reducible exact Same.refl _
  | with_reducible exact same_new (by assumption)
  | (with_reducible refine Same.trans ?_ (same_new (by assumption)); wtm_at "sm")
  | (with_reducible refine same_mut ?_ (by wtm_at "fr"); wtm_at "sm")
  | (with_reducible refine Same.trans ?_ (by assumption); wtm_at "sm"))
local macro_rules | `(tactic| wtm_at "fr") => `(tactic| first
  | with_reducible assumption
  | with_reducible exact free2 (by assumption) (by wtm_at "sm"))

local macro_rules | `(tactic| wtm_at "u1") => `(tactic| (with_reducible refine use_wrapped ?_; intro H1 s1))
local macro_rules | `(tactic| wtm_at "u1") => `(tactic| (with_reducible refine isi_own (ty_int _) (by assumption) ?_))
local macro_rules | `(tactic| wtm_at "u1") => `(tactic| (with_reducible refine use_is_whole_number (by k_dflt (wtm_at "i64")) ?_; intro H1 s1))
local macro_rules | `(tactic| wtm_at "i64") => `(tactic| first | assumption | exact wrap_I64 _ | (unfold I64; omega))
local macro_rules | `(tactic| wtm_at "u1") => `(tactic| (with_reducible refine use_arith (by k_dflt (wtm_at "i64")) (by k_dflt (wtm_at "i64")) (by k_dflt first | exact Or.inl ⟨rfl, rfl⟩ | exact Or.inr ⟨rfl, rfl⟩) ?_; intro H1 s1))
local macro_rules | `(tactic| wtm_at "u1") => `(tactic| (with_reducible refine use_check_equation (by k_dflt (wtm_at "i64")) (by k_dflt (wtm_at "i64")) (by decide +kernel) ?_; intro H1 s1))
local macro_rules | `(tactic| wtm_at "u1") => `(tactic| (with_reducible refine use_bits_told ?_; intro H1 p1 s1 n1 h1))
section
variable {P : Program} {w : World} {K : PySem.W.Frag} {mg : Str → Option Value} {base : Heap}
/-- forms that may be asked -/
def Wf : Td → Prop
  | .non => True
  | .row f s m => I64 f ∧ 1 ≤ s ∧ s ≤ 18446744073709551616 ∧ 1 ≤ m ∧ m ≤ 18446744073709551616 ∧ f + s * (m - 1) ≤ 9223372036854775807
  | .bits x y => x = 0 ∧ y = -1
theorem Sol.wf {a r : Int} {d : Td} (h : Sol a r d) : Wf d := by
  cases d with
  | non => trivial
  | row f s m => exact ⟨h.1.i1, h.1.s1, h.1.s2, h.1.m1, by have := h.1.m2; omega, h.1.top⟩
  | bits x y => exact ⟨h.1, h.2.1⟩
def cnt : Td → Int
  | .non => 0
  | .row _ _ m => m
  | .bits _ _ => 18446744073709551616
def sp_count_of (K : PySem.W.Frag) : Sp := fun vs H Q _ => ∃ v d, vs = [v] ∧ TdAt K H v d ∧ Wf d ∧ Ret (.int (cnt d)) H Q
theorem kn_count_of (T : Tx K mg) : Kn P w K mg base 1 "count_of" ["told"] (sp_count_of K) := by
  obtain ⟨fd, F⟩ := T.d_count_of
  refine kn_mk F T.g_count_of sc_count_of (fun _ _ _ _ _ _ us hl => match us, hl with | [_], _ => rfl) (fun vs H Q E h => ?_) (fun cdv A outer s H vs Q E hr h => ?_)
  · obtain ⟨v, d, rfl, _⟩ := h
    rfl
  · obtain ⟨v, d, rfl, hd, hw, k⟩ := h
    refine ⟨_, (pss_cons (ps_if (pt_cmpR op_isN (pv 0) pe_non (nomark _)) (pss_one (ps_ret pe_int)) pss_nil)
      (pss_cons (ps_if (pt_cmpR op_eq (pe_ix (ix_tupK K) (pv 0) pe_int (fun _ _ => rfl)) (pe_gs T.c_ROW) (nomark _)) (pss_one (ps_ret (pe_ix (ix_tupK K) (pv 0) pe_int (fun _ _ => rfl)))) pss_nil)
      (pss_one (ps_ret (pe_op op_shl pe_int (pe_callB (cr_sumK K rfl) (by rfl) T.n_sum (by decide +kernel) (pa_cons (pe_lc (own := [("at", 1)]) (g := gName 1) (by rfl) sc_count_of.nd (pi_range1 rfl T.n_range (pa_cons (pe_gi T.c_BITS) pa_nil)) (blkOk_by (own := [("at", 1)]) (N := ["told", "at"]) (sc := defScope s_count_of) (by decide +kernel)) (fun _ _ _ _ _ => pg_name (i := 1) sc_count_of.nd rfl (Or.inl rfl)) (fun _ _ _ _ _ => pts_nil) (fun _ _ _ _ _ => (pe_op op_and (pe_op op_shr (pe_op op_mod (pe_ix (ix_tupK K) (pv 0) pe_int (fun _ _ => rfl)) (pe_gi T.c_ALL_BITS)) (pv 1)) pe_int))) pa_nil))))))), st_as (σ' := [some _, none]) rfl ?_⟩
    cases d with
    | non =>
      cases (show v = .non from hd)
      wtm_at "go"
      exact k _ (Same.refl _)
    | row f s0 m =>
      obtain ⟨p, rfl, hp⟩ := hd
      wtm_at "go"
      exact k _ (Same.refl _)
    | bits x y =>
      obtain ⟨p, rfl, hp⟩ := hd
      obtain ⟨rfl, rfl⟩ := hw
      wtm_at "go"
      refine mk_lcR1 (by decide) (fun D i H' => Same H H' ∧ H D = none ∧ H' D = some (.lst ((List.replicate i (1 : Int)).map V.int))) (fun D hD => ⟨same_new hD, hD, upd_same⟩) (fun D hD i H' hi ⟨s1, n1, h1⟩ => ?_) (fun D hD H' ⟨s1, n1, h1⟩ => ?_)
      · wtm_at "go"
        refine ⟨_, h1, ?_, same_mut s1 n1, n1, ?_⟩
        · rw [List.length_map, List.length_replicate]
          exact Nat.lt_of_lt_of_le (show i < 64 by omega) (by decide)
        · rw [upd_same, List.replicate_succ', List.map_append]
          have e : Builtin.bitAnd (-1 % 18446744073709551616 / 2 ^ (i : Int).toNat) 1 = 1 := by
            rw [bitAnd_m1, Int.toNat_natCast]
            have key : ∀ i : Nat, i < 64 → (-1 % 18446744073709551616 : Int) / 2 ^ i % 2 = 1 := by decide
            exact key i (by omega)
          rw [e]
          rfl
      · refine g_sum (List.replicate 64 1) (sql_of h1) ?_
        have e : (List.replicate 64 (1 : Int)).sum = 64 := by decide
        rw [e]
        wtm_at "go"
        exact k _ s1
theorem use_count_of {H : Hp} {Q : VK} {E : XK} {v : V} {d : Td} (hd : TdAt K H v d) (hw : Wf d) (k : Ret (.int (cnt d)) H Q) : sp_count_of K [v] H Q E := ⟨v, d, rfl, hd, hw, k⟩
def sp_is_whole_or_many : Sp := fun vs H Q _ => ∃ n : Int, vs = [.int n] ∧ -9223372036854775808 ≤ n ∧ n ≤ 18446744073709551616 ∧ Ret (.bl true) H Q
theorem kn_is_whole_or_many (T : Tx K mg) : Kn P w K mg base 1 "is_whole_or_many" ["thing"] (sp_is_whole_or_many) := by
  obtain ⟨fd, F⟩ := T.d_is_whole_or_many
  refine kn_mk F T.g_is_whole_or_many sc_is_whole_or_many (fun _ _ _ _ _ _ us hl => match us, hl with | [_], _ => rfl) (fun vs H Q E h => ?_) (fun cdv A outer s H vs Q E hr h => ?_)
  · obtain ⟨n, rfl, _⟩ := h
    rfl
  · obtain ⟨n, rfl, h1, h2, k⟩ := h
    refine ⟨_, (pss_one (ps_ret (pe_and (pe_callB (call_isiK1 K) (by rfl) T.n_isinstance (by decide +kernel) (pa_cons (pv 0) (pa_cons (pe_bltn (v := .ty "int") rfl T.n_int (by decide +kernel) rfl) pa_nil))) (pe_and (pe_not (pe_callB (call_isiK1 K) (by rfl) T.n_isinstance (by decide +kernel) (pa_cons (pv 0) (pa_cons (pe_bltn (v := .ty "bool") rfl T.n_bool (by decide +kernel) rfl) pa_nil)))) (pe_one (pe_chain op_le op_le (pe_gi T.c_LEAST) (pv 0) (pe_gi T.c_ALL_BITS))))))), st_as (σ' := [some _]) rfl ?_⟩
    wtm_at "go"
    rw [decide_eq_true h2]
    exact k _ (Same.refl _)
theorem use_is_whole_or_many {H : Hp} {Q : VK} {E : XK} {n : Int} (h1 : -9223372036854775808 ≤ n) (h2 : n ≤ 18446744073709551616) (k : Ret (.bl true) H Q) : sp_is_whole_or_many [.int n] H Q E := ⟨n, rfl, h1, h2, k⟩
local macro_rules | `(tactic| wtm_at "u1") => `(tactic| (with_reducible refine use_is_whole_or_many (by k_dflt omega) (by k_dflt omega) ?_; intro H1 s1))
def sp_check_solution (K : PySem.W.Frag) : Sp := fun vs H Q _ => ∃ v d, vs = [v] ∧ TdAt K H v d ∧ Wf d ∧ Ret .non H Q
theorem kn_check_solution (T : Tx K mg) : Kn P w K mg base 2 "check_solution" ["told"] (sp_check_solution K) := by
  obtain ⟨fd, F⟩ := T.d_check_solution
  refine kn_mk F T.g_check_solution sc_check_solution (fun _ _ _ _ _ _ us hl => match us, hl with | [_], _ => rfl) (fun vs H Q E h => ?_) (fun cdv A outer s H vs Q E hr h => ?_)
  · obtain ⟨v, d, rfl, _⟩ := h
    rfl
  · obtain ⟨v, d, rfl, hd, hw, k⟩ := h
    refine ⟨_, (pss_cons (ps_if (pt_cmpR op_isN (pv 0) pe_non (nomark _)) (pss_one ps_retN) pss_nil)
      (pss_cons (ps_if (PW.pt (pw_or (pt_not (pt_val (pe_callB (call_isiK1 K) (by rfl) T.n_isinstance (by decide +kernel) (pa_cons (pv 0) (pa_cons (pe_bltn (v := .ty "tuple") rfl T.n_tuple (by decide +kernel) rfl) pa_nil))))) (pw_or (pt_cmpR (op_eqDK K (hr.units)) (pv 0) (pe_tup pa_nil) (nomark _)) (pw_or1 (pt_not (pt_val (pe_callB (call_isiK1 K) (by rfl) T.n_isinstance (by decide +kernel) (pa_cons (pe_ix (ix_tupK K) (pv 0) pe_int (fun _ _ => rfl)) (pa_cons (pe_bltn (v := .ty "str") rfl T.n_str (by decide +kernel) rfl) pa_nil))))))))) pss_never pss_nil)
      (pss_cons (ps_if (PW.pt (pw_or (pt_cmpR op_ne (pe_callB (call_lenK K) (by rfl) T.n_len (by decide +kernel) (pa_cons (pv 0) pa_nil)) (pe_dget2 (hu_of hr) (pe_disp (pps_cons (pe_gs T.c_ROW) pe_int (pps_cons (pe_gs T.c_FREE) pe_int pps_nil)) (by rfl) (by rfl) (fun z => by cases z) (by decide)) (pe_ix (ix_tupK K) (pv 0) pe_int (fun _ _ => rfl)) pe_int ⟨rfl, rfl, rfl, rfl⟩) (nomark _)) (pw_or1 (pt_not (pt_val (pe_callB (cr_allK K rfl) (by rfl) T.n_all (by decide +kernel) (pa_cons (pe_lc (own := [("part", 1)]) (g := gName 1) (by rfl) sc_check_solution.nd (pi_tupK K (pe_slice (sl_tupK K) (pv 0) (po_some pe_int) po_none)) (blkOk_by (own := [("part", 1)]) (N := ["told", "part"]) (sc := defScope s_check_solution) (by decide +kernel)) (fun _ _ _ _ _ => pg_name (i := 1) sc_check_solution.nd rfl (Or.inl rfl)) (fun _ _ _ _ _ => pts_nil) (fun _ _ _ _ _ => (pc (kn_is_whole_or_many T) (hr.mono (by decide)) (pa_cons (pv 1) pa_nil)))) pa_nil))))))) pss_never pss_nil)
      (pss_cons (ps_if (PW.pt (pw_and (pt_cmpR op_eq (pe_ix (ix_tupK K) (pv 0) pe_int (fun _ _ => rfl)) (pe_gs T.c_ROW) (nomark _)) (pw_and1 (PW.pt (pw_or (pt_cmpR op_lt (pe_ix (ix_tupK K) (pv 0) pe_int (fun _ _ => rfl)) pe_int (nomark _)) (pw_or (pt_cmpR op_lt (pe_ix (ix_tupK K) (pv 0) pe_int (fun _ _ => rfl)) pe_int (nomark _)) (pw_or1 (pt_not (pt_val (pc (kn_is_whole_number T) (hr.mono (by decide)) (pa_cons (pe_ix (ix_tupK K) (pv 0) pe_int (fun _ _ => rfl)) pa_nil))))))))))) pss_never pss_nil)
      (pss_cons (ps_if (PW.pt (pw_or (PW.pt (pw_and (pt_cmpR op_eq (pe_ix (ix_tupK K) (pv 0) pe_int (fun _ _ => rfl)) (pe_gs T.c_ROW) (nomark _)) (pw_and1 (pt_cmpR op_gt (pe_op op_add (pe_ix (ix_tupK K) (pv 0) pe_int (fun _ _ => rfl)) (pe_op op_mul (pe_ix (ix_tupK K) (pv 0) pe_int (fun _ _ => rfl)) (pe_op op_sub (pe_ix (ix_tupK K) (pv 0) pe_int (fun _ _ => rfl)) pe_int))) (pe_gi T.c_MOST) (nomark _))))) (pw_or1 (PW.pt (pw_and (pt_cmpR op_eq (pe_ix (ix_tupK K) (pv 0) pe_int (fun _ _ => rfl)) (pe_gs T.c_FREE) (nomark _)) (pw_and1 (pt_cmpR op_ne (pe_op op_and (pe_ix (ix_tupK K) (pv 0) pe_int (fun _ _ => rfl)) (pe_ix (ix_tupK K) (pv 0) pe_int (fun _ _ => rfl))) pe_int (nomark _)))))))) pss_never pss_nil)
      (pss_one (ps_if (PW.pt (pw_and (pt_cmpR op_eq (pe_ix (ix_tupK K) (pv 0) pe_int (fun _ _ => rfl)) (pe_gs T.c_FREE) (nomark _)) (pw_and1 (pt_not (pt_val (pe_callB (cr_allK K rfl) (by rfl) T.n_all (by decide +kernel) (pa_cons (pe_lc (own := [("part", 1)]) (g := gName 1) (by rfl) sc_check_solution.nd (pi_tupK K (pe_slice (sl_tupK K) (pv 0) (po_some pe_int) po_none)) (blkOk_by (own := [("part", 1)]) (N := ["told", "part"]) (sc := defScope s_check_solution) (by decide +kernel)) (fun _ _ _ _ _ => pg_name (i := 1) sc_check_solution.nd rfl (Or.inl rfl)) (fun _ _ _ _ _ => pts_nil) (fun _ _ _ _ _ => (pc (kn_is_whole_number T) (hr.mono (by decide)) (pa_cons (pv 1) pa_nil)))) pa_nil))))))) pss_never pss_nil))))))), st_as (σ' := [some _, none]) rfl ?_⟩
    cases d with
    | non =>
      cases (show v = .non from hd)
      wtm_at "go"
      exact k _ (Same.refl _)
    | row f s0 m =>
      obtain ⟨p, rfl, hp⟩ := hd
      obtain ⟨w1, w2, w3, w4, w5, w6⟩ := hw
      have w1' := w1
      unfold I64 at w1'
      wtm_at "go"
      refine g_eqD (b := false) (dp_tup (by wtm_at "hp") (.cons (.str _) (.cons (.int _) (.cons (.int _) (.cons (.int _) .nil))))) (dp_tup (by wtm_at "hp") .nil) (sh_of (cl_tup (cl_cons cl_str (cl_cons cl_int (cl_cons cl_int (cl_cons cl_int cl_nil))))) (by simp only [PyData.depth, PyData.depthAll]; omega)) (sh_of (cl_tup cl_nil) (by simp only [PyData.depth, PyData.depthAll]; omega)) rfl ?_
      wtm_at "go"
      rename_i p1 n1 h1 p2 n2
      refine ⟨upd_same, [(Sum.inr "row", .int 4), (Sum.inr "bits", .int 3)], rfl, Nat.le_of_ble_eq_true rfl, _, rfl, .inl ⟨_, .inl upd_same⟩, ?_⟩
      have s1 : Same H (upd (upd (upd H p1 (.tup [])) p2 (.dK [])) p2 (.dK (mergeK [] [(Sum.inr "row", V.int 4), (Sum.inr "bits", .int 3)]))) := same_mut (same_mut (same_new n1) (Same.free (same_new n1) n2)) (Same.free (same_new n1) n2)
      generalize hg : upd (upd (upd H p1 (.tup [])) p2 (.dK [])) p2 (.dK (mergeK [] [(Sum.inr "row", V.int 4), (Sum.inr "bits", .int 3)])) = H1 at s1 ⊢
      have hd : H1 p2 = some (.dK (mergeK [] [(Sum.inr "row", V.int 4), (Sum.inr "bits", .int 3)])) := by rw [← hg]; exact upd_same
      wtm_at "go"
      refine ⟨_, DGet.k (k := Sum.inr "row") hd, ?_⟩
      have ev : valV (mergeK [] [(Sum.inr (Str.ofString "row"), V.int 4), (Sum.inr (Str.ofString "bits"), .int 3)]) (Sum.inr (Str.ofString "row")) = some (.int 4) := rfl
      rw [ev]
      simp only [Option.getD_some, List.length_cons, List.length_nil]
      wtm_at "go"
      rename_i p3 n3 h3'
      have s2 : Same H (upd H1 p3 (.tup [.int f, .int s0, .int m])) := s1.trans (same_new n3)
      refine mk_lcT [V.int f, .int s0, .int m] (fun D i H' => Same (upd H1 p3 (.tup [.int f, .int s0, .int m])) H' ∧ (upd H1 p3 (.tup [.int f, .int s0, .int m])) D = none ∧ H' D = some (.lst ((List.replicate i true).map V.bl))) (fun D hD => ⟨same_new hD, hD, upd_same⟩)
        (fun D hD i H' _ p => sqt_same p.1 (sqt_of upd_same)) (sqt_of upd_same) (fun D hD i x H' hi ⟨s3, n3, h3⟩ => ?_) (fun D hD H' ⟨s3, n3, h3⟩ => ?_)
      · have hx : ∃ z : Int, x = .int z ∧ -9223372036854775808 ≤ z ∧ z ≤ 18446744073709551616 := by
          match i, hi with
          | 0, e => cases e; exact ⟨_, rfl, by omega, by omega⟩
          | 1, e => cases e; exact ⟨_, rfl, by omega, by omega⟩
          | 2, e => cases e; exact ⟨_, rfl, by omega, by omega⟩
        have hi3 : i < 3 := (List.getElem?_eq_some_iff.mp hi).1
        obtain ⟨z, rfl, z1, z2⟩ := hx
        wtm_at "go"
        rename_i H2 s4
        refine ⟨_, s4 _ _ h3, rep_len (by omega), same_mut (s3.trans s4) n3, n3, ?_⟩
        rw [upd_same, rep_snoc]
      · refine g_allT _ h3 ?_
        have s5 : Same H H' := s2.trans s3
        clear s3 hd h3' s1 s2
        wtm_at "go"
        exact k _ (by wtm_at "sm")
    | bits x y =>
      obtain ⟨p, rfl, hp⟩ := hd
      obtain ⟨rfl, rfl⟩ := hw
      wtm_at "go"
      refine g_eqD (b := false) (dp_tup (by wtm_at "hp") (.cons (.str _) (.cons (.int _) (.cons (.int _) .nil)))) (dp_tup (by wtm_at "hp") .nil) (sh_of (cl_tup (cl_cons cl_str (cl_cons cl_int (cl_cons cl_int cl_nil)))) (by simp only [PyData.depth, PyData.depthAll]; omega)) (sh_of (cl_tup cl_nil) (by simp only [PyData.depth, PyData.depthAll]; omega)) rfl ?_
      wtm_at "go"
      rename_i p1 n1 h1 p2 n2
      refine ⟨upd_same, [(Sum.inr "row", .int 4), (Sum.inr "bits", .int 3)], rfl, Nat.le_of_ble_eq_true rfl, _, rfl, .inl ⟨_, .inl upd_same⟩, ?_⟩
      have s1 : Same H (upd (upd (upd H p1 (.tup [])) p2 (.dK [])) p2 (.dK (mergeK [] [(Sum.inr "row", V.int 4), (Sum.inr "bits", .int 3)]))) := same_mut (same_mut (same_new n1) (Same.free (same_new n1) n2)) (Same.free (same_new n1) n2)
      generalize hg : upd (upd (upd H p1 (.tup [])) p2 (.dK [])) p2 (.dK (mergeK [] [(Sum.inr "row", V.int 4), (Sum.inr "bits", .int 3)])) = H1 at s1 ⊢
      have hd : H1 p2 = some (.dK (mergeK [] [(Sum.inr "row", V.int 4), (Sum.inr "bits", .int 3)])) := by rw [← hg]; exact upd_same
      wtm_at "go"
      refine ⟨_, DGet.k (k := Sum.inr "bits") hd, ?_⟩
      have ev : valV (mergeK [] [(Sum.inr (Str.ofString "row"), V.int 4), (Sum.inr (Str.ofString "bits"), .int 3)]) (Sum.inr (Str.ofString "bits")) = some (.int 3) := rfl
      rw [ev]
      simp only [Option.getD_some, List.length_cons, List.length_nil]
      wtm_at "go"
      rename_i p3 n3 h3'
      have s2 : Same H (upd H1 p3 (.tup [.int 0, .int (-1)])) := s1.trans (same_new n3)
      refine mk_lcT [V.int 0, .int (-1)] (fun D i H' => Same (upd H1 p3 (.tup [.int 0, .int (-1)])) H' ∧ (upd H1 p3 (.tup [.int 0, .int (-1)])) D = none ∧ H' D = some (.lst ((List.replicate i true).map V.bl))) (fun D hD => ⟨same_new hD, hD, upd_same⟩)
        (fun D hD i H' _ p => sqt_same p.1 (sqt_of upd_same)) (sqt_of upd_same) (fun D hD i x H' hi ⟨s3, n3, h3⟩ => ?_) (fun D hD H' ⟨s3, n3, h3⟩ => ?_)
      · have hx : ∃ z : Int, x = .int z ∧ -9223372036854775808 ≤ z ∧ z ≤ 18446744073709551616 := by
          match i, hi with
          | 0, e => cases e; exact ⟨_, rfl, by omega, by omega⟩
          | 1, e => cases e; exact ⟨_, rfl, by omega, by omega⟩
        have hi3 : i < 2 := (List.getElem?_eq_some_iff.mp hi).1
        obtain ⟨z, rfl, z1, z2⟩ := hx
        wtm_at "go"
        rename_i H2 s4
        refine ⟨_, s4 _ _ h3, rep_len (by omega), same_mut (s3.trans s4) n3, n3, ?_⟩
        rw [upd_same, rep_snoc]
      · refine g_allT _ h3 ?_
        have s5 : Same H H' := s2.trans s3
        clear s3 hd h3' s1 s2 h1
        wtm_at "go"
        rename_i p4 n4 h4
        refine mk_lcT [V.int 0, .int (-1)] (fun D i H3 => Same (upd H' p4 (.tup [.int 0, .int (-1)])) H3 ∧ (upd H' p4 (.tup [.int 0, .int (-1)])) D = none ∧ H3 D = some (.lst ((List.replicate i true).map V.bl))) (fun D hD => ⟨same_new hD, hD, upd_same⟩)
          (fun D hD i H' _ p => sqt_same p.1 (sqt_of upd_same)) (sqt_of upd_same) (fun D hD i x H' hi ⟨s3, n3, h3⟩ => ?_) (fun D hD H' ⟨s3, n3, h3⟩ => ?_)
        · have hx : ∃ z : Int, x = .int z ∧ I64 z := by
            match i, hi with
            | 0, e => cases e; exact ⟨_, rfl, by decide, by decide⟩
            | 1, e => cases e; exact ⟨_, rfl, by decide, by decide⟩
          have hi3 : i < 2 := (List.getElem?_eq_some_iff.mp hi).1
          obtain ⟨z, rfl, hz⟩ := hx
          wtm_at "go"
          rename_i H2 s4
          refine ⟨_, s4 _ _ h3, rep_len (by omega), same_mut (s3.trans s4) n3, n3, ?_⟩
          rw [upd_same, rep_snoc]
        · refine g_allT _ h3 ?_
          wtm_at "go"
          exact k _ (s5.trans ((same_new n4).trans s3))
theorem use_check_solution {H : Hp} {Q : VK} {E : XK} {v : V} {d : Td} (hd : TdAt K H v d) (hw : Wf d) (k : Ret .non H Q) : sp_check_solution K [v] H Q E := ⟨v, d, rfl, hd, hw, k⟩
end
end W41

set_option maxHeartbeats 4000000
namespace W41
open PySem PySem.Spec PyProof.Rows L2 WK Mt
local macro_rules | `(tactic| wtm_at "hp") => `(tactic| first
  | with_reducible assumption
  | with_reducible exact upd_same
  | with_reducible exact sqt_of upd_same
  | with_reducible exact sql_of upd_same
  | with_reducible exact sqt_s1 (by assumption) (by wtm_at "sm")
  | with_reducible exact sqt_s2 (by assumption) (by wtm_at "sm")
  | with_reducible exact sqt_all (by assumption)
  | with_reducible exact sql_s1 (by assumption) (by wtm_at "sm")
  | with_reducible exact sql_s2 (by assumption) (by wtm_at "sm")
  | with_reducible exact at_s1 (by assumption) (by wtm_at "sm"))
local macro_rules | `(tactic| wtm_at "sd") => `(tactic| first
  | exact Or.inl ⟨by omega, by omega⟩
  | exact Or.inr ⟨by omega, by omega⟩
  | exact ⟨by omega, by decide⟩
  | exact cdw_of (by omega) (by omega)
  | exact cpow_of (by omega) (by omega) (by omega)
  | (dsimp only; omega)
  | (show (0 : Int) < _; omega)
  | (show (0 : Int) ≤ _; omega))
local macro_rules | `(tactic| wtm_at "sx") => `(tactic| simp only [x_seq, x_next, x_brk, x_cont, x_never, x_drop, x_asg, x_name, x_sub, x_ret, x_retN, x_ifS, x_parD, x_par3D, x_c, x_op, x_un, x_test, x_tB, x_yes, x_not, x_and, x_or, x_andV, x_orV, x_notV, x_ifE, x_chain, x_nil, x_cons, x_tupD, x_lstD, x_call, x_callX, x_cb, x_forR1, x_forR2, x_forL, x_forT, x_bits, x_part, x_nopart, x_sl, x_bm0, x_bm, x_lcL, x_lcT, x_lcR1, x_aug, x_ipI, x_ib, x_bi, x_onelB, x_two, x_onel, x_disp, x_pairs0, x_pairsS, x_dget2,
  x_var0, x_var1, x_var2, x_var3, x_var4, x_var5, x_var6, x_var7, x_var8, x_var9, x_var10, x_var11, x_var12, x_var13, x_var14, x_var15, List.set_cons_zero, x_set1, x_set2, x_set3, x_set4, x_set5, x_set6, x_set7, x_set8, x_set9, x_set10, x_set11, x_set12, x_set13, x_set14, x_set15, x_i0, x_iC, x_uI, x_bl, x_eqI, x_neI, x_eqS, x_neS, x_par, x_par3, x_gnil, x_gcons, x_one, x_rt, x_nx, x_bk, x_ct, cx_K, cx_K1, List.append_nil, List.cons_append, List.nil_append, if_true, if_false, ite_not, decide_true, decide_false, Bool.not_true, Bool.not_false, Bool.false_eq_true, decide_eq_true_eq, Bool.not_eq_true', Bool.not_eq_false', decide_eq_false_iff_not, true_and, and_true, reduceCtorEq, Int.reduceLT, Int.reduceLE, Int.reduceToNat, false_and, exists_false, or_false, false_or, wipe, List.map_cons, List.map_nil])
local macro_rules | `(tactic| wtm_at "g1") => `(tactic| first
  | with_reducible refine g_i0 ?_
  | with_reducible refine g_iC (by k_dflt (wtm_at "sd")) ?_
  | with_reducible refine g_ixT (by wtm_at "hp") rfl ?_
  | with_reducible refine g_pY (by k_dflt (wtm_at "cd")) ?_
  | with_reducible refine g_pX (by k_dflt (wtm_at "cd")) ?_
  | with_reducible refine g_size (by k_dflt exact (Nat.le_of_ble_eq_true rfl)) ?_
  | with_reducible refine isi_ii ?_
  | with_reducible refine isi_ib ?_
  | with_reducible refine isi_ss ?_
  | with_reducible refine isi_tt (by wtm_at "hp") ?_
  | with_reducible refine isi_bb ?_
  | with_reducible refine isi_is ?_
  | with_reducible refine g_inT (bb := true) (by wtm_at "hp") rfl rfl (by decide +kernel) ?_
  | with_reducible refine g_inT (bb := false) (by wtm_at "hp") rfl rfl (by decide +kernel) ?_
  | with_reducible refine g_notInT (bb := true) (by wtm_at "hp") rfl rfl (by decide +kernel) ?_
  | with_reducible refine g_notInT (bb := false) (by wtm_at "hp") rfl rfl (by decide +kernel) ?_
  | with_reducible refine g_ixL (by wtm_at "hp") rfl ?_
  | with_reducible refine g_tup (by wtm_at "hp") rfl ?_
  | with_reducible refine g_bl ?_
  | with_reducible refine g_eqI ?_
  | with_reducible refine g_neI ?_
  | with_reducible refine g_lenT (by wtm_at "hp") ?_
  | with_reducible refine g_lenL (by wtm_at "hp") ?_
  | with_reducible refine g_tl4 (by wtm_at "hp") ?_
  | with_reducible refine g_tl3 (by wtm_at "hp") ?_
  | with_reducible refine g_slL (by wtm_at "hp") ?_
  | with_reducible refine g_listL (by wtm_at "hp") ?_
  | with_reducible refine g_setL (by wtm_at "hp") rfl ?_
  | (with_reducible refine g_newT ?_; intro p np hp)
  | (with_reducible refine g_newL ?_; intro p np hp)
  | (with_reducible refine g_all ?_; intro p np)
  | with_reducible refine ⟨by k_dflt (wtm_at "sd"), ?_⟩
  | wtm_at "u1")
local macro_rules | `(tactic| wtm_at "cd") => `(tactic| first | omega | decide +kernel)
local macro_rules | `(tactic| wtm_at "go") => `(tactic| ((try wtm_at "sx"); repeat (wtm_at "g1"; try wtm_at "sx")))
local macro_rules | `(tactic| wtm_at "sm") => `(tactic| first
  | with_reducible assumption
  | with_reducible exact Same.refl _
  | with_reducible exact same_new (by assumption)
  | (with_reducible refine Same.trans ?_ (same_new (by assumption)); wtm_at "sm")
  | (with_reducible refine same_mut ?_ (by wtm_at "fr"); wtm_at "sm")
  | (with_reducible refine Same.trans ?_ (by assumption); wtm_at "sm"))
local macro_rules | `(tactic| wtm_at "fr") => `(tactic| first
  | with_reducible assumption
  | with_reducible exact free2 (by assumption) (by wtm_at "sm"))

local macro_rules | `(tactic| wtm_at "u1") => `(tactic| (with_reducible refine use_wrapped ?_; intro H1 s1))
local macro_rules | `(tactic| wtm_at "u1") => `(tactic| (with_reducible refine isi_own (ty_int _) (by assumption) ?_))
local macro_rules | `(tactic| wtm_at "u1") => `(tactic| (with_reducible refine use_is_whole_number (by k_dflt (wtm_at "i64")) ?_; intro H1 s1))
local macro_rules | `(tactic| wtm_at "i64") => `(tactic| first | assumption | exact wrap_I64 _ | (unfold I64; omega))
local macro_rules | `(tactic| wtm_at "u1") => `(tactic| (with_reducible refine use_arith (by k_dflt (wtm_at "i64")) (by k_dflt (wtm_at "i64")) (by k_dflt first | exact Or.inl ⟨rfl, rfl⟩ | exact Or.inr ⟨rfl, rfl⟩) ?_; intro H1 s1))
local macro_rules | `(tactic| wtm_at "u1") => `(tactic| (with_reducible refine use_check_equation (by k_dflt (wtm_at "i64")) (by k_dflt (wtm_at "i64")) (by decide +kernel) ?_; intro H1 s1))
local macro_rules | `(tactic| wtm_at "u1") => `(tactic| (with_reducible refine use_bits_told ?_; intro H1 p1 s1 n1 h1))
local macro_rules | `(tactic| wtm_at "u1") => `(tactic| (with_reducible refine use_is_whole_or_many (by k_dflt omega) (by k_dflt omega) ?_; intro H1 s1))
section
variable {P : Program} {w : World} {K : PySem.W.Frag} {mg : Str → Option Value} {base : Heap}
local macro_rules | `(tactic| wtm_at "u1") => `(tactic| (with_reducible refine use_check_solution (by assumption) (by assumption) ?_; intro H1 s1))
local macro_rules | `(tactic| wtm_at "u1") => `(tactic| (with_reducible refine use_count_of (by first | assumption | exact TdAt.same (by wtm_at "sm") (by assumption)) (by assumption) ?_; intro H1 s1))
def solAt : Td → Int → Int
  | .non, _ => 0
  | .row f s _, n => f + s * n
  | .bits _ _, n => wrap n
theorem bit_both (n : Int) (t : Nat) : n / 2 ^ (t + 1) = n / 2 ^ t / 2 ∧ n % 2 ^ (t + 1) = n % 2 ^ t + n / 2 ^ t % 2 * 2 ^ t := by
  have p : (0 : Int) < 2 ^ t := PySem.W.kbt_pos t
  have h := Int.emod_add_mul_ediv n (2 ^ t)
  have h2 := Int.emod_add_mul_ediv (n / 2 ^ t) 2
  refine PySem.W.kbt_unique (b := 2 ^ (t + 1)) (PySem.W.kbt_pos _) ?_ ?_ ?_
  · rw [Int.pow_succ]; grind
  · have a1 := Int.emod_nonneg n (show (2 : Int) ^ t ≠ 0 by omega)
    have a2 := Int.emod_nonneg (n / 2 ^ t) (show (2 : Int) ≠ 0 by decide)
    have := Int.mul_nonneg a2 (show (0 : Int) ≤ 2 ^ t by omega)
    omega
  · have a1 := Int.emod_lt_of_pos n p
    have a2 : n / 2 ^ t % 2 ≤ 1 := by omega
    have := Int.mul_le_mul_of_nonneg_right a2 (show (0 : Int) ≤ 2 ^ t by omega)
    rw [Int.pow_succ]
    omega
theorem bit_step (n : Int) (t : Nat) : n % 2 ^ t + n / 2 ^ t % 2 * 2 ^ t = n % 2 ^ (t + 1) := (bit_both n t).2.symm
def sp_solution_at (K : PySem.W.Frag) : Sp := fun vs H Q _ => ∃ v d n, vs = [v, .int n] ∧ TdAt K H v d ∧ Wf d ∧ 0 ≤ n ∧ n < cnt d ∧ Ret (.int (solAt d n)) H Q
theorem kn_solution_at (T : Tx K mg) : Kn P w K mg base 3 "solution_at" ["told", "number"] (sp_solution_at K) := by
  obtain ⟨fd, F⟩ := T.d_solution_at
  refine kn_mk F T.g_solution_at sc_solution_at (fun _ _ _ _ _ _ us hl => match us, hl with | [_, _], _ => rfl) (fun vs H Q E h => ?_) (fun cdv A outer s H vs Q E hr h => ?_)
  · obtain ⟨v, d, n, rfl, _⟩ := h
    rfl
  · obtain ⟨v, d, n, rfl, hd, hw, h0, h1, k⟩ := h
    refine ⟨_, (pss_cons (ps_expr (pc (kn_check_solution T) (hr.mono (by decide)) (pa_cons (pv 0) pa_nil)))
      (pss_cons (ps_if (PW.pt (pw_or (pt_not (pt_val (pe_callB (call_isiK1 K) (by rfl) T.n_isinstance (by decide +kernel) (pa_cons (pv 1) (pa_cons (pe_bltn (v := .ty "int") rfl T.n_int (by decide +kernel) rfl) pa_nil))))) (pw_or (pt_val (pe_callB (call_isiK1 K) (by rfl) T.n_isinstance (by decide +kernel) (pa_cons (pv 1) (pa_cons (pe_bltn (v := .ty "bool") rfl T.n_bool (by decide +kernel) rfl) pa_nil)))) (pw_or1 (pt_not (pt_chain op_le op_lt pe_int (pv 1) (pc (kn_count_of T) (hr.mono (by decide)) (pa_cons (pv 0) pa_nil)))))))) pss_never pss_nil)
      (pss_cons (ps_if (pt_cmpR op_eq (pe_ix (ix_tupK K) (pv 0) pe_int (fun _ _ => rfl)) (pe_gs T.c_ROW) (nomark _)) (pss_one (ps_ret (pe_op op_add (pe_ix (ix_tupK K) (pv 0) pe_int (fun _ _ => rfl)) (pe_op op_mul (pe_ix (ix_tupK K) (pv 0) pe_int (fun _ _ => rfl)) (pv 1))))) pss_nil)
      (pss_cons (ps_par3 (i := 2) (j := 3) (l := 4) (by rfl) sc_solution_at.nd rfl rfl rfl (by decide) (by decide) (by decide) rfl rfl rfl (pa_cons (pe_op op_mod (pe_ix (ix_tupK K) (pv 0) pe_int (fun _ _ => rfl)) (pe_gi T.c_ALL_BITS)) (pa_cons (pe_op op_mod (pe_ix (ix_tupK K) (pv 0) pe_int (fun _ _ => rfl)) (pe_gi T.c_ALL_BITS)) (pa_cons pe_int pa_nil))) (by rfl))
      (pss_cons (ps_while PassesOwn.never (pt_cmpR op_gt (pv 1) pe_int (nomark _)) (pss_cons (ps_if (pt_cmpR op_eq (pe_op op_and (pe_op op_shr (pv 3) (pv 4)) pe_int) pe_int (nomark _)) (pss_cons (ps_set (i := 2) sc_solution_at.nd rfl (Or.inl rfl) (pe_op op_or (pv 2) (pe_op op_shl (pe_op op_and (pv 1) pe_int) (pv 4))))
      (pss_one (ps_set (i := 1) sc_solution_at.nd rfl (Or.inl rfl) (pe_op op_shr (pv 1) pe_int)))) pss_nil)
      (pss_one (ps_aug (i := 4) sc_solution_at.nd rfl (Or.inl rfl) pe_int ip_add))))
      (pss_one (ps_ret (pc (kn_wrapped T) (hr.mono (by decide)) (pa_cons (pv 2) pa_nil))))))))), st_as (σ' := [some _, some _, none, none, none]) rfl ?_⟩
    have hd0 := hd
    cases d with
    | non =>
      have : n < 0 := h1
      omega
    | row f s0 m =>
      obtain ⟨p, rfl, hp⟩ := hd
      have hw0 := hw
      obtain ⟨w1, w2, w3, w4, w5, w6⟩ := hw
      have h1' : n < m := h1
      wtm_at "go"
      exact k _ (by wtm_at "sm")
    | bits x y =>
      obtain ⟨p, rfl, hp⟩ := hd
      obtain ⟨rfl, rfl⟩ := id hw
      have h1' : n < 18446744073709551616 := h1
      wtm_at "go"
      rename_i H1 s1 H2 s2
      have s3 : Same H H2 := s1.trans s2
      refine g_while (fun m σ H' => ∃ (t : Nat) (q : Int), m = q.toNat ∧ σ = [some (V.ref p), some (.int q), some (.int (n % 2 ^ t)), some (.int 18446744073709551615), some (.int (t : Int))] ∧ q = n / 2 ^ t ∧ Same H H') n.toNat ⟨0, n, rfl, ?_, by rw [Int.pow_zero, Int.ediv_one], s3⟩ ?_
      · rw [Int.pow_zero, Int.emod_one]; rfl
      · rintro m σ H' ⟨t, q, rfl, rfl, hq, s4⟩
        wtm_at "go"
        refine ite2 (fun c => ?_) (fun c => ?_)
        · have pt : (0 : Int) < 2 ^ t := PySem.W.kbt_pos t
          have ht : t < 64 := by
            by_cases z : t < 64
            · exact z
            · exfalso
              have hp : (18446744073709551616 : Int) ≤ 2 ^ t := by
                have h := Nat.pow_le_pow_right (show 0 < 2 by decide) (show 64 ≤ t by omega)
                have e : (2 : Nat) ^ 64 = 18446744073709551616 := by decide
                rw [e] at h
                have c : ((2 ^ t : Nat) : Int) = (2 : Int) ^ t := Int.natCast_pow 2 t
                omega
              rw [hq, Int.ediv_eq_zero_of_lt h0 (by omega)] at c
              omega
          have e1 : Builtin.bitAnd (18446744073709551615 / 2 ^ (t : Int).toNat) 1 = 1 := by
            rw [bitAnd_m1, Int.toNat_natCast]
            have key : ∀ i : Nat, i < 64 → (18446744073709551615 : Int) / 2 ^ i % 2 = 1 := by decide
            exact key t ht
          have e2 : Builtin.bitAnd q 1 = q % 2 := bitAnd_m1 q
          rw [e1, e2]
          refine ⟨_, fun _ _ n => n, ?_⟩
          wtm_at "go"
          refine ⟨q.toNat / 2, by omega, t + 1, q / 2, by omega, ?_, ?_, s4⟩
          · have e3 : Builtin.bitOr (n % 2 ^ t) (q % 2 * 2 ^ (t : Int).toNat) = n % 2 ^ (t + 1) := by
              rw [bitOr_comm, Int.toNat_natCast, or_low (by omega) (Int.emod_nonneg _ (by omega)) (Int.emod_lt_of_pos _ pt), ← bit_step, ← hq, Int.add_comm]
            rw [e3]
            rfl
          · rw [hq, (bit_both n t).1]
        · have hn : n % 2 ^ t = n := by
            have h := Int.emod_add_mul_ediv n (2 ^ t)
            have pt : (0 : Int) < 2 ^ t := PySem.W.kbt_pos t
            have z : n / 2 ^ t = 0 := by
              have := Int.ediv_nonneg h0 (show (0 : Int) ≤ 2 ^ t by omega)
              omega
            rw [z] at h
            omega
          rw [hn]
          wtm_at "go"
          exact k _ (by wtm_at "sm")
theorem use_solution_at {H : Hp} {Q : VK} {E : XK} {v : V} {d : Td} {n : Int} (hd : TdAt K H v d) (hw : Wf d) (h0 : 0 ≤ n) (h1 : n < cnt d) (k : Ret (.int (solAt d n)) H Q) : sp_solution_at K [v, .int n] H Q E := ⟨v, d, n, rfl, hd, hw, h0, h1, k⟩
end
end W41

set_option maxHeartbeats 4000000
namespace W41
open PySem PySem.Spec PyProof.Rows L2 WK Mt
local macro_rules | `(tactic| wtm_at "hp") => `(tactic| first
  | with_reducible assumption
  | with_reducible exact upd_same
  | with_reducible exact sqt_of upd_same
  | with_reducible exact sql_of upd_same
  | with_reducible exact sqt_s1 (by assumption) (by wtm_at "sm")
  | with_reducible exact sqt_s2 (by assumption) (by wtm_at "sm")
  | with_reducible exact sqt_all (by assumption)
  | with_reducible exact sql_s1 (by assumption) (by wtm_at "sm")
  | with_reducible exact sql_s2 (by assumption) (by wtm_at "sm")
  | with_reducible exact at_s1 (by assumption) (by wtm_at "sm"))
local macro_rules | `(tactic| wtm_at "sd") => `(tactic| first
  | exact Or.inl ⟨by omega, by omega⟩
  | exact Or.inr ⟨by omega, by omega⟩
  | exact ⟨by omega, by decide⟩
  | exact cdw_of (by omega) (by omega)
  | exact cpow_of (by omega) (by omega) (by omega)
  | (dsimp only; omega)
  | (show (0 : Int) < _; omega)
  | (show (0 : Int) ≤ _; omega))
local macro_rules | `(tactic| wtm_at "sx") => `(tactic| simp only [x_seq, x_next, x_brk, x_cont, x_never, x_drop, x_asg, x_name, x_sub, x_ret, x_retN, x_ifS, x_parD, x_par3D, x_c, x_op, x_un, x_test, x_tB, x_yes, x_not, x_and, x_or, x_andV, x_orV, x_notV, x_ifE, x_chain, x_nil, x_cons, x_tupD, x_lstD, x_call, x_callX, x_cb, x_forR1, x_forR2, x_forL, x_forT, x_bits, x_part, x_nopart, x_sl, x_bm0, x_bm, x_lcL, x_lcT, x_lcR1, x_aug, x_ipI, x_ib, x_bi, x_onelB, x_two, x_onel, x_disp, x_pairs0, x_pairsS, x_dget2,
  x_var0, x_var1, x_var2, x_var3, x_var4, x_var5, x_var6, x_var7, x_var8, x_var9, x_var10, x_var11, x_var12, x_var13, x_var14, x_var15, List.set_cons_zero, x_set1, x_set2, x_set3, x_set4, x_set5, x_set6, x_set7, x_set8, x_set9, x_set10, x_set11, x_set12, x_set13, x_set14, x_set15, x_i0, x_iC, x_uI, x_bl, x_eqI, x_neI, x_eqS, x_neS, x_par, x_par3, x_gnil, x_gcons, x_one, x_rt, x_nx, x_bk, x_ct, cx_K, cx_K1, List.append_nil, List.cons_append, List.nil_append, if_true, if_false, ite_not, decide_true, decide_false, Bool.not_true, Bool.not_false, Bool.false_eq_true, decide_eq_true_eq, Bool.not_eq_true', Bool.not_eq_false', decide_eq_false_iff_not, true_and, and_true, reduceCtorEq, Int.reduceLT, Int.reduceLE, Int.reduceToNat, false_and, exists_false, or_false, false_or, wipe, List.map_cons, List.map_nil])
local macro_rules | `(tactic| wtm_at "g1") => `(tactic| first
  | with_reducible refine g_i0 ?_
  | with_reducible refine g_iC (by k_dflt (wtm_at "sd")) ?_
  | with_reducible refine g_ixT (by wtm_at "hp") rfl ?_
  | with_reducible refine g_pY (by k_dflt (wtm_at "cd")) ?_
  | with_reducible refine g_pX (by k_dflt (wtm_at "cd")) ?_
  | with_reducible refine g_size (by k_dflt exact (Nat.le_of_ble_eq_true rfl)) ?_
  | with_reducible refine isi_ii ?_
  | with_reducible refine isi_ib ?_
  | with_reducible refine isi_ss ?_
  | with_reducible refine isi_tt (by wtm_at "hp") ?_
  | with_reducible refine isi_bb ?_
  | with_reducible refine isi_is ?_
  | with_reducible refine g_inT (bb := true) (by wtm_at "hp") rfl rfl (by decide +kernel) ?_
  | with_reducible refine g_inT (bb := false) (by wtm_at "hp") rfl rfl (by decide +kernel) ?_
  | with_reducible refine g_notInT (bb := true) (by wtm_at "hp") rfl rfl (by decide +kernel) ?_
  | with_reducible refine g_notInT (bb := false) (by wtm_at "hp") rfl rfl (by decide +kernel) ?_
  | with_reducible refine g_ixL (by wtm_at "hp") rfl ?_
  | with_reducible refine g_tup (by wtm_at "hp") rfl ?_
  | with_reducible refine g_bl ?_
  | with_reducible refine g_eqI ?_
  | with_reducible refine g_neI ?_
  | with_reducible refine g_lenT (by wtm_at "hp") ?_
  | with_reducible refine g_lenL (by wtm_at "hp") ?_
  | with_reducible refine g_tl4 (by wtm_at "hp") ?_
  | with_reducible refine g_tl3 (by wtm_at "hp") ?_
  | with_reducible refine g_slL (by wtm_at "hp") ?_
  | with_reducible refine g_listL (by wtm_at "hp") ?_
  | with_reducible refine g_setL (by wtm_at "hp") rfl ?_
  | (with_reducible refine g_newT ?_; intro p np hp)
  | (with_reducible refine g_newL ?_; intro p np hp)
  | (with_reducible refine g_all ?_; intro p np)
  | with_reducible refine ⟨by k_dflt (wtm_at "sd"), ?_⟩
  | wtm_at "u1")
local macro_rules | `(tactic| wtm_at "cd") => `(tactic| first | omega | decide +kernel)
local macro_rules | `(tactic| wtm_at "go") => `(tactic| ((try wtm_at "sx"); repeat (wtm_at "g1"; try wtm_at "sx")))
local macro_rules | `(tactic| wtm_at "sm") => `(tactic| first
  | with_reducible assumption
  | with_reducible exact Same.refl _
  | with_reducible exact same_new (by assumption)
  | (with_reducible refine Same.trans ?_ (same_new (by assumption)); wtm_at "sm")
  | (with_reducible refine same_mut ?_ (by wtm_at "fr"); wtm_at "sm")
  | (with_reducible refine Same.trans ?_ (by assumption); wtm_at "sm"))
local macro_rules | `(tactic| wtm_at "fr") => `(tactic| first
  | with_reducible assumption
  | with_reducible exact free2 (by assumption) (by wtm_at "sm"))

local macro_rules | `(tactic| wtm_at "u1") => `(tactic| (with_reducible refine use_wrapped ?_; intro H1 s1))
local macro_rules | `(tactic| wtm_at "u1") => `(tactic| (with_reducible refine isi_own (ty_int _) (by assumption) ?_))
local macro_rules | `(tactic| wtm_at "u1") => `(tactic| (with_reducible refine use_is_whole_number (by k_dflt (wtm_at "i64")) ?_; intro H1 s1))
local macro_rules | `(tactic| wtm_at "i64") => `(tactic| first | assumption | exact wrap_I64 _ | (unfold I64; omega))
section
variable {P : Program} {w : World} {K : PySem.W.Frag} {mg : Str → Option Value} {base : Heap}
def sp_check_map : Sp := fun vs H Q _ => ∃ a b x : Int, vs = [.int a, .int b, .int x] ∧ I64 a ∧ I64 b ∧ I64 x ∧ Ret .non H Q
theorem kn_check_map (T : Tx K mg) : Kn P w K mg base 2 "check_map" ["a", "b", "x"] (sp_check_map) := by
  obtain ⟨fd, F⟩ := T.d_check_map
  refine kn_mk F T.g_check_map sc_check_map (fun _ _ _ _ _ _ us hl => match us, hl with | [_, _, _], _ => rfl) (fun vs H Q E h => ?_) (fun cdv A outer s H vs Q E hr h => ?_)
  · obtain ⟨a, b, x, rfl, _⟩ := h
    rfl
  · obtain ⟨a, b, x, rfl, ha, hb, hx, k⟩ := h
    refine ⟨_, (pss_cons (ps_if (pt_not (pt_val (pc (kn_is_whole_number T) (hr.mono (by decide)) (pa_cons (pv 0) pa_nil)))) pss_never pss_nil)
      (pss_cons (ps_if (pt_not (pt_val (pc (kn_is_whole_number T) (hr.mono (by decide)) (pa_cons (pv 1) pa_nil)))) pss_never pss_nil)
      (pss_one (ps_if (pt_not (pt_val (pc (kn_is_whole_number T) (hr.mono (by decide)) (pa_cons (pv 2) pa_nil)))) pss_never pss_nil)))), st_as (σ' := [some _, some _, some _]) rfl ?_⟩
    wtm_at "go"
    exact k _ (by wtm_at "sm")
theorem use_check_map {H : Hp} {Q : VK} {E : XK} {a b x : Int} (ha : I64 a) (hb : I64 b) (hx : I64 x) (k : Ret .non H Q) : sp_check_map [.int a, .int b, .int x] H Q E := ⟨a, b, x, rfl, ha, hb, hx, k⟩
local macro_rules | `(tactic| wtm_at "u1") => `(tactic| (with_reducible refine use_check_map (by k_dflt (wtm_at "i64")) (by k_dflt (wtm_at "i64")) (by k_dflt (wtm_at "i64")) ?_; intro H1 s1))
def sp_led (K : PySem.W.Frag) : Sp := fun vs H Q _ => ∃ (p : Addr) (a b x : Int), vs = [.ref p, .int x] ∧ SqT K H p [.int a, .int b] ∧ U64 a ∧ Ret (.int ((a * x + b) % M64)) H Q
theorem kn_led (T : Tx K mg) : Kn P w K mg base 1 "led" ["pair", "x"] (sp_led K) := by
  obtain ⟨fd, F⟩ := T.d_led
  refine kn_mk F T.g_led sc_led (fun _ _ _ _ _ _ us hl => match us, hl with | [_, _], _ => rfl) (fun vs H Q E h => ?_) (fun cdv A outer s H vs Q E hr h => ?_)
  · obtain ⟨p, a, b, x, rfl, _⟩ := h
    rfl
  · obtain ⟨p, a, b, x, rfl, hp, ha, k⟩ := h
    refine ⟨_, (pss_one (ps_ret (pe_op op_mod (pe_op op_add (pe_op op_mul (pe_ix (ix_tupK K) (pv 0) pe_int (fun _ _ => rfl)) (pv 1)) (pe_ix (ix_tupK K) (pv 0) pe_int (fun _ _ => rfl))) (pe_gi T.c_ALL_BITS)))), st_as (σ' := [some _, some _]) rfl ?_⟩
    unfold U64 at ha
    wtm_at "go"
    exact k _ (Same.refl _)
theorem use_led {H : Hp} {Q : VK} {E : XK} {p : Addr} {a b x : Int} (hp : SqT K H p [.int a, .int b]) (ha : U64 a) (k : Ret (.int ((a * x + b) % M64)) H Q) : sp_led K [.ref p, .int x] H Q E := ⟨p, a, b, x, rfl, hp, ha, k⟩
local macro_rules | `(tactic| wtm_at "u1") => `(tactic| (with_reducible refine use_led (by wtm_at "hp") (by assumption) ?_; intro H1 s1))
def sp_behind (K : PySem.W.Frag) : Sp := fun vs H Q _ => ∃ (p q : Addr) (a b c d : Int), vs = [.ref p, .ref q] ∧ SqT K H p [.int a, .int b] ∧ SqT K H q [.int c, .int d] ∧ U64 a ∧ U64 c ∧
  RetT [.int (a * c % M64), .int ((b * c + d) % M64)] H Q
theorem kn_behind (T : Tx K mg) : Kn P w K mg base 1 "behind" ["one", "other"] (sp_behind K) := by
  obtain ⟨fd, F⟩ := T.d_behind
  refine kn_mk F T.g_behind sc_behind (fun _ _ _ _ _ _ us hl => match us, hl with | [_, _], _ => rfl) (fun vs H Q E h => ?_) (fun cdv A outer s H vs Q E hr h => ?_)
  · obtain ⟨p, q, a, b, c, d, rfl, _⟩ := h
    rfl
  · obtain ⟨p, q, a, b, c, d, rfl, hp, hq, ha, hc, k⟩ := h
    refine ⟨_, (pss_one (ps_ret (pe_tup (pa_cons (pe_op op_mod (pe_op op_mul (pe_ix (ix_tupK K) (pv 0) pe_int (fun _ _ => rfl)) (pe_ix (ix_tupK K) (pv 1) pe_int (fun _ _ => rfl))) (pe_gi T.c_ALL_BITS)) (pa_cons (pe_op op_mod (pe_op op_add (pe_op op_mul (pe_ix (ix_tupK K) (pv 0) pe_int (fun _ _ => rfl)) (pe_ix (ix_tupK K) (pv 1) pe_int (fun _ _ => rfl))) (pe_ix (ix_tupK K) (pv 1) pe_int (fun _ _ => rfl))) (pe_gi T.c_ALL_BITS)) pa_nil))))), st_as (σ' := [some _, some _]) rfl ?_⟩
    unfold U64 at ha hc
    wtm_at "go"
    exact k _ _ (by wtm_at "sm") (by wtm_at "fr") (by wtm_at "hp")
theorem use_behind {H : Hp} {Q : VK} {E : XK} {p q : Addr} {a b c d : Int} (hp : SqT K H p [.int a, .int b]) (hq : SqT K H q [.int c, .int d]) (ha : U64 a) (hc : U64 c) (k : RetT [.int (a * c % M64), .int ((b * c + d) % M64)] H Q) :
    sp_behind K [.ref p, .ref q] H Q E := ⟨p, q, a, b, c, d, rfl, hp, hq, ha, hc, k⟩
local macro_rules | `(tactic| wtm_at "u1") => `(tactic| (with_reducible refine use_behind (by wtm_at "hp") (by wtm_at "hp") (by assumption) (by assumption) ?_; intro H1 p1 s1 n1 h1))
def sp_powered (K : PySem.W.Frag) : Sp := fun vs H Q _ => ∃ (p : Addr) (a b u v : Int) (n : Nat), vs = [.ref p, .int (n : Int)] ∧ SqT K H p [.int u, .int v] ∧ Rep a b 1 u v ∧ ∀ u' v', Rep a b n u' v' → RetT [.int u', .int v'] H Q
theorem kn_powered (T : Tx K mg) : Kn P w K mg base 2 "powered" ["pair", "count"] (sp_powered K) := by
  obtain ⟨fd, F⟩ := T.d_powered
  refine kn_mk F T.g_powered sc_powered (fun _ _ _ _ _ _ us hl => match us, hl with | [_, _], _ => rfl) (fun vs H Q E h => ?_) (fun cdv A outer s H vs Q E hr h => ?_)
  · obtain ⟨p, a, b, u, v, n, rfl, _⟩ := h
    rfl
  · obtain ⟨p, a, b, u, v, n, rfl, hp, hR, k⟩ := h
    refine ⟨_, (pss_cons (ps_set (i := 2) sc_powered.nd rfl (Or.inl rfl) (pe_tup (pa_cons pe_int (pa_cons pe_int pa_nil))))
      (pss_cons (ps_while PassesOwn.never (pt_cmpR op_gt (pv 1) pe_int (nomark _)) (pss_cons (ps_if (pt_cmpR op_eq (pe_op op_mod (pv 1) pe_int) pe_int (nomark _)) (pss_one (ps_set (i := 2) sc_powered.nd rfl (Or.inl rfl) (pc (kn_behind T) (hr.mono (by decide)) (pa_cons (pv 2) (pa_cons (pv 0) pa_nil))))) pss_nil)
      (pss_cons (ps_set (i := 0) sc_powered.nd rfl (Or.inl rfl) (pc (kn_behind T) (hr.mono (by decide)) (pa_cons (pv 0) (pa_cons (pv 0) pa_nil))))
      (pss_one (ps_set (i := 1) sc_powered.nd rfl (Or.inl rfl) (pe_op op_fdiv (pv 1) pe_int))))))
      (pss_one (ps_ret (pv 2))))), st_as (σ' := [some _, some _, none]) rfl ?_⟩
    wtm_at "go"
    rename_i f0 nf0 hf0
    refine g_while (fun m σ H' => ∃ (q f : Addr) (u v u' v' : Int) (e n1 c : Nat), m = c ∧ σ = [some (.ref q), some (.int (c : Int)), some (.ref f)] ∧ Same H H' ∧ SqT K H' q [.int u, .int v] ∧ H' f = some (.tup [.int u', .int v']) ∧ H f = none ∧ Rep a b e u v ∧ Rep a b n1 u' v' ∧ n1 + e * c = n)
      n ⟨p, f0, u, v, 1, 0, 1, 0, n, rfl, rfl, same_new nf0, by wtm_at "hp", upd_same, nf0, hR, rep_zero a b, by omega⟩ ?_
    rintro m σ H' ⟨q, f, u1, v1, u2, v2, e, n1, c, rfl, rfl, s1, hq, hf, nf, R1, R2, hn⟩
    have U1 := R1.u1
    have U2 := R2.u1
    wtm_at "go"
    refine ite2 (fun z => ?_) (fun z => ?_)
    · refine ⟨_, fun _ _ n => n, ?_⟩
      have split : n1 + e * m = n1 + (e + e) * (m / 2) + e * (m % 2) := by
        have := Nat.div_add_mod m 2
        generalize m / 2 = x at *
        generalize m % 2 = y at *
        subst this
        grind
      refine ite2 (fun o => ?_) (fun o => ?_)
      · wtm_at "go"
        rename_i H2 f2 s2 nf2 hf2 H3 q3 s3 nq3 hq3
        have o2 : m % 2 = 1 := by omega
        rw [o2] at split
        refine ⟨m / 2, by omega, q3, f2, _, _, _, _, e + e, n1 + e, m / 2, rfl, by rw [show ((m / 2 : Nat) : Int) = (m : Int) / 2 by omega], by wtm_at "sm", by wtm_at "hp", s3 _ _ hf2, by wtm_at "fr", rep_behind R1 R1, rep_behind R2 R1, by omega⟩
      · wtm_at "go"
        rename_i H3 q3 s3 nq3 hq3
        have o2 : m % 2 = 0 := by omega
        rw [o2] at split
        refine ⟨m / 2, by omega, q3, f, _, _, _, _, e + e, n1, m / 2, rfl, by rw [show ((m / 2 : Nat) : Int) = (m : Int) / 2 by omega], by wtm_at "sm", by wtm_at "hp", s3 _ _ hf, nf, rep_behind R1 R1, R2, by omega⟩
    · have c0 : m = 0 := by omega
      rw [c0] at hn
      have : n1 = n := by omega
      rw [this] at R2
      exact k _ _ R2 _ _ s1 nf hf
theorem use_powered {H : Hp} {Q : VK} {E : XK} {p : Addr} {a b u v : Int} {n : Nat} (hp : SqT K H p [.int u, .int v]) (R : Rep a b 1 u v) (k : ∀ u' v', Rep a b n u' v' → RetT [.int u', .int v'] H Q) : sp_powered K [.ref p, .int (n : Int)] H Q E := ⟨p, a, b, u, v, n, rfl, hp, R, k⟩
def sp_after_rounds : Sp := fun vs H Q _ => ∃ (a b x : Int) (n : Nat), vs = [.int a, .int b, .int x, .int (n : Int)] ∧ I64 a ∧ I64 b ∧ I64 x ∧ Ret (.int (wrap (It a b n x))) H Q
theorem kn_after_rounds (T : Tx K mg) : Kn P w K mg base 3 "after_rounds" ["a", "b", "x", "count"] (sp_after_rounds) := by
  obtain ⟨fd, F⟩ := T.d_after_rounds
  refine kn_mk F T.g_after_rounds sc_after_rounds (fun _ _ _ _ _ _ us hl => match us, hl with | [_, _, _, _], _ => rfl) (fun vs H Q E h => ?_) (fun cdv A outer s H vs Q E hr h => ?_)
  · obtain ⟨a, b, x, n, rfl, _⟩ := h
    rfl
  · obtain ⟨a, b, x, n, rfl, ha, hb, hx, k⟩ := h
    refine ⟨_, (pss_cons (ps_expr (pc (kn_check_map T) (hr.mono (by decide)) (pa_cons (pv 0) (pa_cons (pv 1) (pa_cons (pv 2) pa_nil)))))
      (pss_cons (ps_if (PW.pt (pw_or (pt_not (pt_val (pe_callB (call_isiK1 K) (by rfl) T.n_isinstance (by decide +kernel) (pa_cons (pv 3) (pa_cons (pe_bltn (v := .ty "int") rfl T.n_int (by decide +kernel) rfl) pa_nil))))) (pw_or (pt_val (pe_callB (call_isiK1 K) (by rfl) T.n_isinstance (by decide +kernel) (pa_cons (pv 3) (pa_cons (pe_bltn (v := .ty "bool") rfl T.n_bool (by decide +kernel) rfl) pa_nil)))) (pw_or1 (pt_cmpR op_lt (pv 3) pe_int (nomark _)))))) pss_never pss_nil)
      (pss_one (ps_ret (pc (kn_wrapped T) (hr.mono (by decide)) (pa_cons (pc (kn_led T) (hr.mono (by decide)) (pa_cons (pc (kn_powered T) (hr.mono (by decide)) (pa_cons (pe_tup (pa_cons (pe_op op_mod (pv 0) (pe_gi T.c_ALL_BITS)) (pa_cons (pe_op op_mod (pv 1) (pe_gi T.c_ALL_BITS)) pa_nil))) (pa_cons (pv 3) pa_nil))) (pa_cons (pe_op op_mod (pv 2) (pe_gi T.c_ALL_BITS)) pa_nil))) pa_nil)))))), st_as (σ' := [some _, some _, some _, some _]) rfl ?_⟩
    wtm_at "go"
    rename_i H1 s1 p np hp
    refine use_powered (by wtm_at "hp") (rep_one a b) fun u v R H2 q s2 nq hq => ?_
    have U := R.u1
    wtm_at "go"
    have c : wrap ((u * (x % 18446744073709551616) + v) % M64) = wrap (It a b n x) := wrap_eq (wrap_I64 _) (((rep_led R (Cg.of_mod M64 x))).trans (wrap_cg _).symm)
    rw [c]
    exact k _ (by wtm_at "sm")
theorem use_after_rounds {H : Hp} {Q : VK} {E : XK} {a b x : Int} {n : Nat} (ha : I64 a) (hb : I64 b) (hx : I64 x) (k : Ret (.int (wrap (It a b n x))) H Q) : sp_after_rounds [.int a, .int b, .int x, .int (n : Int)] H Q E := ⟨a, b, x, n, rfl, ha, hb, hx, k⟩
end
end W41

set_option maxHeartbeats 4000000
namespace W41
open PySem PySem.Spec PyProof.Rows L2 WK Mt
local macro_rules | `(tactic| wtm_at "hp") => `(tactic| first
  | with_reducible assumption
  | with_reducible exact upd_same
  | with_reducible exact sqt_of upd_same
  | with_reducible exact sql_of upd_same
  | with_reducible exact sqt_s1 (by assumption) (by wtm_at "sm")
  | with_reducible exact sqt_s2 (by assumption) (by wtm_at "sm")
  | with_reducible exact sqt_all (by assumption)
  | with_reducible exact sql_s1 (by assumption) (by wtm_at "sm")
  | with_reducible exact sql_s2 (by assumption) (by wtm_at "sm")
  | with_reducible exact at_s1 (by assumption) (by wtm_at "sm"))
local macro_rules | `(tactic| wtm_at "sd") => `(tactic| first
  | exact Or.inl ⟨by omega, by omega⟩
  | exact Or.inr ⟨by omega, by omega⟩
  | exact ⟨by omega, by decide⟩
  | exact cdw_of (by omega) (by omega)
  | exact cpow_of (by omega) (by omega) (by omega)
  | (dsimp only; omega)
  | (show (0 : Int) < _; omega)
  | (show (0 : Int) ≤ _; omega))
local macro_rules | `(tactic| wtm_at "sx") => `(tactic| simp only [x_seq, x_next, x_brk, x_cont, x_never, x_drop, x_asg, x_name, x_sub, x_ret, x_retN, x_ifS, x_parD, x_par3D, x_c, x_op, x_un, x_test, x_tB, x_yes, x_not, x_and, x_or, x_andV, x_orV, x_notV, x_ifE, x_chain, x_nil, x_cons, x_tupD, x_lstD, x_call, x_callX, x_cb, x_forR1, x_forR2, x_forL, x_forT, x_bits, x_part, x_nopart, x_sl, x_bm0, x_bm, x_lcL, x_lcT, x_lcR1, x_aug, x_ipI, x_ib, x_bi, x_onelB, x_two, x_onel, x_disp, x_pairs0, x_pairsS, x_dget2,
  x_var0, x_var1, x_var2, x_var3, x_var4, x_var5, x_var6, x_var7, x_var8, x_var9, x_var10, x_var11, x_var12, x_var13, x_var14, x_var15, List.set_cons_zero, x_set1, x_set2, x_set3, x_set4, x_set5, x_set6, x_set7, x_set8, x_set9, x_set10, x_set11, x_set12, x_set13, x_set14, x_set15, x_i0, x_iC, x_uI, x_bl, x_eqI, x_neI, x_eqS, x_neS, x_par, x_par3, x_gnil, x_gcons, x_one, x_rt, x_nx, x_bk, x_ct, cx_K, cx_K1, List.append_nil, List.cons_append, List.nil_append, if_true, if_false, ite_not, decide_true, decide_false, Bool.not_true, Bool.not_false, Bool.false_eq_true, decide_eq_true_eq, Bool.not_eq_true', Bool.not_eq_false', decide_eq_false_iff_not, true_and, and_true, reduceCtorEq, Int.reduceLT, Int.reduceLE, Int.reduceToNat, false_and, exists_false, or_false, false_or, wipe, List.map_cons, List.map_nil])
local macro_rules | `(tactic| wtm_at "g1") => `(tactic| first
  | with_reducible refine g_i0 ?_
  | with_reducible refine g_iC (by k_dflt (wtm_at "sd")) ?_
  | with_reducible refine g_ixT (by wtm_at "hp") rfl ?_
  | with_reducible refine g_pY (by k_dflt (wtm_at "cd")) ?_
  | with_reducible refine g_pX (by k_dflt (wtm_at "cd")) ?_
  | with_reducible refine g_size (by k_dflt exact (Nat.le_of_ble_eq_true rfl)) ?_
  | with_reducible refine isi_ii ?_
  | with_reducible refine isi_ib ?_
  | with_reducible refine isi_ss ?_
  | with_reducible refine isi_tt (by wtm_at "hp") ?_
  | with_reducible refine isi_bb ?_
  | with_reducible refine isi_is ?_
  | with_reducible refine g_inT (bb := true) (by wtm_at "hp") rfl rfl (by decide +kernel) ?_
  | with_reducible refine g_inT (bb := false) (by wtm_at "hp") rfl rfl (by decide +kernel) ?_
  | with_reducible refine g_notInT (bb := true) (by wtm_at "hp") rfl rfl (by decide +kernel) ?_
  | with_reducible refine g_notInT (bb := false) (by wtm_at "hp") rfl rfl (by decide +kernel) ?_
  | with_reducible refine g_ixL (by wtm_at "hp") rfl ?_
  | with_reducible refine g_tup (by wtm_at "hp") rfl ?_
  | with_reducible refine g_bl ?_
  | with_reducible refine g_eqI ?_
  | with_reducible refine g_neI ?_
  | with_reducible refine g_lenT (by wtm_at "hp") ?_
  | with_reducible refine g_lenL (by wtm_at "hp") ?_
  | with_reducible refine g_tl4 (by wtm_at "hp") ?_
  | with_reducible refine g_tl3 (by wtm_at "hp") ?_
  | with_reducible refine g_slL (by wtm_at "hp") ?_
  | with_reducible refine g_listL (by wtm_at "hp") ?_
  | with_reducible refine g_setL (by wtm_at "hp") rfl ?_
  | (with_reducible refine g_newT ?_; intro p np hp)
  | (with_reducible refine g_newL ?_; intro p np hp)
  | (with_reducible refine g_all ?_; intro p np)
  | with_reducible refine ⟨by k_dflt (wtm_at "sd"), ?_⟩
  | wtm_at "u1")
local macro_rules | `(tactic| wtm_at "cd") => `(tactic| first | omega | decide +kernel)
local macro_rules | `(tactic| wtm_at "go") => `(tactic| ((try wtm_at "sx"); repeat (wtm_at "g1"; try wtm_at "sx")))
local macro_rules | `(tactic| wtm_at "sm") => `(tactic| first
  | with_reducible assumption
  | with_reducible exact Same.refl _
  | with_reducible exact same_new (by assumption)
  | (with_reducible refine Same.trans ?_ (same_new (by assumption)); wtm_at "sm")
  | (with_reducible refine same_mut ?_ (by wtm_at "fr"); wtm_at "sm")
  | (with_reducible refine Same.trans ?_ (by assumption); wtm_at "sm"))
local macro_rules | `(tactic| wtm_at "fr") => `(tactic| first
  | with_reducible assumption
  | with_reducible exact free2 (by assumption) (by wtm_at "sm"))

local macro_rules | `(tactic| wtm_at "u1") => `(tactic| (with_reducible refine use_wrapped ?_; intro H1 s1))
local macro_rules | `(tactic| wtm_at "u1") => `(tactic| (with_reducible refine isi_own (ty_int _) (by assumption) ?_))
local macro_rules | `(tactic| wtm_at "u1") => `(tactic| (with_reducible refine use_is_whole_number (by k_dflt (wtm_at "i64")) ?_; intro H1 s1))
local macro_rules | `(tactic| wtm_at "i64") => `(tactic| first | assumption | exact wrap_I64 _ | (unfold I64; omega))
local macro_rules | `(tactic| wtm_at "u1") => `(tactic| (with_reducible refine use_check_map (by k_dflt (wtm_at "i64")) (by k_dflt (wtm_at "i64")) (by k_dflt (wtm_at "i64")) ?_; intro H1 s1))
local macro_rules | `(tactic| wtm_at "u1") => `(tactic| (with_reducible refine use_led (by wtm_at "hp") (by assumption) ?_; intro H1 s1))
local macro_rules | `(tactic| wtm_at "u1") => `(tactic| (with_reducible refine use_behind (by wtm_at "hp") (by wtm_at "hp") (by assumption) (by assumption) ?_; intro H1 p1 s1 n1 h1))
section
variable {P : Program} {w : World} {K : PySem.W.Frag} {mg : Str → Option Value} {base : Heap}
theorem U64.of_mod (n : Int) : U64 (n % 18446744073709551616) := U64_mod n
def sp_tail_and_ring : Sp := fun vs H Q _ => ∃ a b x : Int, vs = [.int a, .int b, .int x] ∧ I64 a ∧ I64 b ∧ I64 x ∧ ∀ t r, TR a b x t r → RetT [.int t, .int r] H Q
theorem kn_tail_and_ring (T : Tx K mg) : Kn P w K mg base 3 "tail_and_ring" ["a", "b", "x"] (sp_tail_and_ring) := by
  obtain ⟨fd, F⟩ := T.d_tail_and_ring
  refine kn_mk F T.g_tail_and_ring sc_tail_and_ring (fun _ _ _ _ _ _ us hl => match us, hl with | [_, _, _], _ => rfl) (fun vs H Q E h => ?_) (fun cdv A outer s H vs Q E hr h => ?_)
  · obtain ⟨a, b, x, rfl, _⟩ := h
    rfl
  · obtain ⟨a, b, x, rfl, ha, hb, hx, k⟩ := h
    refine ⟨_, (pss_cons (ps_expr (pc (kn_check_map T) (hr.mono (by decide)) (pa_cons (pv 0) (pa_cons (pv 1) (pa_cons (pv 2) pa_nil)))))
      (pss_cons (ps_par (i := 3) (j := 4) (by rfl) sc_tail_and_ring.nd rfl rfl (by decide) rfl rfl (pa_cons (pe_tup (pa_cons (pe_op op_mod (pv 0) (pe_gi T.c_ALL_BITS)) (pa_cons (pe_op op_mod (pv 1) (pe_gi T.c_ALL_BITS)) pa_nil))) (pa_cons (pe_op op_mod (pv 2) (pe_gi T.c_ALL_BITS)) pa_nil)) (by rfl))
      (pss_cons (ps_if (pt_cmpR op_eq (pe_op op_mod (pv 0) pe_int) pe_int (nomark _)) (pss_cons (ps_set (i := 5) sc_tail_and_ring.nd rfl (Or.inl rfl) pe_int)
      (pss_cons (ps_while PassesOwn.never (pt_cmpR op_ne (pc (kn_led T) (hr.mono (by decide)) (pa_cons (pv 3) (pa_cons (pv 4) pa_nil))) (pv 4) (nomark _)) (pss_one (ps_par (i := 4) (j := 5) (by rfl) sc_tail_and_ring.nd rfl rfl (by decide) rfl rfl (pa_cons (pc (kn_led T) (hr.mono (by decide)) (pa_cons (pv 3) (pa_cons (pv 4) pa_nil))) (pa_cons (pe_op op_add (pv 5) pe_int) pa_nil)) (by rfl))))
      (pss_one (ps_ret (pe_tup (pa_cons (pv 5) (pa_cons pe_int pa_nil))))))) pss_nil)
      (pss_cons (ps_set (i := 6) sc_tail_and_ring.nd rfl (Or.inl rfl) pe_int)
      (pss_cons (ps_while PassesOwn.never (pt_cmpR op_ne (pc (kn_led T) (hr.mono (by decide)) (pa_cons (pv 3) (pa_cons (pv 4) pa_nil))) (pv 4) (nomark _)) (pss_one (ps_par (i := 3) (j := 6) (by rfl) sc_tail_and_ring.nd rfl rfl (by decide) rfl rfl (pa_cons (pc (kn_behind T) (hr.mono (by decide)) (pa_cons (pv 3) (pa_cons (pv 3) pa_nil))) (pa_cons (pe_op op_mul pe_int (pv 6)) pa_nil)) (by rfl))))
      (pss_one (ps_ret (pe_tup (pa_cons pe_int (pa_cons (pv 6) pa_nil)))))))))), st_as (σ' := [some _, some _, some _, none, none, none, none]) rfl ?_⟩
    wtm_at "go"
    rename_i H1 s1 p np hp
    have R := rep_one a b
    have U := R.u1
    refine ite2 (fun ev => ?_) (fun od => ?_)
    · refine g_while (fun m σ H' => ∃ (T : Nat) (h : Int), m = 65 - T ∧ σ = [some (.int a), some (.int b), some (.int x), some (.ref p), some (.int h), some (.int (T : Int)), none] ∧ Same (upd H1 p (.tup [.int (a % 18446744073709551616), .int (b % 18446744073709551616)])) H' ∧ U64 h ∧ Cg M64 h (It a b T x) ∧ ∀ i, i < T → ¬ Cg M64 (It a b (i + 1) x) (It a b i x))
        65 ⟨0, _, rfl, rfl, Same.refl _, U64_mod x, Cg.of_mod M64 x, fun i hi => absurd hi (Nat.not_lt_zero _)⟩ ?_
      rintro m σ H' ⟨T, h, rfl, rfl, s2, hu, hc, lT⟩
      have hT : T ≤ 64 := by
        by_cases z : T ≤ 64
        · exact z
        · exact absurd (even64 ev x) (lT 64 (by omega))
      have nx : Cg M64 ((a % M64 * h + b % M64) % M64) (It a b (T + 1) x) := by
        have e : It a b (T + 1) x = It a b 1 (It a b T x) := by rw [← It_add]
        rw [e]
        exact rep_led R hc
      wtm_at "go"
      rename_i H2 s3
      refine ite2 (fun z => ?_) (fun z => ?_)
      · have e : Cg M64 (It a b (T + 1) x) (It a b T x) := nx.symm.trans (by rw [show (a % M64 * h + b % M64) % M64 = h from z]; exact hc)
        wtm_at "go"
        exact k _ _ (.inl ⟨ev, rfl, T, rfl, e, lT⟩) _ _ (by wtm_at "sm") (by wtm_at "fr") (by wtm_at "hp")
      · refine ⟨_, fun _ _ n => n, ?_⟩
        wtm_at "go"
        rename_i H3 s4
        refine ⟨65 - (T + 1), by omega, T + 1, _, rfl, rfl, by wtm_at "sm", U64_mod _, nx, fun i hi => ?_⟩
        by_cases q : i < T
        · exact lT i q
        · have : i = T := by omega
          rw [this]
          intro e
          exact z (cg_U64 (U64_mod _) hu (nx.trans (e.trans hc.symm)))
    · have odd : a % 2 = 1 := by omega
      refine g_while (fun m σ H' => ∃ (j : Nat) (q : Addr) (u v : Int), m = 65 - j ∧ σ = [some (.int a), some (.int b), some (.int x), some (.ref q), some (.int (x % 18446744073709551616)), none, some (.int ((2 ^ j : Nat) : Int))] ∧ Same (upd H1 p (.tup [.int (a % 18446744073709551616), .int (b % 18446744073709551616)])) H' ∧ SqT K H' q [.int u, .int v] ∧ Rep a b (2 ^ j) u v ∧ ∀ i, i < j → ¬ Cg M64 (It a b (2 ^ i) x) x)
        65 ⟨0, p, _, _, rfl, rfl, Same.refl _, sqt_of hp, R, fun i hi => absurd hi (Nat.not_lt_zero _)⟩ ?_
      rintro m σ H' ⟨j, q, u, v, rfl, rfl, s2, hq, R1, lj⟩
      have hj : j ≤ 64 := by
        by_cases z : j ≤ 64
        · exact z
        · exact absurd (id64 odd x) (lj 64 (by omega))
      have U1 := R1.u1
      have nx := rep_led R1 (Cg.of_mod M64 x)
      wtm_at "go"
      rename_i H2 s3
      refine ite2 (fun z => ?_) (fun z => ?_)
      · have e : Cg M64 (It a b (2 ^ j) x) x := nx.symm.trans (by rw [show (u * (x % M64) + v) % M64 = x % M64 from z]; exact Cg.of_mod M64 x)
        wtm_at "go"
        exact k _ _ (.inr ⟨odd, rfl, j, rfl, e, lj⟩) _ _ (by wtm_at "sm") (by wtm_at "fr") (by wtm_at "hp")
      · refine ⟨_, fun _ _ n => n, ?_⟩
        wtm_at "go"
        rename_i H3 q3 s4 n3 h3
        refine ⟨65 - (j + 1), by omega, j + 1, q3, _, _, rfl, by rw [show 2 * ((2 ^ j : Nat) : Int) = ((2 ^ (j + 1) : Nat) : Int) by rw [Nat.pow_succ]; omega], by wtm_at "sm", by wtm_at "hp", by rw [show 2 ^ (j + 1) = 2 ^ j + 2 ^ j by rw [Nat.pow_succ]; omega]; exact rep_behind R1 R1, fun i hi => ?_⟩
        by_cases y : i < j
        · exact lj i y
        · have : i = j := by omega
          rw [this]
          intro e
          exact z (cg_U64 (U64_mod _) (U64_mod _) (nx.trans (e.trans (Cg.of_mod M64 x).symm)))
theorem use_tail_and_ring {H : Hp} {Q : VK} {E : XK} {a b x : Int} (ha : I64 a) (hb : I64 b) (hx : I64 x) (k : ∀ t r, TR a b x t r → RetT [.int t, .int r] H Q) : sp_tail_and_ring [.int a, .int b, .int x] H Q E := ⟨a, b, x, rfl, ha, hb, hx, k⟩
def optV : Option Nat → V
  | none => .non
  | some c => .int (c : Int)
theorem M_pow : (18446744073709551616 : Int) = 2 ^ 64 := M_eq
def sp_meeting_by_bits (K : PySem.W.Frag) : Sp := fun vs H Q _ => ∃ (p : Addr) (a b u v x y : Int), vs = [.ref p, .int x, .int y] ∧ SqT K H p [.int u, .int v] ∧ Rep a b 1 u v ∧ a % 2 = 1 ∧ U64 x ∧ U64 y ∧ ∀ o, RT a b x y o → Ret (optV o) H Q
theorem kn_meeting_by_bits (T : Tx K mg) : Kn P w K mg base 2 "meeting_by_bits" ["pair", "x", "y"] (sp_meeting_by_bits K) := by
  obtain ⟨fd, F⟩ := T.d_meeting_by_bits
  refine kn_mk F T.g_meeting_by_bits sc_meeting_by_bits (fun _ _ _ _ _ _ us hl => match us, hl with | [_, _, _], _ => rfl) (fun vs H Q E h => ?_) (fun cdv A outer s H vs Q E hr h => ?_)
  · obtain ⟨p, a, b, u, v, x, y, rfl, _⟩ := h
    rfl
  · obtain ⟨p, a, b, u, v, x, y, rfl, hp, R, odd, hx, hy, k⟩ := h
    refine ⟨_, (pss_cons (ps_asg (pe_tup (pa_cons pe_int (pa_cons pe_int (pa_cons (pv 0) (pa_cons (pv 1) pa_nil))))) (pg_tup (by rfl) (pgs_cons (pg_name (i := 3) sc_meeting_by_bits.nd rfl (Or.inl rfl)) (pgs_cons (pg_name (i := 4) sc_meeting_by_bits.nd rfl (Or.inl rfl)) (pgs_cons (pg_name (i := 5) sc_meeting_by_bits.nd rfl (Or.inl rfl)) (pgs_cons (pg_name (i := 6) sc_meeting_by_bits.nd rfl (Or.inl rfl)) pgs_nil))))))
      (pss_cons (ps_for PassesOwn.never rfl (pi_range2 rfl T.n_range (pa_cons pe_int (pa_cons (pe_op op_add (pe_gi T.c_BITS) pe_int) pa_nil))) (pg_name (i := 7) sc_meeting_by_bits.nd rfl (Or.inl rfl)) (pss_cons (ps_set (i := 8) sc_meeting_by_bits.nd rfl (Or.inl rfl) (pe_op op_shl pe_int (pv 7)))
      (pss_cons (ps_set (i := 9) sc_meeting_by_bits.nd rfl (Or.inl rfl) (pe_cmpR op_ne (pe_op op_mod (pe_op op_sub (pc (kn_led T) (hr.mono (by decide)) (pa_cons (pv 5) (pa_cons (pv 6) pa_nil))) (pv 6)) (pv 8)) pe_int (nomark _)))
      (pss_cons (ps_if (pt_cmpR op_ne (pe_op op_mod (pe_op op_sub (pv 6) (pv 2)) (pv 8)) pe_int (nomark _)) (pss_cons (ps_if (pt_not (pt_val (pv 9))) (pss_one (ps_ret pe_non)) pss_nil)
      (pss_cons (ps_par (i := 3) (j := 6) (by rfl) sc_meeting_by_bits.nd rfl rfl (by decide) rfl rfl (pa_cons (pe_op op_add (pv 3) (pv 4)) (pa_cons (pc (kn_led T) (hr.mono (by decide)) (pa_cons (pv 5) (pa_cons (pv 6) pa_nil))) pa_nil)) (by rfl))
      (pss_one (ps_if (pt_cmpR op_ne (pe_op op_mod (pe_op op_sub (pv 6) (pv 2)) (pv 8)) pe_int (nomark _)) (pss_one (ps_ret pe_non)) pss_nil)))) pss_nil)
      (pss_one (ps_if (pt_val (pv 9)) (pss_one (ps_par (i := 4) (j := 5) (by rfl) sc_meeting_by_bits.nd rfl rfl (by decide) rfl rfl (pa_cons (pe_op op_mul pe_int (pv 4)) (pa_cons (pc (kn_behind T) (hr.mono (by decide)) (pa_cons (pv 5) (pa_cons (pv 5) pa_nil))) pa_nil)) (by rfl))) pss_nil))))))
      (pss_one (ps_ret (pv 3))))), st_as (σ' := [some _, some _, some _, none, none, none, none, none, none, none]) rfl ?_⟩
    wtm_at "go"
    rename_i p0 n0 h0
    refine loopR2 ⟨by decide, by decide, by decide, by decide⟩ (fun i σ H' => ∃ (c r : Nat) (q : Addr) (ju jv he : Int) (o1 o2 o3 : Option V), σ = [some (.ref p), some (.int x), some (.int y), some (.int (c : Int)), some (.int (r : Int)), some (.ref q), some (.int he), o1, o2, o3] ∧ Same H H' ∧
      SqT K H' q [.int ju, .int jv] ∧ Rep a b r ju jv ∧ U64 he ∧ Cg M64 he (It a b c x) ∧ c < r ∧ Per (2 ^ i) a b x r ∧ Cg (2 ^ i) (It a b c x) y)
      ⟨0, 1, p, u, v, x, none, none, none, rfl, same_new n0, by wtm_at "hp", R, hx, Cg.refl _ _, by decide, per_zero a b x, ⟨_, by rw [Int.pow_zero, Int.one_mul]⟩⟩ (fun i σ H' hi I => ?_) (fun σ H' I => ?_)
    · obtain ⟨c, r, q, ju, jv, he, o1, o2, o3, rfl, s1, hq, RJ, hhe, hch, hcr, per, hcy⟩ := I
      have hi2 : i < 64 := by omega
      have hpw : ((1 : Int) * 2 ^ (1 + (i : Int)).toNat) = 2 ^ (i + 1) := by rw [Int.one_mul, show (1 + (i : Int)).toNat = i + 1 by omega]
      have pos : (0 : Int) < 2 ^ (i + 1) := PySem.W.kbt_pos _
      have U1 := RJ.u1
      -- 2 ^ (i + 1) divides 2 ^ 64
      have dv : (2 : Int) ^ (i + 1) ∣ M64 := ⟨2 ^ (63 - i), by rw [M_eq, ← Int.pow_add]; congr 1; omega⟩
      have md : ∀ z w : Int, (z - w) % 2 ^ (i + 1) = 0 ↔ Cg (2 ^ (i + 1)) z w := fun z w => ⟨Int.dvd_of_emod_eq_zero, Int.emod_eq_zero_of_dvd⟩
      have ch2 : Cg (2 ^ (i + 1)) he (It a b c x) := hch.weak dv
      have nx : Cg M64 ((ju * he + jv) % M64) (It a b (c + r) x) := by rw [It_add]; exact rep_led RJ hch
      have nx2 : Cg (2 ^ (i + 1)) ((ju * he + jv) % M64) (It a b (c + r) x) := nx.weak dv
      -- whether the period doubles
      have dbl : Cg (2 ^ (i + 1)) ((ju * he + jv) % M64) he ↔ Cg (2 ^ (i + 1)) (It a b r x) x := by
        have e : It a b (c + r) x = It a b c (It a b r x) := by rw [Nat.add_comm, It_add]
        rw [e] at nx2
        constructor
        · intro z
          exact It_inj odd (nx2.symm.trans (z.trans ch2))
        · intro z
          exact nx2.trans ((It_cg (Cg.refl _ _) (Cg.refl _ _) z c).trans ch2.symm)
      have stay : Cg (2 ^ i) (It a b (c + r) x) (It a b c x) := (per_eq odd per (by omega)).mpr (by rw [show c + r - c = r by omega]; exact Nat.dvd_refl r)
      wtm_at "go"
      simp only [hpw, md]
      rename_i H1 s2
      have cm : CMul 2 (r : Int) := .inl ⟨by decide, by decide⟩
      have tor : (2 : Int) * (r : Int) = ((r + r : Nat) : Int) := by omega
      have tor2 : 2 * r = r + r := by omega
      refine ite2 (fun eqy => ?_) (fun ney => ?_)
      · refine ite2 (fun st => ?_) (fun db => ?_)
        · exact ⟨c, r, q, ju, jv, he, _, _, _, rfl, s1.trans s2, by wtm_at "hp", RJ, hhe, hch, hcr, per_stay odd per (dbl.mp st), ch2.symm.trans eqy⟩
        · refine ⟨cm, use_behind (by wtm_at "hp") (by wtm_at "hp") U1 U1 fun H2 q2 s3 n3 h3 => ?_⟩
          exact ⟨c, r + r, q2, _, _, he, _, _, _, by rw [tor], (s1.trans s2).trans s3, sqt_of h3, rep_behind RJ RJ, hhe, hch, by omega, by rw [← tor2]; exact per_double odd per (fun z => db (dbl.mpr z)), ch2.symm.trans eqy⟩
      · have ney2 : ¬ Cg (2 ^ (i + 1)) (It a b c x) y := fun z => ney (ch2.trans z)
        refine ite2 (fun st => ?_) (fun db => ?_)
        · refine k none (fun n e => ?_) _ (s1.trans s2)
          exact none_step odd hcy per (per_stay odd per (dbl.mp st)) ney2 n (e.weak dv)
        · have fl : Cg (2 ^ (i + 1)) (It a b (c + r) x) y := flip hcy ney2 stay (fun z => db (nx2.trans (z.trans ch2.symm)))
          refine use_led (by wtm_at "hp") U1 fun H2 s3 => ?_
          wtm_at "go"
          simp only [md]
          refine g_pY (nx2.trans fl) ?_
          refine ite2 (fun st => absurd st db) (fun _ => ⟨cm, ?_⟩)
          refine use_behind (by wtm_at "hp") (by wtm_at "hp") U1 U1 fun H3 q3 s4 n4 h4 => ?_
          exact ⟨c + r, r + r, q3, _, _, _, _, _, _, by rw [tor, show (c : Int) + r = ((c + r : Nat) : Int) by omega], by wtm_at "sm", sqt_of h4, rep_behind RJ RJ, U64_mod _, nx, by omega, by rw [← tor2]; exact per_double odd per (fun z => db (dbl.mpr z)), fl⟩
    · obtain ⟨c, r, q, ju, jv, he, o1, o2, o3, rfl, s1, hq, RJ, hhe, hch, hcr, per, hcy⟩ := I
      wtm_at "go"
      refine k (some c) ⟨?_, fun n hn e => ?_⟩ _ s1
      · rw [M_eq]; exact hcy
      · rw [M_eq] at e
        have d : r ∣ c - n := (per_eq odd per (by omega)).mp (hcy.trans e.symm)
        have := Nat.eq_zero_of_dvd_of_lt d (by omega)
        omega
theorem use_meeting_by_bits {H : Hp} {Q : VK} {E : XK} {p : Addr} {a b u v x y : Int} (hp : SqT K H p [.int u, .int v]) (R : Rep a b 1 u v) (odd : a % 2 = 1) (hx : U64 x) (hy : U64 y) (k : ∀ o, RT a b x y o → Ret (optV o) H Q) :
    sp_meeting_by_bits K [.ref p, .int x, .int y] H Q E := ⟨p, a, b, u, v, x, y, rfl, hp, R, odd, hx, hy, k⟩
theorem RT_cg {a b x x' y y' : Int} {o : Option Nat} (hx : Cg M64 x x') (hy : Cg M64 y y') (h : RT a b x y o) : RT a b x' y' o := by
  have e : ∀ n, Cg M64 (It a b n x') y' ↔ Cg M64 (It a b n x) y := fun n => by
    have q := It_cg (Cg.refl M64 a) (Cg.refl M64 b) hx n
    exact ⟨fun z => q.trans (z.trans hy.symm), fun z => q.symm.trans (z.trans hy)⟩
  cases o with
  | none => exact fun n z => h n ((e n).mp z)
  | some c => exact ⟨(e c).mpr h.1, fun n hn z => h.2 n hn ((e n).mp z)⟩
def sp_rounds_to : Sp := fun vs H Q _ => ∃ a b x y : Int, vs = [.int a, .int b, .int x, .int y] ∧ I64 a ∧ I64 b ∧ I64 x ∧ I64 y ∧ ∀ o, RT a b x y o → Ret (optV o) H Q
theorem kn_rounds_to (T : Tx K mg) : Kn P w K mg base 4 "rounds_to" ["a", "b", "x", "y"] (sp_rounds_to) := by
  obtain ⟨fd, F⟩ := T.d_rounds_to
  refine kn_mk F T.g_rounds_to sc_rounds_to (fun _ _ _ _ _ _ us hl => match us, hl with | [_, _, _, _], _ => rfl) (fun vs H Q E h => ?_) (fun cdv A outer s H vs Q E hr h => ?_)
  · obtain ⟨a, b, x, y, rfl, _⟩ := h
    rfl
  · obtain ⟨a, b, x, y, rfl, ha, hb, hx, hy, k⟩ := h
    refine ⟨_, (pss_cons (ps_expr (pc (kn_check_map T) (hr.mono (by decide)) (pa_cons (pv 0) (pa_cons (pv 1) (pa_cons (pv 2) pa_nil)))))
      (pss_cons (ps_if (pt_not (pt_val (pc (kn_is_whole_number T) (hr.mono (by decide)) (pa_cons (pv 3) pa_nil)))) pss_never pss_nil)
      (pss_cons (ps_par3 (i := 4) (j := 5) (l := 6) (by rfl) sc_rounds_to.nd rfl rfl rfl (by decide) (by decide) (by decide) rfl rfl rfl (pa_cons (pe_tup (pa_cons (pe_op op_mod (pv 0) (pe_gi T.c_ALL_BITS)) (pa_cons (pe_op op_mod (pv 1) (pe_gi T.c_ALL_BITS)) pa_nil))) (pa_cons (pe_op op_mod (pv 2) (pe_gi T.c_ALL_BITS)) (pa_cons (pe_op op_mod (pv 3) (pe_gi T.c_ALL_BITS)) pa_nil))) (by rfl))
      (pss_cons (ps_if (pt_cmpR op_eq (pe_op op_mod (pv 0) pe_int) pe_int (nomark _)) (pss_one (ps_ret (pc (kn_meeting_by_bits T) (hr.mono (by decide)) (pa_cons (pv 4) (pa_cons (pv 5) (pa_cons (pv 6) pa_nil)))))) pss_nil)
      (pss_cons (ps_set (i := 7) sc_rounds_to.nd rfl (Or.inl rfl) (pe_ix (ix_tupK K) (pc (kn_tail_and_ring T) (hr.mono (by decide)) (pa_cons (pv 0) (pa_cons (pv 1) (pa_cons (pv 2) pa_nil)))) pe_int (fun _ _ => rfl)))
      (pss_cons (ps_for PassesOwn.never rfl (pi_range1 rfl T.n_range (pa_cons (pe_op op_add (pv 7) pe_int) pa_nil)) (pg_name (i := 8) sc_rounds_to.nd rfl (Or.inl rfl)) (pss_cons (ps_if (pt_cmpR op_eq (pv 5) (pv 6) (nomark _)) (pss_one (ps_ret (pv 8))) pss_nil)
      (pss_one (ps_set (i := 5) sc_rounds_to.nd rfl (Or.inl rfl) (pc (kn_led T) (hr.mono (by decide)) (pa_cons (pv 4) (pa_cons (pv 5) pa_nil)))))))
      (pss_one (ps_ret pe_non)))))))), st_as (σ' := [some _, some _, some _, some _, none, none, none, none, none]) rfl ?_⟩
    wtm_at "go"
    rename_i H1 s1 H2 s2 p np hp
    have R := rep_one a b
    have U := R.u1
    refine ite2 (fun od => ?_) (fun ev => ?_)
    · exact use_meeting_by_bits (by wtm_at "hp") R od (U64_mod _) (U64_mod _) fun o ho H3 s3 => k o (RT_cg (Cg.of_mod M64 x) (Cg.of_mod M64 y) ho) _ (by wtm_at "sm")
    · refine use_tail_and_ring ha hb hx fun t r ht H3 p3 s3 n3 h3 => ?_
      have ev0 : a % 2 = 0 := by omega
      rcases ht with ⟨_, rfl, T, rfl, hT, lT⟩ | ⟨z, _⟩
      · have hT64 : T ≤ 64 := by
          by_cases z : T ≤ 64
          · exact z
          · exact absurd (even64 ev0 x) (lT 64 (by omega))
        wtm_at "go"
        refine loopR1 ⟨by omega, by omega⟩ (fun i σ H' => ∃ (he : Int) (o : Option V), σ = [some (.int a), some (.int b), some (.int x), some (.int y), some (.ref p), some (.int he), some (.int (y % 18446744073709551616)), some (.int (T : Int)), o] ∧ Same H3 H' ∧ U64 he ∧ Cg M64 he (It a b i x) ∧ ∀ n, n < i → ¬ Cg M64 (It a b n x) y)
          ⟨_, none, rfl, Same.refl _, U64_mod x, Cg.of_mod M64 x, fun n hn => absurd hn (Nat.not_lt_zero _)⟩ (fun i σ H' hi I => ?_) (fun σ H' I => ?_)
        · obtain ⟨he, o, rfl, s4, hu, hc, hl⟩ := I
          wtm_at "go"
          refine ite2 (fun z => ?_) (fun z => ?_)
          · refine k (some i) ⟨hc.symm.trans (by rw [z]; exact Cg.of_mod M64 y), hl⟩ _ (by wtm_at "sm")
          · wtm_at "go"
            rename_i H5 s5
            refine ⟨_, _, rfl, s4.trans s5, U64_mod _, ?_, fun n hn e => ?_⟩
            · have e : It a b (i + 1) x = It a b 1 (It a b i x) := by rw [← It_add]
              rw [e]
              exact rep_led R hc
            · by_cases q : n < i
              · exact hl n q e
              · have : n = i := by omega
                rw [this] at e
                exact z (cg_U64 hu (U64_mod _) (hc.trans (e.trans (Cg.of_mod M64 y).symm)))
        · obtain ⟨he, o, rfl, s4, hu, hc, hl⟩ := I
          wtm_at "go"
          refine k none (fun n e => ?_) _ (by wtm_at "sm")
          by_cases q : n ≤ T
          · exact hl n (by omega) e
          · exact hl T (by omega) ((fix_on hT n (by omega)).symm.trans e)
      · omega
theorem use_rounds_to {H : Hp} {Q : VK} {E : XK} {a b x y : Int} (ha : I64 a) (hb : I64 b) (hx : I64 x) (hy : I64 y) (k : ∀ o, RT a b x y o → Ret (optV o) H Q) : sp_rounds_to [.int a, .int b, .int x, .int y] H Q E := ⟨a, b, x, y, rfl, ha, hb, hx, hy, k⟩
end
end W41

set_option maxHeartbeats 4000000
namespace W41
open PySem PySem.Spec PyProof.Rows L2 WK Mt
local macro_rules | `(tactic| wtm_at "hp") => `(tactic| first
  | with_reducible assumption
  | with_reducible exact upd_same
  | with_reducible exact sqt_of upd_same
  | with_reducible exact sql_of upd_same
  | with_reducible exact sqt_s1 (by assumption) (by wtm_at "sm")
  | with_reducible exact sqt_s2 (by assumption) (by wtm_at "sm")
  | with_reducible exact sqt_all (by assumption)
  | with_reducible exact sql_s1 (by assumption) (by wtm_at "sm")
  | with_reducible exact sql_s2 (by assumption) (by wtm_at "sm")
  | with_reducible exact at_s1 (by assumption) (by wtm_at "sm"))
local macro_rules | `(tactic| wtm_at "sd") => `(tactic| first
  | exact Or.inl ⟨by omega, by omega⟩
  | exact Or.inr ⟨by omega, by omega⟩
  | exact ⟨by omega, by decide⟩
  | exact cdw_of (by omega) (by omega)
  | exact cpow_of (by omega) (by omega) (by omega)
  | (dsimp only; omega)
  | (show (0 : Int) < _; omega)
  | (show (0 : Int) ≤ _; omega))
local macro_rules | `(tactic| wtm_at "sx") => `(tactic| simp only [x_seq, x_next, x_brk, x_cont, x_never, x_drop, x_asg, x_name, x_sub, x_ret, x_retN, x_ifS, x_parD, x_par3D, x_c, x_op, x_un, x_test, x_tB, x_yes, x_not, x_and, x_or, x_andV, x_orV, x_notV, x_ifE, x_chain, x_nil, x_cons, x_tupD, x_lstD, x_call, x_callX, x_cb, x_forR1, x_forR2, x_forL, x_forT, x_bits, x_part, x_nopart, x_sl, x_bm0, x_bm, x_lcL, x_lcT, x_lcR1, x_aug, x_ipI, x_ib, x_bi, x_onelB, x_two, x_onel, x_disp, x_pairs0, x_pairsS, x_dget2,
  x_var0, x_var1, x_var2, x_var3, x_var4, x_var5, x_var6, x_var7, x_var8, x_var9, x_var10, x_var11, x_var12, x_var13, x_var14, x_var15, List.set_cons_zero, x_set1, x_set2, x_set3, x_set4, x_set5, x_set6, x_set7, x_set8, x_set9, x_set10, x_set11, x_set12, x_set13, x_set14, x_set15, x_i0, x_iC, x_uI, x_bl, x_eqI, x_neI, x_eqS, x_neS, x_par, x_par3, x_gnil, x_gcons, x_one, x_rt, x_nx, x_bk, x_ct, cx_K, cx_K1, List.append_nil, List.cons_append, List.nil_append, if_true, if_false, ite_not, decide_true, decide_false, Bool.not_true, Bool.not_false, Bool.false_eq_true, decide_eq_true_eq, Bool.not_eq_true', Bool.not_eq_false', decide_eq_false_iff_not, true_and, and_true, reduceCtorEq, Int.reduceLT, Int.reduceLE, Int.reduceToNat, false_and, exists_false, or_false, false_or, wipe, List.map_cons, List.map_nil])
local macro_rules | `(tactic| wtm_at "g1") => `(tactic| first
  | with_reducible refine g_i0 ?_
  | with_reducible refine g_iC (by k_dflt (wtm_at "sd")) ?_
  | with_reducible refine g_ixT (by wtm_at "hp") rfl ?_
  | with_reducible refine g_pY (by k_dflt (wtm_at "cd")) ?_
  | with_reducible refine g_pX (by k_dflt (wtm_at "cd")) ?_
  | with_reducible refine g_size (by k_dflt exact (Nat.le_of_ble_eq_true rfl)) ?_
  | with_reducible refine isi_ii ?_
  | with_reducible refine isi_ib ?_
  | with_reducible refine isi_ss ?_
  | with_reducible refine isi_tt (by wtm_at "hp") ?_
  | with_reducible refine isi_bb ?_
  | with_reducible refine isi_is ?_
  | with_reducible refine g_inT (bb := true) (by wtm_at "hp") rfl rfl (by decide +kernel) ?_
  | with_reducible refine g_inT (bb := false) (by wtm_at "hp") rfl rfl (by decide +kernel) ?_
  | with_reducible refine g_notInT (bb := true) (by wtm_at "hp") rfl rfl (by decide +kernel) ?_
  | with_reducible refine g_notInT (bb := false) (by wtm_at "hp") rfl rfl (by decide +kernel) ?_
  | with_reducible refine g_ixL (by wtm_at "hp") rfl ?_
  | with_reducible refine g_tup (by wtm_at "hp") rfl ?_
  | with_reducible refine g_bl ?_
  | with_reducible refine g_eqI ?_
  | with_reducible refine g_neI ?_
  | with_reducible refine g_lenT (by wtm_at "hp") ?_
  | with_reducible refine g_lenL (by wtm_at "hp") ?_
  | with_reducible refine g_tl4 (by wtm_at "hp") ?_
  | with_reducible refine g_tl3 (by wtm_at "hp") ?_
  | with_reducible refine g_slL (by wtm_at "hp") ?_
  | with_reducible refine g_listL (by wtm_at "hp") ?_
  | with_reducible refine g_setL (by wtm_at "hp") rfl ?_
  | (with_reducible refine g_newT ?_; intro p np hp)
  | (with_reducible refine g_newL ?_; intro p np hp)
  | (with_reducible refine g_all ?_; intro p np)
  | with_reducible refine ⟨by k_dflt (wtm_at "sd"), ?_⟩
  | wtm_at "u1")
local macro_rules | `(tactic| wtm_at "cd") => `(tactic| first | omega | decide +kernel)
local macro_rules | `(tactic| wtm_at "go") => `(tactic| ((try wtm_at "sx"); repeat (wtm_at "g1"; try wtm_at "sx")))
local macro_rules | `(tactic| wtm_at "sm") => `(tactic| first
  | with_reducible assumption
  | with_reducible exact Same.refl _
  | with_reducible exact same_new (by assumption)
  | (with_reducible refine Same.trans ?_ (same_new (by assumption)); wtm_at "sm")
  | (with_reducible refine same_mut ?_ (by wtm_at "fr"); wtm_at "sm")
  | (with_reducible refine Same.trans ?_ (by assumption); wtm_at "sm"))
local macro_rules | `(tactic| wtm_at "fr") => `(tactic| first
  | with_reducible assumption
  | with_reducible exact free2 (by assumption) (by wtm_at "sm"))

local macro_rules | `(tactic| wtm_at "u1") => `(tactic| (with_reducible refine use_wrapped ?_; intro H1 s1))
local macro_rules | `(tactic| wtm_at "u1") => `(tactic| (with_reducible refine isi_own (ty_int _) (by assumption) ?_))
local macro_rules | `(tactic| wtm_at "u1") => `(tactic| (with_reducible refine use_is_whole_number (by k_dflt (wtm_at "i64")) ?_; intro H1 s1))
local macro_rules | `(tactic| wtm_at "i64") => `(tactic| first | assumption | exact wrap_I64 _ | (unfold I64; omega))
local macro_rules | `(tactic| wtm_at "u1") => `(tactic| (with_reducible refine use_arith (by k_dflt (wtm_at "i64")) (by k_dflt (wtm_at "i64")) (by k_dflt first | exact Or.inl ⟨rfl, rfl⟩ | exact Or.inr ⟨rfl, rfl⟩) ?_; intro H1 s1))
local macro_rules | `(tactic| wtm_at "u1") => `(tactic| (with_reducible refine use_check_equation (by k_dflt (wtm_at "i64")) (by k_dflt (wtm_at "i64")) (by decide +kernel) ?_; intro H1 s1))
local macro_rules | `(tactic| wtm_at "u1") => `(tactic| (with_reducible refine use_bits_told ?_; intro H1 p1 s1 n1 h1))
local macro_rules | `(tactic| wtm_at "u1") => `(tactic| (with_reducible refine use_check_solution (by assumption) (by assumption) ?_; intro H1 s1))
local macro_rules | `(tactic| wtm_at "u1") => `(tactic| (with_reducible refine use_count_of (by first | assumption | exact TdAt.same (by wtm_at "sm") (by assumption)) (by assumption) ?_; intro H1 s1))
local macro_rules | `(tactic| wtm_at "u1") => `(tactic| (with_reducible refine use_check_map (by k_dflt (wtm_at "i64")) (by k_dflt (wtm_at "i64")) (by k_dflt (wtm_at "i64")) ?_; intro H1 s1))
local macro_rules | `(tactic| wtm_at "u1") => `(tactic| (with_reducible refine use_led (by wtm_at "hp") (by assumption) ?_; intro H1 s1))
local macro_rules | `(tactic| wtm_at "u1") => `(tactic| (with_reducible refine use_behind (by wtm_at "hp") (by wtm_at "hp") (by assumption) (by assumption) ?_; intro H1 p1 s1 n1 h1))
section
variable {P : Program} {w : World} {K : PySem.W.Frag} {mg : Str → Option Value} {base : Heap}
def sp_how_many_solve (K : PySem.W.Frag) : Sp := fun vs H Q _ => ∃ v d, vs = [v] ∧ TdAt K H v d ∧ Wf d ∧ Ret (.int (cnt d)) H Q
theorem kn_how_many_solve (T : Tx K mg) : Kn P w K mg base 3 "how_many_solve" ["told"] (sp_how_many_solve K) := by
  obtain ⟨fd, F⟩ := T.d_how_many_solve
  refine kn_mk F T.g_how_many_solve sc_how_many_solve (fun _ _ _ _ _ _ us hl => match us, hl with | [_], _ => rfl) (fun vs H Q E h => ?_) (fun cdv A outer s H vs Q E hr h => ?_)
  · obtain ⟨v, d, rfl, _⟩ := h
    rfl
  · obtain ⟨v, d, rfl, hd, hw, k⟩ := h
    refine ⟨_, (pss_cons (ps_expr (pc (kn_check_solution T) (hr.mono (by decide)) (pa_cons (pv 0) pa_nil)))
      (pss_one (ps_ret (pc (kn_count_of T) (hr.mono (by decide)) (pa_cons (pv 0) pa_nil))))), st_as (σ' := [some _]) rfl ?_⟩
    wtm_at "go"
    exact k _ (by wtm_at "sm")
theorem use_how_many_solve {H : Hp} {Q : VK} {E : XK} {v : V} {d : Td} (hd : TdAt K H v d) (hw : Wf d) (k : Ret (.int (cnt d)) H Q) : sp_how_many_solve K [v] H Q E := ⟨v, d, rfl, hd, hw, k⟩
local macro_rules | `(tactic| wtm_at "u1") => `(tactic| (with_reducible refine use_how_many_solve (by first | assumption | exact TdAt.same (by wtm_at "sm") (by assumption)) (by assumption) ?_; intro H1 s1))
/-- whether an integer is told -/
def Tells : Td → Int → Prop
  | .non, _ => False
  | .row f s m, n => f ≤ n ∧ n ≤ f + s * (m - 1) ∧ (n - f) % s = 0
  | .bits _ _, _ => True
open Classical in
theorem tells_iff {other result : Int} {d : Td} {n : Int} (h : Sol other result d) (hn : I64 n) : Tells d n ↔ Cg M64 (n * other) result := by
  cases d with
  | non => exact ⟨fun z => False.elim z, fun q => h n q⟩
  | row f s m =>
    obtain ⟨R, _⟩ := h
    have s1 := R.s1
    rw [R.iff n hn]
    constructor
    · rintro ⟨h1, h2, h3⟩
      have e := Int.emod_add_mul_ediv (n - f) s
      rw [h3] at e
      refine ⟨(n - f) / s, Int.ediv_nonneg (by omega) (by omega), ?_, by omega⟩
      have l : (n - f) / s ≤ m - 1 := by
        have : n - f ≤ s * (m - 1) := by omega
        exact Int.le_of_mul_le_mul_left (by omega : s * ((n - f) / s) ≤ s * (m - 1)) (by omega)
      omega
    · rintro ⟨k, k0, k1, rfl⟩
      refine ⟨?_, ?_, ?_⟩
      · have := Int.mul_nonneg (show 0 ≤ s by omega) k0
        omega
      · have := Int.mul_le_mul_of_nonneg_left (show k ≤ m - 1 by omega) (show 0 ≤ s by omega)
        omega
      · rw [show f + s * k - f = s * k by omega]
        exact Int.mul_emod_right s k
  | bits x y =>
    obtain ⟨_, _, rfl, rfl⟩ := h
    exact ⟨fun _ => by rw [Int.mul_zero]; exact Cg.refl _ _, fun _ => trivial⟩
theorem and_zero (n : Int) : Builtin.bitAnd n (Builtin.bitNot (-1)) = 0 := by
  have e : Builtin.bitNot (-1) = 0 := by decide
  rw [e]
  unfold Builtin.bitAnd
  by_cases h : 0 ≤ n
  · rw [decide_eq_true h]
    show ((n.toNat &&& 0 : Nat) : Int) = 0
    rw [Nat.and_zero]
    rfl
  · rw [decide_eq_false h]
    show (0 : Int) - ((0 &&& (Builtin.bitNot n).toNat : Nat) : Int) = 0
    rw [Nat.zero_and]
    rfl
def sp_is_told (K : PySem.W.Frag) : Sp := fun vs H Q _ => ∃ v d n, vs = [v, .int n] ∧ TdAt K H v d ∧ Wf d ∧ I64 n ∧ ∀ b : Bool, (b = true ↔ Tells d n) → Ret (.bl b) H Q
theorem kn_is_told (T : Tx K mg) : Kn P w K mg base 3 "is_told" ["told", "number"] (sp_is_told K) := by
  obtain ⟨fd, F⟩ := T.d_is_told
  refine kn_mk F T.g_is_told sc_is_told (fun _ _ _ _ _ _ us hl => match us, hl with | [_, _], _ => rfl) (fun vs H Q E h => ?_) (fun cdv A outer s H vs Q E hr h => ?_)
  · obtain ⟨v, d, n, rfl, _⟩ := h
    rfl
  · obtain ⟨v, d, n, rfl, hd, hw, hn, k⟩ := h
    refine ⟨_, (pss_cons (ps_expr (pc (kn_check_solution T) (hr.mono (by decide)) (pa_cons (pv 0) pa_nil)))
      (pss_cons (ps_if (PW.pt (pw_or (pt_cmpR op_isN (pv 0) pe_non (nomark _)) (pw_or1 (pt_not (pt_val (pc (kn_is_whole_number T) (hr.mono (by decide)) (pa_cons (pv 1) pa_nil))))))) (pss_one (ps_ret pe_bl)) pss_nil)
      (pss_cons (ps_if (pt_cmpR op_eq (pe_ix (ix_tupK K) (pv 0) pe_int (fun _ _ => rfl)) (pe_gs T.c_FREE) (nomark _)) (pss_one (ps_ret (pe_cmpR op_eq (pe_op op_and (pv 1) (pe_un un_inv (pe_ix (ix_tupK K) (pv 0) pe_int (fun _ _ => rfl)))) (pe_ix (ix_tupK K) (pv 0) pe_int (fun _ _ => rfl)) (nomark _)))) pss_nil)
      (pss_one (ps_ret (pe_and (pe_chain op_le op_le (pe_ix (ix_tupK K) (pv 0) pe_int (fun _ _ => rfl)) (pv 1) (pe_op op_add (pe_ix (ix_tupK K) (pv 0) pe_int (fun _ _ => rfl)) (pe_op op_mul (pe_ix (ix_tupK K) (pv 0) pe_int (fun _ _ => rfl)) (pe_op op_sub (pe_ix (ix_tupK K) (pv 0) pe_int (fun _ _ => rfl)) pe_int)))) (pe_one (pe_cmpR op_eq (pe_op op_mod (pe_op op_sub (pv 1) (pe_ix (ix_tupK K) (pv 0) pe_int (fun _ _ => rfl))) (pe_ix (ix_tupK K) (pv 0) pe_int (fun _ _ => rfl))) pe_int (nomark _))))))))), st_as (σ' := [some _, some _]) rfl ?_⟩
    have hd0 := hd
    cases d with
    | non =>
      have hv : v = .non := hd
      subst hv
      wtm_at "go"
      exact k false ⟨(fun z => by cases z), fun z => False.elim z⟩ _ (by wtm_at "sm")
    | row f s0 m =>
      obtain ⟨p, rfl, hp⟩ := hd
      have hw0 := hw
      obtain ⟨w1, w2, w3, w4, w5, w6⟩ := hw
      wtm_at "go"
      refine ite2 (fun c1 => ?_) (fun c1 => ?_)
      · wtm_at "go"
        refine ite2 (fun c2 => ?_) (fun c2 => ?_)
        · wtm_at "go"
          exact k _ ⟨fun z => ⟨c1, c2, of_decide_eq_true z⟩, fun z => decide_eq_true z.2.2⟩ _ (by wtm_at "sm")
        · exact k false ⟨(fun z => by cases z), fun z => absurd z.2.1 c2⟩ _ (by wtm_at "sm")
      · exact k false ⟨(fun z => by cases z), fun z => absurd z.1 c1⟩ _ (by wtm_at "sm")
    | bits x y =>
      obtain ⟨p, rfl, hp⟩ := hd
      obtain ⟨rfl, rfl⟩ := id hw
      wtm_at "go"
      rw [and_zero]
      exact k true ⟨fun _ => trivial, fun _ => rfl⟩ _ (by wtm_at "sm")
theorem use_is_told {H : Hp} {Q : VK} {E : XK} {v : V} {d : Td} {n : Int} (hd : TdAt K H v d) (hw : Wf d) (hn : I64 n) (k : ∀ b : Bool, (b = true ↔ Tells d n) → Ret (.bl b) H Q) : sp_is_told K [v, .int n] H Q E := ⟨v, d, n, rfl, hd, hw, hn, k⟩
def sp_leads_to : Sp := fun vs H Q _ => ∃ n a r : Int, vs = [.str "mul", .int n, .int a, .int r] ∧ I64 n ∧ I64 a ∧ I64 r ∧ ∀ b : Bool, (b = true ↔ Cg M64 (n * a) r) → Ret (.bl b) H Q
theorem kn_leads_to (T : Tx K mg) : Kn P w K mg base 3 "leads_to" ["word", "number", "other", "result"] (sp_leads_to) := by
  obtain ⟨fd, F⟩ := T.d_leads_to
  refine kn_mk F T.g_leads_to sc_leads_to (fun _ _ _ _ _ _ us hl => match us, hl with | [_, _, _, _], _ => rfl) (fun vs H Q E h => ?_) (fun cdv A outer s H vs Q E hr h => ?_)
  · obtain ⟨n, a, r, rfl, _⟩ := h
    rfl
  · obtain ⟨n, a, r, rfl, hn, ha, hr0, k⟩ := h
    refine ⟨_, (pss_cons (ps_expr (pc (kn_check_equation T) (hr.mono (by decide)) (pa_cons (pv 0) (pa_cons (pv 2) (pa_cons (pv 3) pa_nil)))))
      (pss_cons (ps_if (pt_not (pt_val (pc (kn_is_whole_number T) (hr.mono (by decide)) (pa_cons (pv 1) pa_nil)))) pss_never pss_nil)
      (pss_one (ps_try_thru0 (pss_one (ps_ret (pe_cmpR op_eq (pc (kn_arith T) (hr.mono (by decide)) (pa_cons (pv 0) (pa_cons (pv 1) (pa_cons (pv 2) pa_nil)))) (pv 3) (nomark _)))))))), st_as (σ' := [some _, some _, some _, some _]) rfl ?_⟩
    wtm_at "go"
    exact k _ ⟨fun z => by rw [← of_decide_eq_true z]; exact (wrap_cg _).symm, fun z => decide_eq_true (wrap_eq hr0 z)⟩ _ (by wtm_at "sm")
theorem use_leads_to {H : Hp} {Q : VK} {E : XK} {n a r : Int} (hn : I64 n) (ha : I64 a) (hr : I64 r) (k : ∀ b : Bool, (b = true ↔ Cg M64 (n * a) r) → Ret (.bl b) H Q) : sp_leads_to [.str "mul", .int n, .int a, .int r] H Q E := ⟨n, a, r, rfl, hn, ha, hr, k⟩
def sp_resting (K : PySem.W.Frag) : Sp := fun vs H Q _ => ∃ a b : Int, vs = [.int a, .int b] ∧ I64 a ∧ I64 b ∧ ∀ d, Sol (wrap (a - 1)) (wrap (0 - b)) d → ∀ H' v, Same H H' → TdAt K H' v d → Q v H'
theorem kn_resting (T : Tx K mg) : Kn P w K mg base 5 "resting" ["a", "b"] (sp_resting K) := by
  obtain ⟨fd, F⟩ := T.d_resting
  refine kn_mk F T.g_resting sc_resting (fun _ _ _ _ _ _ us hl => match us, hl with | [_, _], _ => rfl) (fun vs H Q E h => ?_) (fun cdv A outer s H vs Q E hr h => ?_)
  · obtain ⟨a, b, rfl, _⟩ := h
    rfl
  · obtain ⟨a, b, rfl, ha, hb, k⟩ := h
    refine ⟨_, (pss_cons (ps_expr (pc (kn_check_map T) (hr.mono (by decide)) (pa_cons (pv 0) (pa_cons (pv 1) (pa_cons pe_int pa_nil)))))
      (pss_one (ps_ret (pc (kn_solved T) (hr.mono (by decide)) (pa_cons pe_str (pa_cons (pc (kn_wrapped T) (hr.mono (by decide)) (pa_cons (pe_op op_sub (pv 0) pe_int) pa_nil)) (pa_cons (pc (kn_wrapped T) (hr.mono (by decide)) (pa_cons (pe_op op_sub pe_int (pv 1)) pa_nil)) pa_nil))))))), st_as (σ' := [some _, some _]) rfl ?_⟩
    wtm_at "go"
    rename_i H1 s1 H2 s2 H3 s3
    refine use_solved (wrap_I64 _) (wrap_I64 _) fun d hd H4 v s4 hv => ?_
    exact k d hd _ _ (((s1.trans s2).trans s3).trans s4) hv
theorem use_resting {H : Hp} {Q : VK} {E : XK} {a b : Int} (ha : I64 a) (hb : I64 b) (k : ∀ d, Sol (wrap (a - 1)) (wrap (0 - b)) d → ∀ H' v, Same H H' → TdAt K H' v d → Q v H') : sp_resting K [.int a, .int b] H Q E := ⟨a, b, rfl, ha, hb, k⟩
end
end W41


set_option maxHeartbeats 4000000
namespace W41
open PySem PySem.Spec PyProof.Rows L2 WK Mt
local macro_rules | `(tactic| wtm_at "hp") => `(tactic| first
  | with_reducible assumption
  | with_reducible exact upd_same
  | with_reducible exact sqt_of upd_same
  | with_reducible exact sql_of upd_same
  | with_reducible exact sqt_s1 (by assumption) (by wtm_at "sm")
  | with_reducible exact sqt_s2 (by assumption) (by wtm_at "sm")
  | with_reducible exact sqt_all (by assumption)
  | with_reducible exact sql_s1 (by assumption) (by wtm_at "sm")
  | with_reducible exact sql_s2 (by assumption) (by wtm_at "sm")
  | with_reducible exact at_s1 (by assumption) (by wtm_at "sm"))
local macro_rules | `(tactic| wtm_at "sd") => `(tactic| first
  | exact Or.inl ⟨by omega, by omega⟩
  | exact Or.inr ⟨by omega, by omega⟩
  | exact ⟨by omega, by decide⟩
  | exact cdw_of (by omega) (by omega)
  | exact cpow_of (by omega) (by omega) (by omega)
  | (dsimp only; omega)
  | (show (0 : Int) < _; omega)
  | (show (0 : Int) ≤ _; omega))
local macro_rules | `(tactic| wtm_at "sx") => `(tactic| simp only [x_seq, x_next, x_brk, x_cont, x_never, x_drop, x_asg, x_name, x_sub, x_ret, x_retN, x_ifS, x_parD, x_par3D, x_c, x_op, x_un, x_test, x_tB, x_yes, x_not, x_and, x_or, x_andV, x_orV, x_notV, x_ifE, x_chain, x_nil, x_cons, x_tupD, x_lstD, x_call, x_callX, x_cb, x_forR1, x_forR2, x_forL, x_forT, x_bits, x_part, x_nopart, x_sl, x_bm0, x_bm, x_lcL, x_lcT, x_lcR1, x_aug, x_ipI, x_ib, x_bi, x_onelB, x_two, x_onel, x_disp, x_pairs0, x_pairsS, x_dget2,
  x_var0, x_var1, x_var2, x_var3, x_var4, x_var5, x_var6, x_var7, x_var8, x_var9, x_var10, x_var11, x_var12, x_var13, x_var14, x_var15, List.set_cons_zero, x_set1, x_set2, x_set3, x_set4, x_set5, x_set6, x_set7, x_set8, x_set9, x_set10, x_set11, x_set12, x_set13, x_set14, x_set15, x_i0, x_iC, x_uI, x_bl, x_eqI, x_neI, x_eqS, x_neS, x_par, x_par3, x_gnil, x_gcons, x_one, x_rt, x_nx, x_bk, x_ct, cx_K, cx_K1, List.append_nil, List.cons_append, List.nil_append, if_true, if_false, ite_not, decide_true, decide_false, Bool.not_true, Bool.not_false, Bool.false_eq_true, decide_eq_true_eq, Bool.not_eq_true', Bool.not_eq_false', decide_eq_false_iff_not, true_and, and_true, reduceCtorEq, Int.reduceLT, Int.reduceLE, Int.reduceToNat, false_and, exists_false, or_false, false_or, wipe, List.map_cons, List.map_nil])
local macro_rules | `(tactic| wtm_at "g1") => `(tactic| first
  | with_reducible refine g_i0 ?_
  | with_reducible refine g_iC (by k_dflt (wtm_at "sd")) ?_
  | with_reducible refine g_ixT (by wtm_at "hp") rfl ?_
  | with_reducible refine g_pY (by k_dflt (wtm_at "cd")) ?_
  | with_reducible refine g_pX (by k_dflt (wtm_at "cd")) ?_
  | with_reducible refine g_size (by k_dflt exact (Nat.le_of_ble_eq_true rfl)) ?_
  | with_reducible refine isi_ii ?_
  | with_reducible refine isi_ib ?_
  | with_reducible refine isi_ss ?_
  | with_reducible refine isi_tt (by wtm_at "hp") ?_
  | with_reducible refine isi_bb ?_
  | with_reducible refine isi_is ?_
  | with_reducible refine g_inT (bb := true) (by wtm_at "hp") rfl rfl (by decide +kernel) ?_
  | with_reducible refine g_inT (bb := false) (by wtm_at "hp") rfl rfl (by decide +kernel) ?_
  | with_reducible refine g_notInT (bb := true) (by wtm_at "hp") rfl rfl (by decide +kernel) ?_
  | with_reducible refine g_notInT (bb := false) (by wtm_at "hp") rfl rfl (by decide +kernel) ?_
  | with_reducible refine g_ixL (by wtm_at "hp") rfl ?_
  | with_reducible refine g_tup (by wtm_at "hp") rfl ?_
  | with_reducible refine g_bl ?_
  | with_reducible refine g_eqI ?_
  | with_reducible refine g_neI ?_
  | with_reducible refine g_lenT (by wtm_at "hp") ?_
  | with_reducible refine g_lenL (by wtm_at "hp") ?_
  | with_reducible refine g_tl4 (by wtm_at "hp") ?_
  | with_reducible refine g_tl3 (by wtm_at "hp") ?_
  | with_reducible refine g_slL (by wtm_at "hp") ?_
  | with_reducible refine g_listL (by wtm_at "hp") ?_
  | with_reducible refine g_setL (by wtm_at "hp") rfl ?_
  | (with_reducible refine g_newT ?_; intro p np hp)
  | (with_reducible refine g_newL ?_; intro p np hp)
  | (with_reducible refine g_all ?_; intro p np)
  | with_reducible refine ⟨by k_dflt (wtm_at "sd"), ?_⟩
  | wtm_at "u1")
local macro_rules | `(tactic| wtm_at "cd") => `(tactic| first | omega | decide +kernel)
local macro_rules | `(tactic| wtm_at "go") => `(tactic| ((try wtm_at "sx"); repeat (wtm_at "g1"; try wtm_at "sx")))
local macro_rules | `(tactic| wtm_at "sm") => `(tactic| first
  | with_reducible assumption
  | with_reducible exact Same.refl _
  | with_reducible exact same_new (by assumption)
  | (with_reducible refine Same.trans ?_ (same_new (by assumption)); wtm_at "sm")
  | (with_reducible refine same_mut ?_ (by wtm_at "fr"); wtm_at "sm")
  | (with_reducible refine Same.trans ?_ (by assumption); wtm_at "sm"))
local macro_rules | `(tactic| wtm_at "fr") => `(tactic| first
  | with_reducible assumption
  | with_reducible exact free2 (by assumption) (by wtm_at "sm"))

local macro_rules | `(tactic| wtm_at "u1") => `(tactic| (with_reducible refine use_wrapped ?_; intro H1 s1))
local macro_rules | `(tactic| wtm_at "u1") => `(tactic| (with_reducible refine isi_own (ty_int _) (by assumption) ?_))
local macro_rules | `(tactic| wtm_at "u1") => `(tactic| (with_reducible refine use_is_whole_number (by k_dflt (wtm_at "i64")) ?_; intro H1 s1))
local macro_rules | `(tactic| wtm_at "i64") => `(tactic| first | assumption | exact wrap_I64 _ | (unfold I64; omega))
local macro_rules | `(tactic| wtm_at "u1") => `(tactic| (with_reducible refine use_check_map (by k_dflt (wtm_at "i64")) (by k_dflt (wtm_at "i64")) (by k_dflt (wtm_at "i64")) ?_; intro H1 s1))
local macro_rules | `(tactic| wtm_at "u1") => `(tactic| (with_reducible refine use_led (by wtm_at "hp") (by assumption) ?_; intro H1 s1))
local macro_rules | `(tactic| wtm_at "u1") => `(tactic| (with_reducible refine use_behind (by wtm_at "hp") (by wtm_at "hp") (by assumption) (by assumption) ?_; intro H1 p1 s1 n1 h1))
/-! ### draws -/
def Well (H : Hp) (a : Addr) : Prop := ∃ x y z : Int, H a = some (.lst [.int x, .int y, .int z])
/-- all but what stands at a is as it was -/
def Sa (a : Addr) (H H' : Hp) : Prop := ∀ b o, H b = some o → b ≠ a → H' b = some o
theorem Sa.refl (a : Addr) (H : Hp) : Sa a H H := fun _ _ h _ => h
theorem Sa.trans {a : Addr} {H H1 H2 : Hp} (s : Sa a H H1) (t : Sa a H1 H2) : Sa a H H2 := fun b o h n => t b o (s b o h n) n
theorem Same.sa {a : Addr} {H H' : Hp} (s : Same H H') : Sa a H H' := fun b o h _ => s b o h
theorem Well.same {a : Addr} {H H' : Hp} (s : Same H H') (h : Well H a) : Well H' a := by
  obtain ⟨x, y, z, h⟩ := h
  exact ⟨x, y, z, s _ _ h⟩
theorem sa_upd {a : Addr} {H : Hp} {o : HO} : Sa a H (upd H a o) := fun b u h n => by rw [upd_ne n]; exact h
section
variable {P : Program} {w : World} {K : PySem.W.Frag} {mg : Str → Option Value} {base : Heap}
def sp__law_well : Sp := fun vs H Q _ => ∃ c : Int, vs = [.int c] ∧ ∀ H' p, Same H H' → H p = none → Well H' p → Q (.ref p) H'
theorem kn__law_well (T : Tx K mg) : Kn P w K mg base 1 "_law_well" ["cell"] (sp__law_well) := by
  obtain ⟨fd, F⟩ := T.d__law_well
  refine kn_mk F T.g__law_well sc__law_well (fun _ _ _ _ _ _ us hl => match us, hl with | [_], _ => rfl) (fun vs H Q E h => ?_) (fun cdv A outer s H vs Q E hr h => ?_)
  · obtain ⟨c, rfl, _⟩ := h
    rfl
  · obtain ⟨c, rfl, k⟩ := h
    refine ⟨_, (pss_one (ps_ret (pe_lst (pa_cons (pe_op op_mul (pv 0) (pe_callTy call_int1 (by rfl) T.n_int (by decide +kernel) (pa_cons (pe_cmpR op_ge (pv 0) (pe_k (v := .int (1000000000000000000)) (pe_op op_pow pe_int pe_int) k_pow) (nomark _)) pa_nil))) (pa_cons (pe_op op_mod (pe_callTy call_int1 (by rfl) T.n_int (by decide +kernel) (pa_cons (pv 0) pa_nil)) pe_int) (pa_cons pe_int pa_nil)))))), st_as (σ' := [some _]) rfl ?_⟩
    wtm_at "go"
    exact k _ _ (by wtm_at "sm") (by wtm_at "fr") ⟨_, _, _, upd_same⟩
theorem use__law_well {H : Hp} {Q : VK} {E : XK} {c : Int} (k : ∀ H' p, Same H H' → H p = none → Well H' p → Q (.ref p) H') : sp__law_well [.int c] H Q E := ⟨c, rfl, k⟩
def sp__law_draw : Sp := fun vs H Q _ => ∃ (a : Addr) (m : Int), vs = [.ref a, .int m] ∧ Well H a ∧ 0 < m ∧ m ≤ 18446744073709551616 ∧ ∀ H' d, Sa a H H' → Well H' a → 0 ≤ d → d < m → Q (.int d) H'
theorem kn__law_draw (T : Tx K mg) : Kn P w K mg base 1 "_law_draw" ["well", "many"] (sp__law_draw) := by
  obtain ⟨fd, F⟩ := T.d__law_draw
  refine kn_mk F T.g__law_draw sc__law_draw (fun _ _ _ _ _ _ us hl => match us, hl with | [_, _], _ => rfl) (fun vs H Q E h => ?_) (fun cdv A outer s H vs Q E hr h => ?_)
  · obtain ⟨a, m, rfl, _⟩ := h
    rfl
  · obtain ⟨a, m, rfl, hw, h0, h1, k⟩ := h
    refine ⟨_, (pss_cons (ps_if (pt_cmpR op_gt (pe_ix (ix_listK K) (pv 0) pe_int (fun _ _ => rfl)) pe_int (nomark _)) (pss_cons (ps_set (i := 2) sc__law_draw.nd rfl (Or.inl rfl) (pe_op op_mod (pe_callTy call_int1 (by rfl) T.n_int (by decide +kernel) (pa_cons (pe_ix (ix_listK K) (pv 0) pe_int (fun _ _ => rfl)) pa_nil)) (pv 1)))
      (pss_cons (ps_asg (pe_op op_fdivW (pe_ix (ix_listK K) (pv 0) pe_int (fun _ _ => rfl)) (pv 1)) (pg_sub (pv 0) pe_int set_list))
      (pss_one (ps_ret (pv 2))))) pss_nil)
      (pss_cons (ps_asg (pe_op op_add (pe_ix (ix_listK K) (pv 0) pe_int (fun _ _ => rfl)) pe_int) (pg_sub (pv 0) pe_int set_list))
      (pss_cons (ps_set (i := 3) sc__law_draw.nd rfl (Or.inl rfl) (pe_op op_mod (pe_callTy call_int1 (by rfl) T.n_int (by decide +kernel) (pa_cons (pe_op op_add (pe_op op_add (pe_op op_mul (pe_ix (ix_listK K) (pv 0) pe_int (fun _ _ => rfl)) pe_int) (pe_op op_mul pe_int (pe_ix (ix_listK K) (pv 0) pe_int (fun _ _ => rfl)))) pe_int) pa_nil)) pe_int))
      (pss_cons (ps_set (i := 3) sc__law_draw.nd rfl (Or.inl rfl) (pe_op op_mod (pe_callTy call_int1 (by rfl) T.n_int (by decide +kernel) (pa_cons (pe_op op_mul (pv 3) (pe_op op_add (pe_op op_fdiv (pv 3) pe_int) pe_int)) pa_nil)) pe_int))
      (pss_cons (ps_set (i := 3) sc__law_draw.nd rfl (Or.inl rfl) (pe_op op_mod (pe_callTy call_int1 (by rfl) T.n_int (by decide +kernel) (pa_cons (pe_op op_mul (pv 3) (pe_op op_add (pe_op op_add (pe_op op_fdiv (pv 3) pe_int) pe_int) (pe_ix (ix_listK K) (pv 0) pe_int (fun _ _ => rfl)))) pa_nil)) pe_int))
      (pss_one (ps_ret (pe_op op_mod (pe_callTy call_int1 (by rfl) T.n_int (by decide +kernel) (pa_cons (pe_op op_fdiv (pv 3) pe_int) pa_nil)) (pv 1))))))))), st_as (σ' := [some _, some _, none, none]) rfl ?_⟩
    obtain ⟨x, y, z, hw⟩ := hw
    wtm_at "go"
    refine ite2 (fun c => ?_) (fun c => ?_)
    · wtm_at "go"
      exact k _ _ sa_upd ⟨_, _, _, upd_same⟩ (Int.emod_nonneg _ (by omega)) (Int.emod_lt_of_pos _ h0)
    · wtm_at "go"
      exact k _ _ sa_upd ⟨_, _, _, upd_same⟩ (Int.emod_nonneg _ (by omega)) (Int.emod_lt_of_pos _ h0)
theorem use__law_draw {H : Hp} {Q : VK} {E : XK} {a : Addr} {m : Int} (hw : Well H a) (h0 : 0 < m) (h1 : m ≤ 18446744073709551616) (k : ∀ H' d, Sa a H H' → Well H' a → 0 ≤ d → d < m → Q (.int d) H') : sp__law_draw [.ref a, .int m] H Q E := ⟨a, m, rfl, hw, h0, h1, k⟩
local macro_rules | `(tactic| wtm_at "u1") => `(tactic| (with_reducible refine use__law_draw (by assumption) (by k_dflt omega) (by k_dflt omega) ?_; intro H1 d1 s1 w1 d0 dm))
def sp__law_one (K : PySem.W.Frag) : Sp := fun vs H Q _ => ∃ (a l : Addr) (xs : List V), vs = [.ref a, .ref l] ∧ Well H a ∧ H l = some (.lst xs) ∧ l ≠ a ∧ 0 < xs.length ∧ xs.length ≤ 1000 ∧ ∀ H' v, Sa a H H' → Well H' a → v ∈ xs → Q v H'
theorem kn__law_one (T : Tx K mg) : Kn P w K mg base 2 "_law_one" ["well", "some"] (sp__law_one K) := by
  obtain ⟨fd, F⟩ := T.d__law_one
  refine kn_mk F T.g__law_one sc__law_one (fun _ _ _ _ _ _ us hl => match us, hl with | [_, _], _ => rfl) (fun vs H Q E h => ?_) (fun cdv A outer s H vs Q E hr h => ?_)
  · obtain ⟨a, l, xs, rfl, _⟩ := h
    rfl
  · obtain ⟨a, l, xs, rfl, hw, hl, hne, h0, h1, k⟩ := h
    refine ⟨_, (pss_one (ps_ret (pe_ix (ix_listK K) (pv 1) (pc (kn__law_draw T) (hr.mono (by decide)) (pa_cons (pv 0) (pa_cons (pe_callB (call_lenK K) (by rfl) T.n_len (by decide +kernel) (pa_cons (pv 1) pa_nil)) pa_nil))) (fun _ _ => rfl)))), st_as (σ' := [some _, some _]) rfl ?_⟩
    wtm_at "go"
    rename_i H1 d s1 w1 d0 d1
    have hl1 := s1 _ _ hl hne
    have hd : d.toNat < xs.length := by omega
    refine g_ixL (v := xs[d.toNat]) (sql_of hl1) (at_of (j := d.toNat) (by omega) (List.getElem?_eq_getElem hd)) ?_
    exact k _ _ s1 w1 (List.getElem_mem hd)
theorem use__law_one {H : Hp} {Q : VK} {E : XK} {a l : Addr} {xs : List V} (hw : Well H a) (hl : H l = some (.lst xs)) (hne : l ≠ a) (h0 : 0 < xs.length) (h1 : xs.length ≤ 1000) (k : ∀ H' v, Sa a H H' → Well H' a → v ∈ xs → Q v H') : sp__law_one K [.ref a, .ref l] H Q E := ⟨a, l, xs, rfl, hw, hl, hne, h0, h1, k⟩
def sp__law_wrap : Sp := fun vs H Q _ => ∃ n : Int, vs = [.int n] ∧ Ret (.int (wrap n)) H Q
theorem kn__law_wrap (T : Tx K mg) : Kn P w K mg base 1 "_law_wrap" ["number"] (sp__law_wrap) := by
  obtain ⟨fd, F⟩ := T.d__law_wrap
  refine kn_mk F T.g__law_wrap sc__law_wrap (fun _ _ _ _ _ _ us hl => match us, hl with | [_], _ => rfl) (fun vs H Q E h => ?_) (fun cdv A outer s H vs Q E hr h => ?_)
  · obtain ⟨n, rfl, _⟩ := h
    rfl
  · obtain ⟨n, rfl, k⟩ := h
    refine ⟨_, (pss_one (ps_ret (pe_op op_sub (pe_op op_mod (pe_callTy call_int1 (by rfl) T.n_int (by decide +kernel) (pa_cons (pe_op op_add (pv 0) (pe_k (v := .int (9223372036854775808)) (pe_op op_shl pe_int pe_int) k_shl)) pa_nil)) (pe_k (v := .int (18446744073709551616)) (pe_op op_shl pe_int pe_int) k_shl)) (pe_k (v := .int (9223372036854775808)) (pe_op op_shl pe_int pe_int) k_shl)))), st_as (σ' := [some _]) rfl ?_⟩
    wtm_at "go"
    exact k _ (Same.refl _)
theorem use__law_wrap {H : Hp} {Q : VK} {E : XK} {n : Int} (k : Ret (.int (wrap n)) H Q) : sp__law_wrap [.int n] H Q E := ⟨n, rfl, k⟩
local macro_rules | `(tactic| wtm_at "u1") => `(tactic| (with_reducible refine use__law_wrap ?_; intro H1 s1))
def sp__law_great : Sp := fun vs H Q _ => ∃ a : Addr, vs = [.ref a] ∧ Well H a ∧ ∀ H' n, Sa a H H' → Well H' a → I64 n → Q (.int n) H'
theorem kn__law_great (T : Tx K mg) : Kn P w K mg base 3 "_law_great" ["well"] (sp__law_great) := by
  obtain ⟨fd, F⟩ := T.d__law_great
  refine kn_mk F T.g__law_great sc__law_great (fun _ _ _ _ _ _ us hl => match us, hl with | [_], _ => rfl) (fun vs H Q E h => ?_) (fun cdv A outer s H vs Q E hr h => ?_)
  · obtain ⟨a, rfl, _⟩ := h
    rfl
  · obtain ⟨a, rfl, hw, k⟩ := h
    refine ⟨_, (pss_cons (ps_set (i := 1) sc__law_great.nd rfl (Or.inl rfl) (pc (kn__law_draw T) (hr.mono (by decide)) (pa_cons (pv 0) (pa_cons pe_int pa_nil))))
      (pss_cons (ps_if (pt_cmpR op_lt (pv 1) pe_int (nomark _)) (pss_one (ps_ret (pe_op op_sub (pc (kn__law_draw T) (hr.mono (by decide)) (pa_cons (pv 0) (pa_cons pe_int pa_nil))) pe_int))) pss_nil)
      (pss_cons (ps_if (pt_cmpR op_eq (pv 1) pe_int (nomark _)) (pss_one (ps_ret (pc (kn__law_one T) (hr.mono (by decide)) (pa_cons (pv 0) (pa_cons (pe_lst (pa_cons (pe_k (v := .int (9223372036854775807)) (pe_op op_sub (pe_k (v := .int (9223372036854775808)) (pe_op op_shl pe_int pe_int) k_shl) pe_int) k_sub) (pa_cons (pe_k (v := .int (-9223372036854775808)) (pe_op op_sub pe_int (pe_k (v := .int (9223372036854775808)) (pe_op op_shl pe_int pe_int) k_shl)) k_sub) (pa_cons (pe_k (v := .int (-1)) (pe_op op_sub pe_int pe_int) k_sub) (pa_cons (pe_k (v := .int (4611686018427387904)) (pe_op op_shl pe_int pe_int) k_shl) (pa_cons (pe_k (v := .int (3298534883328)) (pe_op op_shl pe_int pe_int) k_shl) (pa_cons (pe_k (v := .int (-8589934592)) (pe_op op_sub pe_int (pe_k (v := .int (8589934592)) (pe_op op_shl pe_int pe_int) k_shl)) k_sub) pa_nil))))))) pa_nil))))) pss_nil)
      (pss_cons (ps_set (i := 2) sc__law_great.nd rfl (Or.inl rfl) pe_int)
      (pss_cons (ps_for PassesOwn.never rfl (pi_range1 rfl T.n_range (pa_cons pe_int pa_nil)) (pg_name (i := 3) sc__law_great.nd rfl (Or.inl rfl)) (pss_one (ps_set (i := 2) sc__law_great.nd rfl (Or.inl rfl) (pe_op op_add (pe_op op_mul (pv 2) pe_int) (pc (kn__law_draw T) (hr.mono (by decide)) (pa_cons (pv 0) (pa_cons pe_int pa_nil)))))))
      (pss_one (ps_ret (pe_ifExp (pt_cmpR op_lt (pv 1) pe_int (nomark _)) (pe_op op_sub (pv 2) (pe_k (v := .int (9223372036854775808)) (pe_op op_shl pe_int pe_int) k_shl)) (pe_op op_sub (pe_op op_mod (pv 2) (pe_k (v := .int (9223372036854775808)) (pe_op op_shl pe_int pe_int) k_shl)) (pe_op op_and (pv 2) pe_int)))))))))), st_as (σ' := [some _, none, none, none]) rfl ?_⟩
    wtm_at "go"
    rename_i H1 d s1 w1 d0 d1
    refine ite2 (fun c => ?_) (fun c => ?_)
    · wtm_at "go"
      rename_i H2 e s2 w2 e0 e1
      exact k _ _ (s1.trans s2) w2 (by unfold I64; omega)
    · refine ite2 (fun c2 => ?_) (fun c2 => ?_)
      · wtm_at "go"
        rename_i l nl hl
        refine use__law_one (w1.same (same_new nl)) hl (fun z => ?_) (Nat.le_of_ble_eq_true rfl) (Nat.le_of_ble_eq_true rfl) fun H2 v s2 w2 hv => ?_
        · obtain ⟨x, y, z', hx⟩ := w1
          rw [z, hx] at nl
          cases nl
        · have hI : ∃ n, v = .int n ∧ I64 n := by
            simp only [List.mem_cons, List.not_mem_nil, or_false] at hv
            rcases hv with rfl | rfl | rfl | rfl | rfl | rfl <;> exact ⟨_, rfl, by decide, by decide⟩
          obtain ⟨n, rfl, hn⟩ := hI
          exact k _ _ (s1.trans ((Same.sa (same_new nl)).trans s2)) w2 hn
      · wtm_at "go"
        refine loopR1 (by decide) (fun i σ H' => ∃ (f : Int) (o : Option V), σ = [some (.ref a), some (.int d), some (.int f), o] ∧ Sa a H H' ∧ Well H' a ∧ 0 ≤ f ∧ f < 65536 ^ i) ⟨0, none, rfl, s1, w1, by decide, by decide⟩ (fun i σ H' hi I => ?_) (fun σ H' I => ?_)
        · obtain ⟨f, o, rfl, s2, w2, f0, f1⟩ := I
          wtm_at "go"
          rename_i H2 e s3 w3 e0 e1
          refine ⟨_, _, rfl, s2.trans s3, w3, by omega, ?_⟩
          rw [Int.pow_succ]
          generalize (65536 : Int) ^ i = p at f1 ⊢
          omega
        · obtain ⟨f, o, rfl, s2, w2, f0, f1⟩ := I
          have f2 : f < 18446744073709551616 := by
            have e : (65536 : Int) ^ (4 : Int).toNat = 18446744073709551616 := by decide
            rw [e] at f1
            exact f1
          wtm_at "go"
          refine ite2 (fun c3 => ?_) (fun c3 => ?_)
          · exact k _ _ s2 w2 (by unfold I64; omega)
          · rw [bitAnd_m1]
            exact k _ _ s2 w2 (by unfold I64; omega)
theorem use__law_great {H : Hp} {Q : VK} {E : XK} {a : Addr} (hw : Well H a) (k : ∀ H' n, Sa a H H' → Well H' a → I64 n → Q (.int n) H') : sp__law_great [.ref a] H Q E := ⟨a, rfl, hw, k⟩
local macro_rules | `(tactic| wtm_at "u1") => `(tactic| (with_reducible refine use__law_great (by assumption) ?_; intro H1 n1 s1 w1 i1))
def sp__law_wells (K : PySem.W.Frag) : Sp := fun vs H Q _ => ∃ (a : Addr) (ns : List Int), vs = [.ref a, .int 5] ∧ SqL K H a (ns.map V.int) ∧ ns.length ≤ 63 ∧ ∀ (ws : List Addr) H' L, Same H H' → H L = none → H' L = some (.lst (ws.map V.ref)) → (∀ r, r ∈ ws → Well H' r) → Q (.ref L) H'
theorem kn__law_wells (T : Tx K mg) : Kn P w K mg base 2 "_law_wells" ["script", "many"] (sp__law_wells K) := by
  obtain ⟨fd, F⟩ := T.d__law_wells
  refine kn_mk F T.g__law_wells sc__law_wells (fun _ _ _ _ _ _ us hl => match us, hl with | [_, _], _ => rfl) (fun vs H Q E h => ?_) (fun cdv A outer s H vs Q E hr h => ?_)
  · obtain ⟨a, ns, rfl, _⟩ := h
    rfl
  · obtain ⟨a, ns, rfl, hS, hlen, k⟩ := h
    refine ⟨_, (pss_one (ps_ret (pe_lc (own := [("cell", 2)]) (g := gName 2) (by rfl) sc__law_wells.nd (pi_listK K (pe_slice (sl_listK K) (pe_op op_cat (pe_callTy (call_listK K) (by rfl) T.n_list (by decide +kernel) (pa_cons (pv 0) pa_nil)) (pe_lst (pa_cons pe_int pa_nil))) po_none (po_some (pv 1)))) (blkOk_by (own := [("cell", 2)]) (N := ["script", "many", "cell"]) (sc := defScope s__law_wells) (by decide +kernel)) (fun _ _ _ _ _ => pg_name (i := 2) sc__law_wells.nd rfl (Or.inl rfl)) (fun _ _ _ _ _ => pts_nil) (fun _ _ _ _ _ => (pc (kn__law_well T) (hr.mono (by decide)) (pa_cons (pv 2) pa_nil)))))), st_as (σ' := [some _, some _, none]) rfl ?_⟩
    wtm_at "go"
    rename_i p1 n1 p2 n2 h2
    refine g_cat (same_new n2 _ _ upd_same) h2 (by rw [List.length_map]; exact Nat.le_trans (Nat.succ_le_succ hlen) (Nat.le_of_ble_eq_true rfl)) fun p3 n3 h3 => ?_
    refine g_slL (sql_of h3) fun p4 n4 => ?_
    obtain ⟨ms, em, hm⟩ : ∃ ms : List Int, cutV (ns.map V.int ++ [.int 0]) none (some 5) = ms.map V.int ∧ ms.length ≤ 64 := by
      refine ⟨((ns ++ [0]).drop (HT.sIx (ns.map V.int ++ [V.int 0]).length 0 none)).take (HT.sIx (ns.map V.int ++ [V.int 0]).length (ns.map V.int ++ [V.int 0]).length (some 5) - HT.sIx (ns.map V.int ++ [V.int 0]).length 0 none), ?_, ?_⟩
      · unfold cutV
        rw [List.map_take, List.map_drop, List.map_append]
        rfl
      · refine Nat.le_trans (List.length_take_le' ..) (Nat.le_trans (by rw [List.length_drop]; exact Nat.sub_le ..) ?_)
        rw [List.length_append]
        exact Nat.succ_le_succ hlen
    rw [em]
    have s1 : Same H (upd (upd (upd H p1 (.lst (ns.map V.int))) p2 (.lst [.int 0])) p3 (.lst (ns.map V.int ++ [.int 0]))) := ((same_new n1).trans (same_new n2)).trans (same_new n3)
    refine mk_lcL (ms.map V.int) (fun D i H' => ∃ ws : List Addr, ws.length = i ∧ H' D = some (.lst (ws.map V.ref)) ∧ Same H H' ∧ H D = none ∧ H' p4 = some (.lst (ms.map V.int)) ∧ ∀ r, r ∈ ws → Well H' r) (fun D hD => ⟨[], rfl, upd_same, ?_, ?_, same_new hD _ _ upd_same, fun r hr => by cases hr⟩) (fun D hD i H' hi I => ?_) (sql_of upd_same) (fun D hD i v H' hv I => ?_) (fun D hD H' I => ?_)
    · exact (s1.trans (same_new n4)).trans (same_new hD)
    · exact (s1.trans (same_new n4)).free hD
    · obtain ⟨ws, _, _, _, _, h4, _⟩ := I
      exact sql_of h4
    · obtain ⟨ws, hl, hd, s5, nd, h4, hws⟩ := I
      obtain ⟨c, rfl⟩ : ∃ c : Int, v = .int c := by
        rw [List.getElem?_map] at hv
        cases e : ms[i]? with
        | none => rw [e] at hv; cases hv
        | some c => rw [e] at hv; exact ⟨c, (Option.some.inj hv).symm⟩
      have hi : i < ms.length := by
        have := (List.getElem?_eq_some_iff.mp hv).1
        rw [List.length_map] at this
        exact this
      wtm_at "go"
      refine use__law_well fun H6 p6 s6 n6 w6 => ?_
      have hd6 := s6 _ _ hd
      have ne6 : p6 ≠ D := fun z => by rw [z, hd] at n6; cases n6
      refine ⟨ws.map V.ref, hd6, ?_, ws ++ [p6], ?_, ?_, ?_, nd, ?_, ?_⟩
      · rw [List.length_map, hl]
        exact Nat.lt_of_lt_of_le (Nat.lt_of_lt_of_le hi hm) (Nat.le_of_ble_eq_true rfl)
      · rw [List.length_append, hl]; rfl
      · rw [List.map_append]; exact upd_same
      · exact same_mut (s5.trans s6) nd
      · have ne4 : p4 ≠ D := fun z => by rw [z, upd_same] at hD; cases hD
        rw [upd_ne ne4]
        exact s6 _ _ h4
      · intro r hr
        have wr : Well H6 r ∧ r ≠ D := by
          rcases List.mem_append.mp hr with hr | hr
          · refine ⟨(hws r hr).same s6, fun z => ?_⟩
            obtain ⟨x, y, z', hx⟩ := hws r hr
            rw [z, hd] at hx
            have hx := HO.lst.inj (Option.some.inj hx)
            have : V.ref r ∈ ws.map V.ref := List.mem_map_of_mem hr
            rw [hx] at this
            simp at this
          · have e := List.mem_singleton.mp hr
            rw [e]
            exact ⟨w6, ne6⟩
        obtain ⟨⟨x, y, z, hx⟩, hne⟩ := wr
        exact ⟨x, y, z, by rw [upd_ne hne]; exact hx⟩
    · obtain ⟨ws, hl, hd, s5, nd, h4, hws⟩ := I
      exact k ws _ _ s5 nd hd hws
theorem use__law_wells {H : Hp} {Q : VK} {E : XK} {a : Addr} {ns : List Int} (hS : SqL K H a (ns.map V.int)) (hl : ns.length ≤ 63) (k : ∀ (ws : List Addr) H' L, Same H H' → H L = none → H' L = some (.lst (ws.map V.ref)) → (∀ r, r ∈ ws → Well H' r) → Q (.ref L) H') : sp__law_wells K [.ref a, .int 5] H Q E := ⟨a, ns, rfl, hS, hl, k⟩
end
end W41

set_option maxHeartbeats 4000000
namespace W41
open PySem PySem.Spec PyProof.Rows L2 WK Mt
/-! ### comprehensions over lists, told by what each element becomes -/
section
variable {K : PySem.W.Frag} {H : Hp} {Q : VK} {σ : Sg} {g : TG} {te : TE} {vs : List Nat} {a W : Addr}
theorem lcL_const {b : Bool} (xs : List V) (h : SqL K H a xs) (hl : xs.length < 16777216)
    (step : ∀ x H' (N : VK), x ∈ xs → Same H H' → (∀ H4, Same H' H4 → N (.bl b) H4) → g x (wipe σ vs) H' fun σ2 H2 => wipe σ2 vs = wipe σ vs ∧ te σ2 H2 N)
    (done : ∀ D H', Same H H' → H D = none → H' D = some (.lst ((List.replicate xs.length b).map V.bl)) → Q (.ref D) H') : LcL K g tYes te vs σ Q (.ref a) H := by
  refine mk_lcL xs (fun D i H' => Same H H' ∧ H' D = some (.lst ((List.replicate i b).map V.bl))) (fun D hD => ⟨same_new hD, upd_same⟩) (fun D hD i H' _ I => I.1.seq h) h (fun D hD i x H' hx I => ?_) (fun D hD H' I => done D H' I.1 hD I.2)
  obtain ⟨s1, h1⟩ := I
  have hi := (List.getElem?_eq_some_iff.mp hx).1
  simp only [x_yes, if_true]
  refine step x H' _ (List.mem_of_getElem? hx) s1 fun H4 s4 => ?_
  refine ⟨_, s4 _ _ h1, rep_len (by omega), same_mut (s1.trans s4) hD, ?_⟩
  rw [upd_same, rep_snoc]
theorem lcL_ints (P : Int → Prop) (xs : List V) (h : SqL K H a xs) (hl : xs.length < 16777216)
    (step : ∀ x H' (N : VK), x ∈ xs → Same H H' → (∀ H4 n, Same H' H4 → P n → N (.int n) H4) → g x (wipe σ vs) H' fun σ2 H2 => wipe σ2 vs = wipe σ vs ∧ te σ2 H2 N)
    (done : ∀ D H' (rs : List Int), Same H H' → H D = none → H' D = some (.lst (rs.map V.int)) → rs.length = xs.length → (∀ n, n ∈ rs → P n) → Q (.ref D) H') : LcL K g tYes te vs σ Q (.ref a) H := by
  refine mk_lcL xs (fun D i H' => Same H H' ∧ ∃ rs : List Int, H' D = some (.lst (rs.map V.int)) ∧ rs.length = i ∧ ∀ n, n ∈ rs → P n) (fun D hD => ⟨same_new hD, [], upd_same, rfl, fun n hn => by cases hn⟩) (fun D hD i H' _ I => I.1.seq h) h (fun D hD i x H' hx I => ?_) (fun D hD H' I => ?_)
  · obtain ⟨s1, rs, h1, l1, p1⟩ := I
    have hi := (List.getElem?_eq_some_iff.mp hx).1
    simp only [x_yes, if_true]
    refine step x H' _ (List.mem_of_getElem? hx) s1 fun H4 n s4 pn => ?_
    refine ⟨_, s4 _ _ h1, ?_, same_mut (s1.trans s4) hD, rs ++ [n], ?_, ?_, ?_⟩
    · rw [List.length_map, l1]
      exact Nat.lt_of_lt_of_le (Nat.lt_trans hi hl) (by decide)
    · rw [upd_same, List.map_append]; rfl
    · rw [List.length_append, l1]; rfl
    · intro m hm
      rcases List.mem_append.mp hm with q | q
      · exact p1 m q
      · rw [List.mem_singleton.mp q]; exact pn
  · obtain ⟨s1, rs, h1, l1, p1⟩ := I
    exact done D H' rs s1 hD h1 l1 p1
theorem lcR1_draws (P : Int → Prop) {n : Int} (hn : 0 ≤ n ∧ n < 16777216) (hW : Well H W)
    (step : ∀ i H' (N : VK), Sa W H H' → Well H' W → (∀ H4 m, Sa W H' H4 → Well H4 W → P m → N (.int m) H4) → g (.int i) (wipe σ vs) H' fun σ2 H2 => wipe σ2 vs = wipe σ vs ∧ te σ2 H2 N)
    (done : ∀ D H' (rs : List Int), Sa W H H' → Well H' W → D ≠ W → H D = none → H' D = some (.lst (rs.map V.int)) → (rs.length : Int) = n → (∀ m, m ∈ rs → P m) → Q (.ref D) H') : LcR1 g tYes te vs σ Q [.int n] H := by
  have ne : ∀ D, H D = none → D ≠ W := fun D hD z => by
    obtain ⟨x, y, z', hx⟩ := hW
    rw [z, hx] at hD
    cases hD
  refine mk_lcR1 ⟨by omega, by omega⟩ (fun D i H' => Sa W H H' ∧ Well H' W ∧ ∃ rs : List Int, H' D = some (.lst (rs.map V.int)) ∧ rs.length = i ∧ ∀ n, n ∈ rs → P n) (fun D hD => ⟨Same.sa (same_new hD), hW.same (same_new hD), [], upd_same, rfl, fun n hn => by cases hn⟩) (fun D hD i H' hi I => ?_) (fun D hD H' I => ?_)
  · obtain ⟨s1, w1, rs, h1, l1, p1⟩ := I
    simp only [x_yes, if_true]
    refine step i H' _ s1 w1 fun H4 m s4 w4 pm => ?_
    have h4 := s4 _ _ h1 (ne D hD)
    have s5 : Sa W H (upd H4 D (.lst (rs.map V.int ++ [.int m]))) := fun b o hb nb => by
      by_cases e : b = D
      · rw [e, hD] at hb; cases hb
      · rw [upd_ne e]; exact s4 b o (s1 b o hb nb) nb
    refine ⟨_, h4, ?_, s5, ?_, rs ++ [m], ?_, ?_, ?_⟩
    · rw [List.length_map, l1]
      exact Nat.lt_of_lt_of_le (show i < 16777216 by omega) (by decide)
    · obtain ⟨x, y, z, hx⟩ := w4
      exact ⟨x, y, z, by rw [upd_ne (fun e => ne D hD e.symm)]; exact hx⟩
    · rw [upd_same, List.map_append]; rfl
    · rw [List.length_append, l1]; rfl
    · intro k hk
      rcases List.mem_append.mp hk with q | q
      · exact p1 k q
      · rw [List.mem_singleton.mp q]; exact pm
  · obtain ⟨s1, w1, rs, h1, l1, p1⟩ := I
    exact done D H' rs s1 w1 (ne D hD) hD h1 (by omega) p1
theorem g_neB {b : Bool} {c d : Bool} (h : (c != d) = b) (k : Q (.bl b) H) : rNe (.bl c) (.bl d) H Q := ⟨rfl, by
  have e : (!decide (V.bl c = V.bl d)) = b := by
    rw [← h]
    cases c <;> cases d <;> simp
  rw [e]; exact k⟩
theorem g_eqB {b : Bool} {c d : Bool} (h : (c == d) = b) (k : Q (.bl b) H) : rEq (.bl c) (.bl d) H Q := ⟨rfl, by
  have e : decide (V.bl c = V.bl d) = b := by
    rw [← h]
    cases c <;> cases d <;> simp
  rw [e]; exact k⟩
theorem g_anyF {p : Addr} (n : Nat) (h : H p = some (.lst ((List.replicate n false).map V.bl))) (k : Q (.bl false) H) : rAny K [.ref p] H Q := ⟨p, List.replicate n false, rfl, .inl (.inl h), by
  have e : (List.replicate n false).any id = false := by rw [List.any_eq_false]; intro x hx; rw [(List.mem_replicate.mp hx).2]; exact Bool.false_ne_true
  rw [e]; exact k⟩
end
end W41

set_option maxHeartbeats 4000000
namespace W41
open PySem PySem.Spec PyProof.Rows L2 WK Mt
local macro_rules | `(tactic| wtm_at "hp") => `(tactic| first
  | with_reducible assumption
  | with_reducible exact upd_same
  | with_reducible exact sqt_of upd_same
  | with_reducible exact sql_of upd_same
  | with_reducible exact sqt_s1 (by assumption) (by wtm_at "sm")
  | with_reducible exact sqt_s2 (by assumption) (by wtm_at "sm")
  | with_reducible exact sqt_all (by assumption)
  | with_reducible exact sql_s1 (by assumption) (by wtm_at "sm")
  | with_reducible exact sql_s2 (by assumption) (by wtm_at "sm")
  | with_reducible exact at_s1 (by assumption) (by wtm_at "sm"))
local macro_rules | `(tactic| wtm_at "sd") => `(tactic| first
  | exact Or.inl ⟨by omega, by omega⟩
  | exact Or.inr ⟨by omega, by omega⟩
  | exact ⟨by omega, by decide⟩
  | exact cdw_of (by omega) (by omega)
  | exact cpow_of (by omega) (by omega) (by omega)
  | (dsimp only; omega)
  | (show (0 : Int) < _; omega)
  | (show (0 : Int) ≤ _; omega))
local macro_rules | `(tactic| wtm_at "sx") => `(tactic| simp only [x_seq, x_next, x_brk, x_cont, x_never, x_drop, x_asg, x_name, x_sub, x_ret, x_retN, x_ifS, x_parD, x_par3D, x_c, x_op, x_un, x_test, x_tB, x_yes, x_not, x_and, x_or, x_andV, x_orV, x_notV, x_ifE, x_chain, x_nil, x_cons, x_tupD, x_lstD, x_call, x_callX, x_cb, x_forR1, x_forR2, x_forL, x_forT, x_bits, x_part, x_nopart, x_sl, x_bm0, x_bm, x_lcL, x_lcT, x_lcR1, x_aug, x_ipI, x_ib, x_bi, x_onelB, x_two, x_onel, x_disp, x_pairs0, x_pairsS, x_dget2,
  x_var0, x_var1, x_var2, x_var3, x_var4, x_var5, x_var6, x_var7, x_var8, x_var9, x_var10, x_var11, x_var12, x_var13, x_var14, x_var15, List.set_cons_zero, x_set1, x_set2, x_set3, x_set4, x_set5, x_set6, x_set7, x_set8, x_set9, x_set10, x_set11, x_set12, x_set13, x_set14, x_set15, x_i0, x_iC, x_uI, x_bl, x_eqI, x_neI, x_eqS, x_neS, x_par, x_par3, x_gnil, x_gcons, x_one, x_rt, x_nx, x_bk, x_ct, cx_K, cx_K1, List.append_nil, List.cons_append, List.nil_append, if_true, if_false, ite_not, decide_true, decide_false, Bool.not_true, Bool.not_false, Bool.false_eq_true, decide_eq_true_eq, Bool.not_eq_true', Bool.not_eq_false', decide_eq_false_iff_not, true_and, and_true, reduceCtorEq, Int.reduceLT, Int.reduceLE, Int.reduceToNat, false_and, exists_false, or_false, false_or, wipe, List.map_cons, List.map_nil])
local macro_rules | `(tactic| wtm_at "g1") => `(tactic| first
  | with_reducible refine g_i0 ?_
  | with_reducible refine g_iC (by k_dflt (wtm_at "sd")) ?_
  | with_reducible refine g_ixT (by wtm_at "hp") rfl ?_
  | with_reducible refine g_pY (by k_dflt (wtm_at "cd")) ?_
  | with_reducible refine g_pX (by k_dflt (wtm_at "cd")) ?_
  | with_reducible refine g_size (by k_dflt exact (Nat.le_of_ble_eq_true rfl)) ?_
  | with_reducible refine isi_ii ?_
  | with_reducible refine isi_ib ?_
  | with_reducible refine isi_ss ?_
  | with_reducible refine isi_tt (by wtm_at "hp") ?_
  | with_reducible refine isi_bb ?_
  | with_reducible refine isi_is ?_
  | with_reducible refine g_inT (bb := true) (by wtm_at "hp") rfl rfl (by decide +kernel) ?_
  | with_reducible refine g_inT (bb := false) (by wtm_at "hp") rfl rfl (by decide +kernel) ?_
  | with_reducible refine g_notInT (bb := true) (by wtm_at "hp") rfl rfl (by decide +kernel) ?_
  | with_reducible refine g_notInT (bb := false) (by wtm_at "hp") rfl rfl (by decide +kernel) ?_
  | with_reducible refine g_ixL (by wtm_at "hp") rfl ?_
  | with_reducible refine g_tup (by wtm_at "hp") rfl ?_
  | with_reducible refine g_bl ?_
  | with_reducible refine g_eqI ?_
  | with_reducible refine g_neI ?_
  | with_reducible refine g_lenT (by wtm_at "hp") ?_
  | with_reducible refine g_lenL (by wtm_at "hp") ?_
  | with_reducible refine g_tl4 (by wtm_at "hp") ?_
  | with_reducible refine g_tl3 (by wtm_at "hp") ?_
  | with_reducible refine g_slL (by wtm_at "hp") ?_
  | with_reducible refine g_listL (by wtm_at "hp") ?_
  | with_reducible refine g_setL (by wtm_at "hp") rfl ?_
  | (with_reducible refine g_newT ?_; intro p np hp)
  | (with_reducible refine g_newL ?_; intro p np hp)
  | (with_reducible refine g_all ?_; intro p np)
  | with_reducible refine ⟨by k_dflt (wtm_at "sd"), ?_⟩
  | wtm_at "u1")
local macro_rules | `(tactic| wtm_at "cd") => `(tactic| first | omega | decide +kernel)
local macro_rules | `(tactic| wtm_at "go") => `(tactic| ((try wtm_at "sx"); repeat (wtm_at "g1"; try wtm_at "sx")))
local macro_rules | `(tactic| wtm_at "sm") => `(tactic| first
  | with_reducible assumption
  | with_reducible exact Same.refl _
  | with_reducible exact same_new (by assumption)
  | (with_reducible refine Same.trans ?_ (same_new (by assumption)); wtm_at "sm")
  | (with_reducible refine same_mut ?_ (by wtm_at "fr"); wtm_at "sm")
  | (with_reducible refine Same.trans ?_ (by assumption); wtm_at "sm"))
local macro_rules | `(tactic| wtm_at "fr") => `(tactic| first
  | with_reducible assumption
  | with_reducible exact free2 (by assumption) (by wtm_at "sm"))

local macro_rules | `(tactic| wtm_at "u1") => `(tactic| (with_reducible refine use_wrapped ?_; intro H1 s1))
local macro_rules | `(tactic| wtm_at "u1") => `(tactic| (with_reducible refine isi_own (ty_int _) (by assumption) ?_))
local macro_rules | `(tactic| wtm_at "u1") => `(tactic| (with_reducible refine use_is_whole_number (by k_dflt (wtm_at "i64")) ?_; intro H1 s1))
local macro_rules | `(tactic| wtm_at "i64") => `(tactic| first | assumption | exact wrap_I64 _ | (unfold I64; omega))
local macro_rules | `(tactic| wtm_at "u1") => `(tactic| (with_reducible refine use_arith (by k_dflt (wtm_at "i64")) (by k_dflt (wtm_at "i64")) (by k_dflt first | exact Or.inl ⟨rfl, rfl⟩ | exact Or.inr ⟨rfl, rfl⟩) ?_; intro H1 s1))
local macro_rules | `(tactic| wtm_at "u1") => `(tactic| (with_reducible refine use_check_equation (by k_dflt (wtm_at "i64")) (by k_dflt (wtm_at "i64")) (by decide +kernel) ?_; intro H1 s1))
local macro_rules | `(tactic| wtm_at "u1") => `(tactic| (with_reducible refine use_bits_told ?_; intro H1 p1 s1 n1 h1))
local macro_rules | `(tactic| wtm_at "u1") => `(tactic| (with_reducible refine use_check_map (by k_dflt (wtm_at "i64")) (by k_dflt (wtm_at "i64")) (by k_dflt (wtm_at "i64")) ?_; intro H1 s1))
local macro_rules | `(tactic| wtm_at "u1") => `(tactic| (with_reducible refine use_led (by wtm_at "hp") (by assumption) ?_; intro H1 s1))
local macro_rules | `(tactic| wtm_at "u1") => `(tactic| (with_reducible refine use_behind (by wtm_at "hp") (by wtm_at "hp") (by assumption) (by assumption) ?_; intro H1 p1 s1 n1 h1))
local macro_rules | `(tactic| wtm_at "u1") => `(tactic| (with_reducible refine use_how_many_solve (by first | assumption | exact TdAt.same (by wtm_at "sm") (by assumption)) (by assumption) ?_; intro H1 s1))
local macro_rules | `(tactic| wtm_at "u1") => `(tactic| (with_reducible refine use__law_draw (by assumption) (by k_dflt omega) (by k_dflt omega) ?_; intro H1 d1 s1 w1 d0 dm))
local macro_rules | `(tactic| wtm_at "u1") => `(tactic| (with_reducible refine use__law_wrap ?_; intro H1 s1))
local macro_rules | `(tactic| wtm_at "u1") => `(tactic| (with_reducible refine use__law_great (by assumption) ?_; intro H1 n1 s1 w1 i1))
/-! ### the mathematics at the join -/
theorem row_cnt {o r f s m f' s' m' : Int} (R : Row o r f s m) (R' : Row o r f' s' m') : m = m' := by
  have key : ∀ {f s m f' s' m' : Int}, Row o r f s m → Row o r f' s' m' → f' ≤ f ∧ (f + s * (m - 1) ≤ f' + s' * (m' - 1)) ∧ (2 ≤ m → f' = f → 2 ≤ m' ∧ s' ≤ s) := by
    intro f s m f' s' m' R R'
    have s1 := R.s1
    have s1' := R'.s1
    have m1 := R.m1
    have m1' := R'.m1
    have tp := R.top
    have i1 := R.i1
    have nn : 0 ≤ s * (m - 1) := Int.mul_nonneg (by omega) (by omega)
    have mem : ∀ k, 0 ≤ k → k < m → ∃ k', 0 ≤ k' ∧ k' < m' ∧ f + s * k = f' + s' * k' := by
      intro k k0 k1
      have l1 : 0 ≤ s * k := Int.mul_nonneg (by omega) k0
      have l2 : s * k ≤ s * (m - 1) := Int.mul_le_mul_of_nonneg_left (by omega) (by omega)
      have hI : I64 (f + s * k) := by unfold I64 at i1 ⊢; omega
      exact (R'.iff _ hI).mp ((R.iff _ hI).mpr ⟨k, k0, k1, rfl⟩)
    refine ⟨?_, ?_, ?_⟩
    · obtain ⟨k', k0, k1, e⟩ := mem 0 (by omega) (by omega)
      have := Int.mul_nonneg (show 0 ≤ s' by omega) k0
      rw [Int.mul_zero] at e
      omega
    · obtain ⟨k', k0, k1, e⟩ := mem (m - 1) (by omega) (by omega)
      have := Int.mul_le_mul_of_nonneg_left (show k' ≤ m' - 1 by omega) (show 0 ≤ s' by omega)
      omega
    · intro h2 ef
      obtain ⟨k', k0, k1, e⟩ := mem 1 (by omega) (by omega)
      rw [Int.mul_one] at e
      have kp : 1 ≤ k' := by
        by_cases z : k' = 0
        · rw [z, Int.mul_zero] at e; omega
        · omega
      have := Int.mul_le_mul_of_nonneg_left kp (show 0 ≤ s' by omega)
      exact ⟨by omega, by omega⟩
  obtain ⟨a1, a2, a3⟩ := key R R'
  obtain ⟨b1, b2, b3⟩ := key R' R
  have ef : f = f' := by omega
  have m1 := R.m1
  have m1' := R'.m1
  have s1 := R.s1
  by_cases h : 2 ≤ m
  · obtain ⟨c1, c2⟩ := a3 h ef.symm
    obtain ⟨_, c3⟩ := b3 c1 ef
    have es : s = s' := by omega
    rw [← es, ← ef] at a2 b2
    have e : s * (m - 1) = s * (m' - 1) := by omega
    have := Int.eq_of_mul_eq_mul_left (show s ≠ 0 by omega) e
    omega
  · by_cases h' : 2 ≤ m'
    · have := (b3 h' ef).1
      omega
    · omega
theorem sol_cnt {o r : Int} {d d' : Td} (h : Sol o r d) (h' : Sol o r d') : cnt d = cnt d' := by
  have nr : ∀ {f s m : Int}, Row o r f s m → ∃ x, Cg M64 (x * o) r := fun R => ⟨_, (R.iff _ R.i1).mpr ⟨0, by omega, by have := R.m1; omega, by rw [Int.mul_zero, Int.add_zero]⟩⟩
  have rb : ∀ {f s m : Int}, Row o r f s m → o = 0 → r = 0 → False := fun {f s m} R eo er => by
    have q : ∀ x, I64 x → ∃ k, 0 ≤ k ∧ k < m ∧ x = f + s * k := fun x hx => (R.iff x hx).mp (by rw [eo, er, Int.mul_zero]; exact Cg.refl _ _)
    have s1 := R.s1
    have m2 := R.m2
    have i1 := R.i1
    obtain ⟨k0, a0, a1, e0⟩ := q (-9223372036854775808) ⟨by decide, by decide⟩
    obtain ⟨k1, b0, b1, e1⟩ := q (-9223372036854775807) ⟨by decide, by decide⟩
    obtain ⟨k2, c0, c1, e2⟩ := q 9223372036854775807 ⟨by decide, by decide⟩
    have n0 := Int.mul_nonneg (show 0 ≤ s by omega) a0
    have ef : f = -9223372036854775808 := by unfold I64 at i1; omega
    have k1p : 1 ≤ k1 := by
      by_cases z : k1 = 0
      · rw [z, Int.mul_zero] at e1; omega
      · omega
    have := Int.mul_le_mul_of_nonneg_left k1p (show 0 ≤ s by omega)
    have es : s = 1 := by omega
    rw [es, Int.one_mul] at e2
    omega
  cases d with
  | non =>
    cases d' with
    | non => rfl
    | row f s m => obtain ⟨x, hx⟩ := nr h'.1; exact absurd hx (h x)
    | bits x y =>
      obtain ⟨_, _, rfl, rfl⟩ := h'
      exact absurd (Cg.refl M64 (0 * 0)) (h 0)
  | row f s m =>
    cases d' with
    | non => obtain ⟨x, hx⟩ := nr h.1; exact absurd hx (h' x)
    | row f' s' m' => exact row_cnt h.1 h'.1
    | bits x y => exact (rb h.1 h'.2.2.1 h'.2.2.2).elim
  | bits x y =>
    cases d' with
    | non =>
      obtain ⟨_, _, rfl, rfl⟩ := h
      exact absurd (Cg.refl M64 (0 * 0)) (h' 0)
    | row f s m => exact (rb h'.1 h.2.2.1 h.2.2.2).elim
    | bits x' y' => rfl
theorem sol_at {d : Td} {n : Int} (hw : Wf d) (h0 : 0 ≤ n) (h1 : n < cnt d) : I64 (solAt d n) ∧ Tells d (solAt d n) := by
  cases d with
  | non =>
    have : n < 0 := h1
    omega
  | row f s m =>
    obtain ⟨i1, s1, s2, m1, m2, tp⟩ := hw
    have h1 : n < m := h1
    have l1 := Int.mul_nonneg (show 0 ≤ s by omega) h0
    have l2 := Int.mul_le_mul_of_nonneg_left (show n ≤ m - 1 by omega) (show 0 ≤ s by omega)
    show I64 (f + s * n) ∧ (f ≤ f + s * n ∧ f + s * n ≤ f + s * (m - 1) ∧ (f + s * n - f) % s = 0)
    refine ⟨by unfold I64 at i1 ⊢; omega, by omega, by omega, ?_⟩
    rw [show f + s * n - f = s * n by omega]
    exact Int.mul_emod_right s n
  | bits x y => exact ⟨wrap_I64 _, trivial⟩
theorem rest_iff {a b n : Int} : Cg M64 (n * wrap (a - 1)) (wrap (0 - b)) ↔ Cg M64 (Mt.It a b 1 n) n := by
  have e1 : Cg M64 (n * wrap (a - 1)) (n * (a - 1)) := (Cg.refl _ _).mul (wrap_cg _)
  have e2 : Cg M64 (wrap (0 - b)) (0 - b) := wrap_cg _
  have i1 : Mt.It a b 1 n = a * n + b := rfl
  rw [i1]
  constructor
  · intro h
    have q : Cg M64 (n * (a - 1)) (0 - b) := (e1.symm.trans h).trans e2
    obtain ⟨c, hc⟩ := q
    exact ⟨c, by rw [← hc]; grind⟩
  · intro h
    refine (e1.trans ?_).trans e2.symm
    obtain ⟨c, hc⟩ := h
    exact ⟨c, by rw [← hc]; grind⟩
theorem ahead_iff {a b x y : Int} : Cg M64 (x * a) (wrap (y - b)) ↔ Cg M64 (Mt.It a b 1 x) y := by
  have e2 : Cg M64 (wrap (y - b)) (y - b) := wrap_cg _
  have i1 : Mt.It a b 1 x = a * x + b := rfl
  rw [i1]
  constructor
  · intro h
    obtain ⟨c, hc⟩ := h.trans e2
    exact ⟨c, by rw [← hc]; grind⟩
  · intro h
    refine Cg.trans ?_ e2.symm
    obtain ⟨c, hc⟩ := h
    exact ⟨c, by rw [← hc]; grind⟩
theorem rest_all {a b n : Int} (h : Cg M64 (Mt.It a b 1 n) n) (k : Nat) : Cg M64 (Mt.It a b k n) n := by
  have := per_mul (n := 1) h k
  rw [Nat.one_mul] at this
  exact this
theorem tr_rest {a b n t r : Int} (h : Cg M64 (Mt.It a b 1 n) n) (p : TR a b n t r) : t = 0 ∧ r = 1 := by
  rcases p with ⟨_, rfl, T, rfl, hT, lT⟩ | ⟨_, rfl, j, rfl, hj, lj⟩
  · refine ⟨?_, rfl⟩
    by_cases z : 0 < T
    · exact absurd h (lT 0 z)
    · omega
  · refine ⟨rfl, ?_⟩
    by_cases z : 0 < j
    · exact absurd h (lj 0 z)
    · have : j = 0 := by omega
      rw [this]; rfl
theorem rt_rest {a b n y : Int} {o : Option Nat} (h : Cg M64 (Mt.It a b 1 n) n) (hy : ¬ Cg M64 n y) (p : RT a b n y o) : o = none := by
  cases o with
  | none => rfl
  | some c => exact absurd ((rest_all h c).symm.trans p.1) hy
theorem rt_one {a b x y : Int} {o : Option Nat} (hx : I64 x) (hy : I64 y) (h : Cg M64 (Mt.It a b 1 x) y) (p : RT a b x y o) : o = some (if x = y then 0 else 1) := by
  obtain ⟨c, rfl, l, e⟩ := rt_some p h
  by_cases z : x = y
  · rw [if_pos z]
    by_cases q : 0 < c
    · exact absurd (by rw [z]; exact Cg.refl _ _) (p.2 0 q)
    · rw [show c = 0 by omega]
  · rw [if_neg z]
    by_cases q : c = 0
    · rw [q] at e
      exact absurd (cg_I64 hx hy e) z
    · rw [show c = 1 by omega]
theorem inv_is {a : Int} (ha : a % 2 = 1) : ∃ x, Cg M64 (x * a) 1 := by
  have h := It_pow (b := 0) ha 64 1
  rw [It_lin, ← M_eq] at h
  have z : ∀ n, Mt.It a 0 n 0 = 0 := by
    intro n
    induction n with
    | zero => rfl
    | succ n ih =>
      rw [It_add a 0 n 1, ih]
      show a * 0 + 0 = 0
      rw [Int.mul_zero, Int.add_zero]
  rw [z] at h
  refine ⟨a ^ (2 ^ 64 - 1), ?_⟩
  have e : a ^ (2 ^ 64 - 1) * a = a ^ (2 ^ 64) * 1 + 0 := by
    rw [← Int.pow_succ, Int.mul_one, Int.add_zero]
  rw [e]
  exact h
theorem sol_odd1 {a r : Int} {d : Td} (ha : a % 2 = 1) (h : Sol a r d) : cnt d = 1 := by
  cases d with
  | non =>
    obtain ⟨x, hx⟩ := inv_is ha
    refine absurd ?_ (h (r * x))
    rw [Int.mul_assoc]
    have q := (Cg.refl M64 r).mul hx
    rw [Int.mul_one] at q
    exact q
  | row f s m => exact h.2 ha
  | bits x y =>
    have := h.2.2.1
    omega
theorem step_ne {n : Int} : ¬ Cg M64 n (wrap (n + 1)) := fun h => by
  obtain ⟨c, hc⟩ := h.trans (wrap_cg _)
  have e : (18446744073709551616 : Int) * c = n - (n + 1) := hc.symm
  omega
section
variable {P : Program} {w : World} {K : PySem.W.Frag} {mg : Str → Option Value} {base : Heap}
theorem TdAt.sa {H H' : Hp} {v : V} {d : Td} {W : Addr} (hW : Well H W) (s : Sa W H H') (h : TdAt K H v d) : TdAt K H' v d := by
  have key : ∀ {p : Addr} {xs : List V}, SqT K H p xs → SqT K H' p xs := by
    intro p xs hp
    rcases hp with (hp | ⟨o, hp⟩) | hp
    · refine .inl (.inl (s _ _ hp fun z => ?_))
      obtain ⟨x, y, z', hx⟩ := hW
      rw [z, hx] at hp
      cases hp
    · refine .inl (.inr ⟨o, s _ _ hp fun z => ?_⟩)
      obtain ⟨x, y, z', hx⟩ := hW
      rw [z, hx] at hp
      cases hp
    · exact .inr hp
  cases d with
  | non => exact h
  | row f s0 m => obtain ⟨p, e, h⟩ := h; exact ⟨p, e, key h⟩
  | bits x y => obtain ⟨p, e, h⟩ := h; exact ⟨p, e, key h⟩
theorem g_ne2 {H : Hp} {Q : VK} {p q : Addr} {a b c d : Int} (hp : SqT K H p [.int a, .int b]) (hq : SqT K H q [.int c, .int d]) (k : Q (.bl (!(decide (a = c) && decide (b = d)))) H) : rNeD K (.ref p) (.ref q) H Q :=
  g_neD (dp_tup hp (.cons (.int _) (.cons (.int _) .nil))) (dp_tup hq (.cons (.int _) (.cons (.int _) .nil))) (sh_of (cl_tup (cl_cons cl_int (cl_cons cl_int cl_nil))) (by simp only [PyData.depth, PyData.depthAll]; omega)) (sh_of (cl_tup (cl_cons cl_int (cl_cons cl_int cl_nil))) (by simp only [PyData.depth, PyData.depthAll]; omega)) (by simp only [PyData.eqv, PyData.eqvAll, Bool.and_true, Bool.beq_eq_decide_eq]) k
theorem sa_free {H H' : Hp} {W D : Addr} (s : Sa W H H') (w : Well H' W) (h : H' D = none) : H D = none := by
  cases e : H D with
  | none => rfl
  | some o =>
    have ne : D ≠ W := fun z => by
      obtain ⟨x, y, z', hx⟩ := w
      rw [z, hx] at h
      cases h
    rw [s D o e ne] at h
    cases h
theorem well_ne {H : Hp} {W D : Addr} (w : Well H W) (h : H D = none) : D ≠ W := fun z => by
  obtain ⟨x, y, z', hx⟩ := w
  rw [z, hx] at h
  cases h
theorem int_of {v : V} {rs : List Int} (h : v ∈ rs.map V.int) : ∃ n, v = .int n ∧ n ∈ rs := by
  obtain ⟨n, hn, e⟩ := List.mem_map.mp h
  exact ⟨n, e.symm, hn⟩
theorem cnt_le {d : Td} (h : Wf d) : cnt d ≤ 18446744073709551616 := by
  cases d with
  | non => decide
  | row f s m => exact h.2.2.2.2.1
  | bits x y => exact Int.le_refl _
theorem tail2 {c A B : Prop} {dc : Decidable c} (h1 : B → c → A) (h : B) : @ite Prop c dc A B := ite2 (h1 h) fun _ => h
theorem wells_sa {ws : List Addr} {L W : Addr} {H H' : Hp} (hL : H L = some (.lst (ws.map V.ref))) (hW : ∀ r, r ∈ ws → Well H r) (hm : W ∈ ws) (s : Sa W H H') (w : Well H' W) : H' L = some (.lst (ws.map V.ref)) ∧ ∀ r, r ∈ ws → Well H' r := by
  constructor
  · refine s _ _ hL fun z => ?_
    obtain ⟨x, y, z', hx⟩ := hW W hm
    rw [z, hx] at hL
    have hL := HO.lst.inj (Option.some.inj hL)
    have : V.ref W ∈ ws.map V.ref := List.mem_map_of_mem hm
    rw [← hL] at this
    simp at this
  · intro r hr
    by_cases e : r = W
    · rw [e]; exact w
    · obtain ⟨x, y, z, hx⟩ := hW r hr
      exact ⟨x, y, z, s _ _ hx e⟩
theorem fn_mk {x qual : Str} {params : Arguments} {body : List Stmt} {scope : Scope} {f : Addr} {fd : FuncData} {N ps : List Str} {k : Nat} {sp : Sp} (F : FunD K x qual params body scope [] [] f fd) (S : FnScope N ps scope)
    (len : ∀ vs H Q E, sp vs H Q E → vs.length = ps.length)
    (hbody : ∀ (cdv : Value) (A : Around) (outer : List Env) (s : Shared) (H : Hp) (vs : List V) (Q : VK) (E : XK), Room k (A.deeper (envOfC qual scope s.heap.objs.size f cdv)) → sp vs H Q E →
      ∃ t, PSs (cxOf CX0 P w K mg base N qual scope f cdv A outer s H E).nox body t ∧ t { nx := fun _ H' => Q .non H', rt := Q } (start N vs) H) : FnOk P w K mg base CX0 (k + 1) f fd ps sp :=
  F.ok S len fun cdv A outer s H vs Q E hr h => by
    obtain ⟨t, ht, q⟩ := hbody cdv A outer s H vs Q E hr h
    exact ⟨t, ht.nox, q⟩
theorem use_after_roundsZ {H : Hp} {Q : VK} {E : XK} {a b x c : Int} (ha : I64 a) (hb : I64 b) (hx : I64 x) (hc : 0 ≤ c) (k : Ret (.int (wrap (Mt.It a b c.toNat x))) H Q) : sp_after_rounds [.int a, .int b, .int x, .int c] H Q E := ⟨a, b, x, c.toNat, by rw [Int.toNat_of_nonneg hc], ha, hb, hx, k⟩
local macro_rules | `(tactic| wtm_at "u1") => `(tactic| (with_reducible refine use_after_roundsZ (by k_dflt (wtm_at "i64")) (by k_dflt (wtm_at "i64")) (by k_dflt (wtm_at "i64")) (by k_dflt omega) ?_; intro H1 s1))
local macro_rules | `(tactic| wtm_at "u1") => `(tactic| with_reducible refine g_ne2 (by wtm_at "hp") (by wtm_at "hp") ?_)
local macro_rules | `(tactic| wtm_at "u1") => `(tactic| (with_reducible refine use_tail_and_ring (by k_dflt (wtm_at "i64")) (by k_dflt (wtm_at "i64")) (by k_dflt (wtm_at "i64")) ?_; intro t1 r1 tr1 H1 p1 s1 n1 h1))
local macro_rules | `(tactic| wtm_at "u1") => `(tactic| (with_reducible refine use_rounds_to (by k_dflt (wtm_at "i64")) (by k_dflt (wtm_at "i64")) (by k_dflt (wtm_at "i64")) (by k_dflt (wtm_at "i64")) ?_; intro o1 rt1 H1 s1))
def sp__law_factor : Sp := fun vs H Q _ => ∃ a : Addr, vs = [.ref a] ∧ Well H a ∧ ∀ H' n, Sa a H H' → Well H' a → I64 n → Q (.int n) H'
theorem kn__law_factor (T : Tx K mg) : Kn P w K mg base 4 "_law_factor" ["well"] (sp__law_factor) := by
  obtain ⟨fd, F⟩ := T.d__law_factor
  refine kn_mk F T.g__law_factor sc__law_factor (fun _ _ _ _ _ _ us hl => match us, hl with | [_], _ => rfl) (fun vs H Q E h => ?_) (fun cdv A outer s H vs Q E hr h => ?_)
  · obtain ⟨a, rfl, _⟩ := h
    rfl
  · obtain ⟨a, rfl, hw, k⟩ := h
    refine ⟨_, (pss_one (ps_ret (pc (kn__law_one T) (hr.mono (by decide)) (pa_cons (pv 0) (pa_cons (pe_lst (pa_cons (pc (kn__law_great T) (hr.mono (by decide)) (pa_cons (pv 0) pa_nil)) (pa_cons (pc (kn__law_draw T) (hr.mono (by decide)) (pa_cons (pv 0) (pa_cons pe_int pa_nil))) (pa_cons (pe_op op_sub pe_int (pc (kn__law_draw T) (hr.mono (by decide)) (pa_cons (pv 0) (pa_cons pe_int pa_nil)))) (pa_cons pe_int (pa_cons pe_int (pa_cons (pe_k (v := .int (1099511627776)) (pe_op op_shl pe_int pe_int) k_shl) (pa_cons (pe_k (v := .int (-9223372036854775808)) (pe_op op_sub pe_int (pe_k (v := .int (9223372036854775808)) (pe_op op_shl pe_int pe_int) k_shl)) k_sub) pa_nil)))))))) pa_nil))))), st_as (σ' := [some _]) rfl ?_⟩
    wtm_at "go"
    rename_i H1 n1 s1 w1 i1 H2 d2 s2 w2 d20 d21 H3 d3 s3 w3 d30 d31 l nl hl
    refine use__law_one (w3.same (same_new nl)) hl (fun z => ?_) (Nat.le_of_ble_eq_true rfl) (Nat.le_of_ble_eq_true rfl) fun H4 v s4 w4 hv => ?_
    · obtain ⟨x, y, z', hx⟩ := w3
      rw [z, hx] at nl
      cases nl
    · have hI : ∃ n, v = .int n ∧ I64 n := by
        simp only [List.mem_cons, List.not_mem_nil, or_false] at hv
        rcases hv with rfl | rfl | rfl | rfl | rfl | rfl | rfl
        · exact ⟨_, rfl, i1⟩
        · exact ⟨_, rfl, by unfold I64; omega⟩
        · exact ⟨_, rfl, by unfold I64; omega⟩
        all_goals exact ⟨_, rfl, by decide, by decide⟩
      obtain ⟨n, rfl, hn⟩ := hI
      exact k _ _ (((s1.trans s2).trans s3).trans ((Same.sa (same_new nl)).trans s4)) w4 hn
theorem use__law_factor {H : Hp} {Q : VK} {E : XK} {a : Addr} (hw : Well H a) (k : ∀ H' n, Sa a H H' → Well H' a → I64 n → Q (.int n) H') : sp__law_factor [.ref a] H Q E := ⟨a, rfl, hw, k⟩
local macro_rules | `(tactic| wtm_at "u1") => `(tactic| (with_reducible refine use__law_factor (by assumption) ?_; intro H1 n1 s1 w1 i1))
def sp__law_some (K : PySem.W.Frag) : Sp := fun vs H Q _ => ∃ (a : Addr) (v : V) (d : Td), vs = [.ref a, v] ∧ Well H a ∧ TdAt K H v d ∧ Wf d ∧
  ∀ H' L (rs : List Int), Sa a H H' → Well H' a → H L = none → L ≠ a → H' L = some (.lst (rs.map V.int)) → rs.length ≤ 3 → (∀ n, n ∈ rs → I64 n ∧ Tells d n) → Q (.ref L) H'
theorem kn__law_some (T : Tx K mg) : Kn P w K mg base 4 "_law_some" ["well", "told"] (sp__law_some K) := by
  obtain ⟨fd, F⟩ := T.d__law_some
  refine kn_mk F T.g__law_some sc__law_some (fun _ _ _ _ _ _ us hl => match us, hl with | [_, _], _ => rfl) (fun vs H Q E h => ?_) (fun cdv A outer s H vs Q E hr h => ?_)
  · obtain ⟨a, v, d, rfl, _⟩ := h
    rfl
  · obtain ⟨a, v, d, rfl, hW, hd, hw, k⟩ := h
    refine ⟨_, (pss_cons (ps_set (i := 2) sc__law_some.nd rfl (Or.inl rfl) (pc (kn_how_many_solve T) (hr.mono (by decide)) (pa_cons (pv 1) pa_nil)))
      (pss_one (ps_ret (pe_lc (own := [("number", 3)]) (g := gName 3) (by rfl) sc__law_some.nd (pi_listK K (pe_ifExp (pt_cmpR op_gt (pv 2) pe_int (nomark _)) (pe_lst (pa_cons pe_int (pa_cons (pe_op op_sub (pv 2) pe_int) (pa_cons (pc (kn__law_draw T) (hr.mono (by decide)) (pa_cons (pv 0) (pa_cons (pv 2) pa_nil))) pa_nil)))) (pe_lst pa_nil))) (blkOk_by (own := [("number", 3)]) (N := ["well", "told", "many", "number"]) (sc := defScope s__law_some) (by decide +kernel)) (fun _ _ _ _ _ => pg_name (i := 3) sc__law_some.nd rfl (Or.inl rfl)) (fun _ _ _ _ _ => pts_nil) (fun _ _ _ _ _ => (pc (kn_solution_at T) (hr.mono (by decide)) (pa_cons (pv 1) (pa_cons (pv 3) pa_nil)))))))), st_as (σ' := [some _, some _, none, none]) rfl ?_⟩
    wtm_at "go"
    rename_i H1 s1
    have cM := cnt_le hw
    have w1 := hW.same s1
    refine ite2 (fun c => ?_) (fun c => ?_)
    · wtm_at "go"
      rename_i H2 dr s2 w2 d0 d1 p np hp
      refine lcL_ints (fun n => I64 n ∧ Tells d n) _ (sql_of hp) (Nat.le_of_ble_eq_true rfl) (fun x H' N hx s3 kN => ?_) (fun D H' rs s3 nD hD hl hP => ?_)
      · obtain ⟨n, rfl, n0, n1⟩ : ∃ n, x = .int n ∧ 0 ≤ n ∧ n < cnt d := by
          simp only [List.mem_cons, List.not_mem_nil, or_false] at hx
          rcases hx with rfl | rfl | rfl
          · exact ⟨_, rfl, by omega, by omega⟩
          · exact ⟨_, rfl, by omega, by omega⟩
          · exact ⟨_, rfl, by omega, by omega⟩
        have hd2 : TdAt K H' v d := (((hd.same s1).sa w1 s2).same (same_new np)).same s3
        wtm_at "go"
        refine use_solution_at hd2 hw n0 n1 fun H4 s4 => ?_
        exact kN _ _ s4 (sol_at hw n0 n1)
      · have sT : Sa a H H' := (Same.sa s1).trans (s2.trans ((Same.sa (same_new np)).trans (Same.sa s3)))
        have w3 := w2.same (same_new (o := .lst [.int 0, .int (cnt d - 1), .int dr]) np)
        exact k _ _ _ sT (w3.same s3) (sa_free ((Same.sa s1).trans (s2.trans (Same.sa (same_new np)))) w3 nD) (well_ne w3 nD) hD (by rw [hl]; exact Nat.le_refl _) hP
    · wtm_at "go"
      rename_i p np hp
      refine lcL_ints (fun n => I64 n ∧ Tells d n) _ (sql_of hp) (Nat.le_of_ble_eq_true rfl) (fun x H' N hx s3 kN => by cases hx) (fun D H' rs s3 nD hD hl hP => ?_)
      have sT : Sa a H H' := (Same.sa s1).trans ((Same.sa (same_new np)).trans (Same.sa s3))
      have w3 := w1.same (same_new (o := .lst []) np)
      exact k _ _ _ sT (w3.same s3) (sa_free ((Same.sa s1).trans (Same.sa (same_new np))) w3 nD) (well_ne w3 nD) hD (by rw [hl]; exact Nat.zero_le _) hP
theorem use__law_some {H : Hp} {Q : VK} {E : XK} {a : Addr} {v : V} {d : Td} (hW : Well H a) (hd : TdAt K H v d) (hw : Wf d) (k : ∀ H' L (rs : List Int), Sa a H H' → Well H' a → H L = none → L ≠ a → H' L = some (.lst (rs.map V.int)) → rs.length ≤ 3 → (∀ n, n ∈ rs → I64 n ∧ Tells d n) → Q (.ref L) H') : sp__law_some K [.ref a, v] H Q E := ⟨a, v, d, rfl, hW, hd, hw, k⟩
def sp__law_is_rest_right : Sp := fun vs H Q _ => ∃ (W : Addr) (a b : Int), vs = [.ref W, .int a, .int b] ∧ Well H W ∧ I64 a ∧ I64 b ∧ ∀ H', Sa W H H' → Well H' W → Q (.bl true) H'
theorem kn__law_is_rest_right (T : Tx K mg) : Kn P w K mg base 6 "_law_is_rest_right" ["well", "a", "b"] (sp__law_is_rest_right) := by
  obtain ⟨fd, F⟩ := T.d__law_is_rest_right
  refine kn_mk F T.g__law_is_rest_right sc__law_is_rest_right (fun _ _ _ _ _ _ us hl => match us, hl with | [_, _, _], _ => rfl) (fun vs H Q E h => ?_) (fun cdv A outer s H vs Q E hr h => ?_)
  · obtain ⟨W, a, b, rfl, _⟩ := h
    rfl
  · obtain ⟨W, a, b, rfl, hW, ha, hb, k⟩ := h
    refine ⟨_, (pss_cons (ps_asg (pe_tup (pa_cons (pc (kn_resting T) (hr.mono (by decide)) (pa_cons (pv 1) (pa_cons (pv 2) pa_nil))) (pa_cons (pc (kn_solved T) (hr.mono (by decide)) (pa_cons pe_str (pa_cons (pc (kn__law_wrap T) (hr.mono (by decide)) (pa_cons (pe_op op_sub (pv 1) pe_int) pa_nil)) (pa_cons (pc (kn__law_wrap T) (hr.mono (by decide)) (pa_cons (pe_op op_sub pe_int (pv 2)) pa_nil)) pa_nil)))) pa_nil))) (pg_tup (by rfl) (pgs_cons (pg_name (i := 3) sc__law_is_rest_right.nd rfl (Or.inr rfl)) (pgs_cons (pg_name (i := 4) sc__law_is_rest_right.nd rfl (Or.inr rfl)) pgs_nil))))
      (pss_cons (ps_if (pt_cmpR op_ne (pc (kn_how_many_solve T) (hr.mono (by decide)) (pa_cons (pv 3) pa_nil)) (pc (kn_how_many_solve T) (hr.mono (by decide)) (pa_cons (pv 4) pa_nil)) (nomark _)) (pss_one (ps_ret pe_bl)) pss_nil)
      (pss_cons (ps_set (i := 5) sc__law_is_rest_right.nd rfl (Or.inl rfl) (pe_op op_cat (pe_lc (own := [("turn", 10)]) (g := gName 10) (by rfl) sc__law_is_rest_right.nd (pi_range1 rfl T.n_range (pa_cons pe_int pa_nil)) (blkOk_by (own := [("turn", 10)]) (N := ["well", "a", "b", "told", "due", "drawn", "some", "number", "less", "goal", "turn"]) (sc := defScope s__law_is_rest_right) (by decide +kernel)) (fun _ _ _ _ _ => pg_name (i := 10) sc__law_is_rest_right.nd rfl (Or.inl rfl)) (fun _ _ _ _ _ => pts_nil) (fun _ _ _ _ _ => (pc (kn__law_great T) (hr.mono (by decide)) (pa_cons (pv 0) pa_nil)))) (pe_lst (pa_cons pe_int (pa_cons pe_int (pa_cons (pe_k (v := .int (-1)) (pe_op op_sub pe_int pe_int) k_sub) pa_nil))))))
      (pss_cons (ps_set (i := 6) sc__law_is_rest_right.nd rfl (Or.inl rfl) (pe_op op_cat (pc (kn__law_some T) (hr.mono (by decide)) (pa_cons (pv 0) (pa_cons (pv 3) pa_nil))) (pc (kn__law_some T) (hr.mono (by decide)) (pa_cons (pv 0) (pa_cons (pv 4) pa_nil)))))
      (pss_cons (ps_if (pt_val (pe_callB (cr_anyK K rfl) (by rfl) T.n_any (by decide +kernel) (pa_cons (pe_lc (own := [("number", 7)]) (g := gName 7) (by rfl) sc__law_is_rest_right.nd (pi_listK K (pe_op op_cat (pv 5) (pv 6))) (blkOk_by (own := [("number", 7)]) (N := ["well", "a", "b", "told", "due", "drawn", "some", "number", "less", "goal", "turn"]) (sc := defScope s__law_is_rest_right) (by decide +kernel)) (fun _ _ _ _ _ => pg_name (i := 7) sc__law_is_rest_right.nd rfl (Or.inl rfl)) (fun _ _ _ _ _ => pts_nil) (fun _ _ _ _ _ => (pe_cmpR op_ne (pc (kn_is_told T) (hr.mono (by decide)) (pa_cons (pv 3) (pa_cons (pv 7) pa_nil))) (pc (kn_is_told T) (hr.mono (by decide)) (pa_cons (pv 4) (pa_cons (pv 7) pa_nil))) (nomark _)))) pa_nil))) (pss_one (ps_ret pe_bl)) pss_nil)
      (pss_cons (ps_for PassesOwn.never rfl (pi_listK K (pv 6)) (pg_name (i := 7) sc__law_is_rest_right.nd rfl (Or.inl rfl)) (pss_cons (ps_if (PW.pt (pw_or (pt_cmpR (op_neDK K (hr.units)) (pc (kn_tail_and_ring T) (hr.mono (by decide)) (pa_cons (pv 1) (pa_cons (pv 2) (pa_cons (pv 7) pa_nil)))) (pe_tup (pa_cons pe_int (pa_cons pe_int pa_nil))) (nomark _)) (pw_or1 (pt_cmpR op_ne (pc (kn_after_rounds T) (hr.mono (by decide)) (pa_cons (pv 1) (pa_cons (pv 2) (pa_cons (pv 7) (pa_cons (pe_k (v := .int (100000000000000000001)) (pe_op op_add (pe_k (v := .int (100000000000000000000)) (pe_op op_pow pe_int pe_int) k_pow) pe_int) k_add) pa_nil))))) (pv 7) (nomark _))))) (pss_one (ps_ret pe_bl)) pss_nil)
      (pss_one (ps_if (pt_cmpR op_notN (pc (kn_rounds_to T) (hr.mono (by decide)) (pa_cons (pv 1) (pa_cons (pv 2) (pa_cons (pv 7) (pa_cons (pc (kn__law_wrap T) (hr.mono (by decide)) (pa_cons (pe_op op_add (pv 7) pe_int) pa_nil)) pa_nil))))) pe_non (nomark _)) (pss_one (ps_ret pe_bl)) pss_nil))))
      (pss_cons (ps_asg (pe_tup (pa_cons (pc (kn__law_wrap T) (hr.mono (by decide)) (pa_cons (pe_op op_sub (pv 1) pe_int) pa_nil)) (pa_cons (pc (kn__law_wrap T) (hr.mono (by decide)) (pa_cons (pe_op op_sub pe_int (pv 2)) pa_nil)) pa_nil))) (pg_tup (by rfl) (pgs_cons (pg_name (i := 8) sc__law_is_rest_right.nd rfl (Or.inr rfl)) (pgs_cons (pg_name (i := 9) sc__law_is_rest_right.nd rfl (Or.inr rfl)) pgs_nil))))
      (pss_one (ps_ret (pe_callB (cr_allK K rfl) (by rfl) T.n_all (by decide +kernel) (pa_cons (pe_lc (own := [("number", 7)]) (g := gName 7) (by rfl) sc__law_is_rest_right.nd (pi_listK K (pv 5)) (blkOk_by (own := [("number", 7)]) (N := ["well", "a", "b", "told", "due", "drawn", "some", "number", "less", "goal", "turn"]) (sc := defScope s__law_is_rest_right) (by decide +kernel)) (fun _ _ _ _ _ => pg_name (i := 7) sc__law_is_rest_right.nd rfl (Or.inl rfl)) (fun _ _ _ _ _ => pts_nil) (fun _ _ _ _ _ => (pe_cmpR op_eq (pc (kn_is_told T) (hr.mono (by decide)) (pa_cons (pv 3) (pa_cons (pv 7) pa_nil))) (pc (kn_leads_to T) (hr.mono (by decide)) (pa_cons pe_str (pa_cons (pv 7) (pa_cons (pv 8) (pa_cons (pv 9) pa_nil))))) (nomark _)))) pa_nil))))))))))), st_as (σ' := [some _, some _, some _, none, none, none, none, none, none, none, none]) rfl ?_⟩
    wtm_at "go"
    refine use_resting ha hb fun d hd H1 v s1 hv => ?_
    wtm_at "go"
    rename_i H2 s2 H3 s3
    refine use_solved (wrap_I64 _) (wrap_I64 _) fun d' hd' H4 v' s4 hv' => ?_
    have hw := hd.wf
    have hw' := hd'.wf
    wtm_at "go"
    rename_i p np hp
    have T1 : TdAt K (upd H4 p (.tup [v, v'])) v d := hv.same (((s2.trans s3).trans s4).trans (same_new np))
    have T2 : TdAt K (upd H4 p (.tup [v, v'])) v' d' := hv'.same (same_new np)
    refine use_how_many_solve T1 hw fun H5 s5 => ?_
    refine use_how_many_solve (T2.same s5) hw' fun H6 s6 => ?_
    have T3 := T1.same (s5.trans s6)
    have T4 := T2.same (s5.trans s6)
    have S6 : Same H H6 := (((((s1.trans s2).trans s3).trans s4).trans (same_new np)).trans s5).trans s6
    clear T1 T2 s5 s6 hp np s4 s3 s2 s1 hv hv'
    wtm_at "go"
    refine ite2 (fun _ => ?_) (fun z => absurd (sol_cnt hd hd') z)
    have W6 := hW.same S6
    refine lcR1_draws (W := W) I64 (by decide) W6 (fun i H' N s w kN => ?_) (fun D H7 rs s7 w7 ne7 nD hD hl hP => ?_)
    · wtm_at "go"
      rename_i H8 n1 s8 w8 i1
      exact kN _ _ s8 w8 i1
    · wtm_at "go"
      rename_i p2 np2 hp2
      have hl4 : rs.length = 4 := by omega
      refine g_cat (same_new np2 _ _ hD) hp2 (by rw [List.length_map, hl4]; exact Nat.le_of_ble_eq_true rfl) fun p3 np3 hp3 => ?_
      have ed : rs.map V.int ++ [.int 0, .int 1, .int (-1)] = (rs ++ [0, 1, -1]).map V.int := by rw [List.map_append]; rfl
      have w8 := (w7.same (same_new (o := .lst [.int 0, .int 1, .int (-1)]) np2)).same (same_new (o := .lst (rs.map V.int ++ [.int 0, .int 1, .int (-1)])) np3)
      have ne3 := well_ne (w7.same (same_new np2)) np3
      have sT : Sa W H6 (upd (upd H7 p2 (.lst [.int 0, .int 1, .int (-1)])) p3 (.lst (rs.map V.int ++ [.int 0, .int 1, .int (-1)]))) := (s7.trans (Same.sa (same_new np2))).trans (Same.sa (same_new np3))
      generalize (upd (upd H7 p2 (.lst [.int 0, .int 1, .int (-1)])) p3 (.lst (rs.map V.int ++ [.int 0, .int 1, .int (-1)]))) = H8 at *
      rw [ed] at hp3
      have hds : ∀ n, n ∈ rs ++ [0, 1, -1] → I64 n := fun n hn => by
        rcases List.mem_append.mp hn with q | q
        · exact hP n q
        · simp only [List.mem_cons, List.not_mem_nil, or_false] at q
          rcases q with rfl | rfl | rfl <;> exact ⟨by decide, by decide⟩
      have lds : (rs ++ [0, 1, -1]).length = 7 := by rw [List.length_append, hl4]; rfl
      generalize rs ++ [0, 1, -1] = ds at *
      clear np3 hp2 np2 hD nD s7 w7
      have T5 := T3.sa W6 sT
      have T6 := T4.sa W6 sT
      refine use__law_some w8 T5 hw fun H9 L1 rs1 s9 w9 nL1 ne1 h1 l1 P1 => ?_
      refine use__law_some w9 (T6.sa w8 s9) hw' fun H10 L2 rs2 s10 w10 nL2 ne2 h2 l2 P2 => ?_
      have hp3' := s10 _ _ (s9 _ _ hp3 ne3) ne3
      have T7 := (T5.sa w8 s9).sa w9 s10
      have T8 := (T6.sa w8 s9).sa w9 s10
      refine g_cat (s10 _ _ h1 ne1) h2 (by rw [List.length_map, List.length_map]; exact Nat.le_trans (Nat.add_le_add l1 l2) (Nat.le_of_ble_eq_true rfl)) fun p4 np4 hp4 => ?_
      have es : rs1.map V.int ++ rs2.map V.int = (rs1 ++ rs2).map V.int := by rw [List.map_append]
      have hss : ∀ n, n ∈ rs1 ++ rs2 → I64 n ∧ Cg M64 (n * wrap (a - 1)) (wrap (0 - b)) := fun n hn => by
        rcases List.mem_append.mp hn with q | q
        · exact ⟨(P1 n q).1, (tells_iff hd (P1 n q).1).mp (P1 n q).2⟩
        · exact ⟨(P2 n q).1, (tells_iff hd' (P2 n q).1).mp (P2 n q).2⟩
      have lss : (rs1 ++ rs2).length ≤ 6 := by rw [List.length_append]; omega
      have hp3'' := same_new (o := .lst (rs1.map V.int ++ rs2.map V.int)) np4 _ _ hp3'
      have sU : Sa W H (upd H10 p4 (.lst (rs1.map V.int ++ rs2.map V.int))) := (((((Same.sa S6).trans sT).trans s9).trans s10)).trans (Same.sa (same_new np4))
      have wU := w10.same (same_new (o := .lst (rs1.map V.int ++ rs2.map V.int)) np4)
      have T9 := T7.same (same_new (o := .lst (rs1.map V.int ++ rs2.map V.int)) np4)
      have T10 := T8.same (same_new (o := .lst (rs1.map V.int ++ rs2.map V.int)) np4)
      generalize upd H10 p4 (.lst (rs1.map V.int ++ rs2.map V.int)) = H11 at *
      rw [es] at hp4
      generalize rs1 ++ rs2 = ss at *
      clear np4 T7 T8 hp3' h2 h1 s10 s9 T5 T6 sT w8 w9 w10 T3 T4
      refine g_cat hp3'' hp4 (by rw [List.length_map, List.length_map]; exact Nat.le_trans (Nat.add_le_add (Nat.le_of_eq lds) lss) (Nat.le_of_ble_eq_true rfl)) fun p5 np5 hp5 => ?_
      refine lcL_const (b := false) _ (sql_of hp5) (by rw [List.length_append, List.length_map, List.length_map, lds]; omega) (fun x H' N hx s kN => ?_) (fun D' H' s nD' hD' => ?_)
      · obtain ⟨n, rfl, hn⟩ : ∃ n, x = .int n ∧ I64 n := by
          rcases List.mem_append.mp hx with q | q
          · obtain ⟨n, e, q⟩ := int_of q
            exact ⟨n, e, hds n q⟩
          · obtain ⟨n, e, q⟩ := int_of q
            exact ⟨n, e, (hss n q).1⟩
        wtm_at "go"
        refine use_is_told ((T9.same (same_new np5)).same s) hw hn fun b1 hb1 H12 s12 => ?_
        wtm_at "go"
        refine use_is_told (((T10.same (same_new np5)).same s).same s12) hw' hn fun b2 hb2 H13 s13 => ?_
        have eb : b1 = b2 := by
          rw [tells_iff hd hn] at hb1
          rw [tells_iff hd' hn] at hb2
          exact Bool.eq_iff_iff.mpr (hb1.trans hb2.symm)
        exact g_neB (b := false) (by rw [eb]; cases b2 <;> rfl) (kN _ (s12.trans s13))
      · refine g_anyF _ hD' ?_
        have sV := (same_new (o := .lst (ds.map V.int ++ ss.map V.int)) np5).trans s
        have T11 := T9.same sV
        have hp3 := sV _ _ hp3''
        have hp4 := sV _ _ hp4
        have wV := wU.same sV
        have sW := sU.trans (Same.sa sV)
        clear hp5 np5 s nD' hD' T9 T10
        wtm_at "go"
        refine loopL (ss.map V.int) (fun i σ H2 => (∃ o, σ = [some (.ref W), some (.int a), some (.int b), some v, some v', some (.ref p3), some (.ref p4), o, none, none, none]) ∧ Same H' H2) ⟨⟨_, rfl⟩, Same.refl _⟩ (fun i σ H2 _ I => sql_of (I.2 _ _ hp4)) (fun i x σ H2 hx I => ?_) (fun σ H2 I => ?_)
        · obtain ⟨⟨o, rfl⟩, s2⟩ := I
          obtain ⟨n, rfl, hn⟩ := int_of (List.mem_of_getElem? hx)
          obtain ⟨hn, hr1⟩ := hss n hn
          have hr2 := rest_iff.mp hr1
          wtm_at "go"
          rename_i t r tr H3 q1 s3 n3 h3 q2 n4 h4
          obtain ⟨rfl, rfl⟩ := tr_rest hr2 tr
          refine ite2 (fun z => absurd z (by decide)) (fun _ => ?_)
          wtm_at "go"
          rename_i H5 s5
          refine ite2 (fun _ => ?_) (fun z => absurd (wrap_eq hn (rest_all hr2 _)) z)
          wtm_at "go"
          rename_i H6' s6 o1 rt1 H7' s7
          have := rt_rest hr2 step_ne rt1
          subst this
          simp only [optV]
          wtm_at "go"
          exact ⟨⟨_, rfl⟩, ((((s2.trans s3).trans (same_new n4)).trans s5).trans s6).trans s7⟩
        · obtain ⟨⟨o, rfl⟩, s2⟩ := I
          wtm_at "go"
          rename_i H3 s3 H4' s4 q n4 h4
          refine lcL_const (b := true) _ (sql_of (same_new n4 _ _ (s4 _ _ (s3 _ _ (s2 _ _ hp3))))) (by rw [List.length_map, lds]; exact Nat.le_of_ble_eq_true rfl) (fun x H' N hx s kN => ?_) (fun D' H' s nD' hD' => ?_)
          · obtain ⟨n, rfl, hn⟩ := int_of hx
            have hn := hds n hn
            wtm_at "go"
            refine use_is_told (T11.same ((((s2.trans s3).trans s4).trans (same_new n4)).trans s)) hw hn fun b1 hb1 H12 s12 => ?_
            wtm_at "go"
            refine use_leads_to hn (wrap_I64 _) (wrap_I64 _) fun b2 hb2 H13 s13 => ?_
            have eb : b1 = b2 := by
              rw [tells_iff hd hn] at hb1
              exact Bool.eq_iff_iff.mpr (hb1.trans hb2.symm)
            exact g_eqB (b := true) (by rw [eb]; cases b2 <;> rfl) (kN _ (s12.trans s13))
          · refine g_allT _ hD' ?_
            have s9 := ((((s2.trans s3).trans s4).trans (same_new n4)).trans s)
            exact k _ (sW.trans (Same.sa s9)) (wV.same s9)
theorem use__law_is_rest_right {H : Hp} {Q : VK} {E : XK} {W : Addr} {a b : Int} (hW : Well H W) (ha : I64 a) (hb : I64 b) (k : ∀ H', Sa W H H' → Well H' W → Q (.bl true) H') : sp__law_is_rest_right [.ref W, .int a, .int b] H Q E := ⟨W, a, b, rfl, hW, ha, hb, k⟩
def sp__law_is_ahead_right : Sp := fun vs H Q _ => ∃ (W : Addr) (a b y : Int), vs = [.ref W, .int a, .int b, .int y] ∧ Well H W ∧ I64 a ∧ I64 b ∧ I64 y ∧ ∀ H', Sa W H H' → Well H' W → Q (.bl true) H'
theorem kn__law_is_ahead_right (T : Tx K mg) : Kn P w K mg base 5 "_law_is_ahead_right" ["well", "a", "b", "y"] (sp__law_is_ahead_right) := by
  obtain ⟨fd, F⟩ := T.d__law_is_ahead_right
  refine kn_mk F T.g__law_is_ahead_right sc__law_is_ahead_right (fun _ _ _ _ _ _ us hl => match us, hl with | [_, _, _, _], _ => rfl) (fun vs H Q E h => ?_) (fun cdv A outer s H vs Q E hr h => ?_)
  · obtain ⟨W, a, b, y, rfl, _⟩ := h
    rfl
  · obtain ⟨W, a, b, y, rfl, hW, ha, hb, hy, k⟩ := h
    refine ⟨_, (pss_cons (ps_set (i := 4) sc__law_is_ahead_right.nd rfl (Or.inl rfl) (pc (kn_solved T) (hr.mono (by decide)) (pa_cons pe_str (pa_cons (pv 1) (pa_cons (pc (kn__law_wrap T) (hr.mono (by decide)) (pa_cons (pe_op op_sub (pv 3) (pv 2)) pa_nil)) pa_nil)))))
      (pss_cons (ps_if (PW.pt (pw_and (pt_cmpR op_eq (pe_op op_mod (pv 1) pe_int) pe_int (nomark _)) (pw_and1 (pt_cmpR op_ne (pc (kn_how_many_solve T) (hr.mono (by decide)) (pa_cons (pv 4) pa_nil)) pe_int (nomark _))))) (pss_one (ps_ret pe_bl)) pss_nil)
      (pss_cons (ps_for PassesOwn.never rfl (pi_listK K (pc (kn__law_some T) (hr.mono (by decide)) (pa_cons (pv 0) (pa_cons (pv 4) pa_nil)))) (pg_name (i := 5) sc__law_is_ahead_right.nd rfl (Or.inl rfl)) (pss_one (ps_if (PW.pt (pw_or (pt_cmpR op_ne (pc (kn_after_rounds T) (hr.mono (by decide)) (pa_cons (pv 1) (pa_cons (pv 2) (pa_cons (pv 5) (pa_cons pe_int pa_nil))))) (pv 3) (nomark _)) (pw_or1 (pt_cmpR op_ne (pc (kn_rounds_to T) (hr.mono (by decide)) (pa_cons (pv 1) (pa_cons (pv 2) (pa_cons (pv 5) (pa_cons (pv 3) pa_nil))))) (pe_ifExp (pt_cmpR op_eq (pv 5) (pv 3) (nomark _)) pe_int pe_int) (nomark _))))) (pss_one (ps_ret pe_bl)) pss_nil)))
      (pss_cons (ps_for PassesOwn.never rfl (pi_listK K (pe_lc (own := [("turn", 6)]) (g := gName 6) (by rfl) sc__law_is_ahead_right.nd (pi_range1 rfl T.n_range (pa_cons pe_int pa_nil)) (blkOk_by (own := [("turn", 6)]) (N := ["well", "a", "b", "y", "told", "x", "turn"]) (sc := defScope s__law_is_ahead_right) (by decide +kernel)) (fun _ _ _ _ _ => pg_name (i := 6) sc__law_is_ahead_right.nd rfl (Or.inl rfl)) (fun _ _ _ _ _ => pts_nil) (fun _ _ _ _ _ => (pc (kn__law_great T) (hr.mono (by decide)) (pa_cons (pv 0) pa_nil))))) (pg_name (i := 5) sc__law_is_ahead_right.nd rfl (Or.inl rfl)) (pss_one (ps_if (pt_cmpR op_ne (pc (kn_is_told T) (hr.mono (by decide)) (pa_cons (pv 4) (pa_cons (pv 5) pa_nil))) (pe_cmpR op_eq (pc (kn_after_rounds T) (hr.mono (by decide)) (pa_cons (pv 1) (pa_cons (pv 2) (pa_cons (pv 5) (pa_cons pe_int pa_nil))))) (pv 3) (nomark _)) (nomark _)) (pss_one (ps_ret pe_bl)) pss_nil)))
      (pss_one (ps_ret pe_bl)))))), st_as (σ' := [some _, some _, some _, some _, none, none, none]) rfl ?_⟩
    wtm_at "go"
    rename_i H1 s1
    refine use_solved ha (wrap_I64 _) fun d hd H2 v s2 hv => ?_
    have hw := hd.wf
    wtm_at "go"
    refine ite2 (fun c => ?_) (fun c => ?_)
    · refine use_how_many_solve hv hw fun H3 s3 => ?_
      wtm_at "go"
      refine ite2 (fun _ => ?_) (fun z => absurd (sol_odd1 c hd) z)
      have S3 := (s1.trans s2).trans s3
      have T := hv.same s3
      clear hv s1 s2 s3
      refine use__law_some (hW.same S3) T hw fun H4 L rs s4 w4 nL neL hL ll P => ?_
      have T4 := T.sa (hW.same S3) s4
      have hrs : ∀ n, n ∈ rs → I64 n ∧ Cg M64 (Mt.It a b 1 n) y := fun n hn => ⟨(P n hn).1, ahead_iff.mp ((tells_iff hd (P n hn).1).mp (P n hn).2)⟩
      refine loopL (rs.map V.int) (fun i σ H2 => (∃ o o2, σ = [some (.ref W), some (.int a), some (.int b), some (.int y), some v, o, o2]) ∧ Same H4 H2) ⟨⟨_, _, rfl⟩, Same.refl _⟩ (fun i σ H2 _ I => sql_of (I.2 _ _ hL)) (fun i x σ H2 hx I => ?_) (fun σ H2 I => ?_)
      · obtain ⟨⟨o, o2, rfl⟩, s5⟩ := I
        obtain ⟨n, rfl, hn⟩ := int_of (List.mem_of_getElem? hx)
        obtain ⟨hn, hr1⟩ := hrs n hn
        wtm_at "go"
        rename_i H5 s6
        refine ite2 (fun _ => ?_) (fun z => absurd (wrap_eq hy hr1) z)
        wtm_at "go"
        rename_i o1 rt1 H6 s7
        have e1 := rt_one hn hy hr1 rt1
        subst e1
        refine ite2 (fun z => ?_) (fun z => ?_)
        · rw [if_pos z]
          simp only [optV]
          wtm_at "go"
          exact ⟨⟨_, _, rfl⟩, (s5.trans s6).trans s7⟩
        · rw [if_neg z]
          simp only [optV]
          wtm_at "go"
          exact ⟨⟨_, _, rfl⟩, (s5.trans s6).trans s7⟩
      · obtain ⟨⟨o, o2, rfl⟩, s5⟩ := I
        wtm_at "go"
        have w5 := w4.same s5
        refine lcR1_draws (W := W) I64 (by decide) w5 (fun i H' N s w kN => ?_) (fun D H7 rs7 s7 w7 ne7 nD hD hl hP => ?_)
        · wtm_at "go"
          rename_i H8 n1 s8 w8 i1
          exact kN _ _ s8 w8 i1
        · have T7 := (T4.same s5).sa w5 s7
          refine loopL (rs7.map V.int) (fun i σ H2 => (∃ o o2, σ = [some (.ref W), some (.int a), some (.int b), some (.int y), some v, o, o2]) ∧ Same H7 H2) ⟨⟨_, _, rfl⟩, Same.refl _⟩ (fun i σ H2 _ I => sql_of (I.2 _ _ hD)) (fun i x σ H2 hx I => ?_) (fun σ H2 I => ?_)
          · obtain ⟨⟨o, o2, rfl⟩, s8⟩ := I
            obtain ⟨n, rfl, hn⟩ := int_of (List.mem_of_getElem? hx)
            have hn := hP n hn
            wtm_at "go"
            refine use_is_told (T7.same s8) hw hn fun b1 hb1 H9 s9 => ?_
            wtm_at "go"
            rename_i H10 s10
            refine g_neB (b := false) ?_ ?_
            · rw [tells_iff hd hn, ahead_iff] at hb1
              have e : b1 = decide (wrap (Mt.It a b 1 n) = y) := Bool.eq_iff_iff.mpr (hb1.trans ⟨fun q => decide_eq_true (wrap_eq hy q), fun q => by rw [← of_decide_eq_true q]; exact (wrap_cg _).symm⟩)
              rw [e]
              exact bne_self_eq_false _
            · wtm_at "go"
              exact ⟨⟨_, _, rfl⟩, (s8.trans s9).trans s10⟩
          · obtain ⟨⟨o, o2, rfl⟩, s8⟩ := I
            wtm_at "go"
            exact k _ (((((Same.sa S3).trans s4).trans (Same.sa s5)).trans s7).trans (Same.sa s8)) (w7.same s8)
    · have S3 := s1.trans s2
      have T := hv
      clear hv s1 s2
      refine use__law_some (hW.same S3) T hw fun H4 L rs s4 w4 nL neL hL ll P => ?_
      have T4 := T.sa (hW.same S3) s4
      have hrs : ∀ n, n ∈ rs → I64 n ∧ Cg M64 (Mt.It a b 1 n) y := fun n hn => ⟨(P n hn).1, ahead_iff.mp ((tells_iff hd (P n hn).1).mp (P n hn).2)⟩
      refine loopL (rs.map V.int) (fun i σ H2 => (∃ o o2, σ = [some (.ref W), some (.int a), some (.int b), some (.int y), some v, o, o2]) ∧ Same H4 H2) ⟨⟨_, _, rfl⟩, Same.refl _⟩ (fun i σ H2 _ I => sql_of (I.2 _ _ hL)) (fun i x σ H2 hx I => ?_) (fun σ H2 I => ?_)
      · obtain ⟨⟨o, o2, rfl⟩, s5⟩ := I
        obtain ⟨n, rfl, hn⟩ := int_of (List.mem_of_getElem? hx)
        obtain ⟨hn, hr1⟩ := hrs n hn
        wtm_at "go"
        rename_i H5 s6
        refine ite2 (fun _ => ?_) (fun z => absurd (wrap_eq hy hr1) z)
        wtm_at "go"
        rename_i o1 rt1 H6 s7
        have e1 := rt_one hn hy hr1 rt1
        subst e1
        refine ite2 (fun z => ?_) (fun z => ?_)
        · rw [if_pos z]
          simp only [optV]
          wtm_at "go"
          exact ⟨⟨_, _, rfl⟩, (s5.trans s6).trans s7⟩
        · rw [if_neg z]
          simp only [optV]
          wtm_at "go"
          exact ⟨⟨_, _, rfl⟩, (s5.trans s6).trans s7⟩
      · obtain ⟨⟨o, o2, rfl⟩, s5⟩ := I
        wtm_at "go"
        have w5 := w4.same s5
        refine lcR1_draws (W := W) I64 (by decide) w5 (fun i H' N s w kN => ?_) (fun D H7 rs7 s7 w7 ne7 nD hD hl hP => ?_)
        · wtm_at "go"
          rename_i H8 n1 s8 w8 i1
          exact kN _ _ s8 w8 i1
        · have T7 := (T4.same s5).sa w5 s7
          refine loopL (rs7.map V.int) (fun i σ H2 => (∃ o o2, σ = [some (.ref W), some (.int a), some (.int b), some (.int y), some v, o, o2]) ∧ Same H7 H2) ⟨⟨_, _, rfl⟩, Same.refl _⟩ (fun i σ H2 _ I => sql_of (I.2 _ _ hD)) (fun i x σ H2 hx I => ?_) (fun σ H2 I => ?_)
          · obtain ⟨⟨o, o2, rfl⟩, s8⟩ := I
            obtain ⟨n, rfl, hn⟩ := int_of (List.mem_of_getElem? hx)
            have hn := hP n hn
            wtm_at "go"
            refine use_is_told (T7.same s8) hw hn fun b1 hb1 H9 s9 => ?_
            wtm_at "go"
            rename_i H10 s10
            refine g_neB (b := false) ?_ ?_
            · rw [tells_iff hd hn, ahead_iff] at hb1
              have e : b1 = decide (wrap (Mt.It a b 1 n) = y) := Bool.eq_iff_iff.mpr (hb1.trans ⟨fun q => decide_eq_true (wrap_eq hy q), fun q => by rw [← of_decide_eq_true q]; exact (wrap_cg _).symm⟩)
              rw [e]
              exact bne_self_eq_false _
            · wtm_at "go"
              exact ⟨⟨_, _, rfl⟩, (s8.trans s9).trans s10⟩
          · obtain ⟨⟨o, o2, rfl⟩, s8⟩ := I
            wtm_at "go"
            exact k _ (((((Same.sa S3).trans s4).trans (Same.sa s5)).trans s7).trans (Same.sa s8)) (w7.same s8)
theorem use__law_is_ahead_right {H : Hp} {Q : VK} {E : XK} {W : Addr} {a b y : Int} (hW : Well H W) (ha : I64 a) (hb : I64 b) (hy : I64 y) (k : ∀ H', Sa W H H' → Well H' W → Q (.bl true) H') : sp__law_is_ahead_right [.ref W, .int a, .int b, .int y] H Q E := ⟨W, a, b, y, rfl, hW, ha, hb, hy, k⟩
def sp_law (K : PySem.W.Frag) : Sp := fun vs H Q _ => ∃ (a : Addr) (ns : List Int), vs = [.ref a] ∧ SqL K H a (ns.map V.int) ∧ ns.length ≤ 63 ∧ ∀ H', Q (.bl true) H'
theorem law_ok {fd : FuncData} (T : Tx K mg) (F : FunD K "law" "law" (defArgs s_law) (defBody s_law) (defScope s_law) [] [] (He.ga K "law") fd) : FnOk P w K mg base CX0 7 (He.ga K "law") fd ["script"] (sp_law K) := by
  refine fn_mk F sc_law (fun vs H Q E h => ?_) (fun cdv A outer s H vs Q E hr h => ?_)
  · obtain ⟨a, ns, rfl, _⟩ := h
    rfl
  · obtain ⟨a, ns, rfl, hS, hl, k⟩ := h
    refine ⟨_, (pss_cons (ps_for PassesOwn.never rfl (pi_listK K (pc (kn__law_wells T) (hr.mono (by decide)) (pa_cons (pv 0) (pa_cons pe_int pa_nil)))) (pg_name (i := 1) sc_law.nd rfl (Or.inl rfl)) (pss_one (ps_for PassesOwn.never rfl (pi_range1 rfl T.n_range (pa_cons pe_int pa_nil)) (pg_name (i := 2) sc_law.nd rfl (Or.inl rfl)) (pss_cons (ps_par3 (i := 3) (j := 4) (l := 5) (by rfl) sc_law.nd rfl rfl rfl (by decide) (by decide) (by decide) rfl rfl rfl (pa_cons (pc (kn__law_factor T) (hr.mono (by decide)) (pa_cons (pv 1) pa_nil)) (pa_cons (pc (kn__law_great T) (hr.mono (by decide)) (pa_cons (pv 1) pa_nil)) (pa_cons (pc (kn__law_great T) (hr.mono (by decide)) (pa_cons (pv 1) pa_nil)) pa_nil))) (by rfl))
      (pss_cons (ps_if (PW.pt (pw_or (pt_not (pt_val (pc (kn__law_is_rest_right T) (hr.mono (by decide)) (pa_cons (pv 1) (pa_cons (pv 3) (pa_cons (pv 4) pa_nil)))))) (pw_or1 (pt_not (pt_val (pc (kn__law_is_ahead_right T) (hr.mono (by decide)) (pa_cons (pv 1) (pa_cons (pv 3) (pa_cons (pv 4) (pa_cons (pv 5) pa_nil)))))))))) (pss_one (ps_ret pe_bl)) pss_nil)
      (pss_one (ps_if (pt_not (pt_val (pc (kn__law_is_ahead_right T) (hr.mono (by decide)) (pa_cons (pv 1) (pa_cons (pv 3) (pa_cons (pv 4) (pa_cons (pc (kn_after_rounds T) (hr.mono (by decide)) (pa_cons (pv 3) (pa_cons (pv 4) (pa_cons (pv 5) (pa_cons pe_int pa_nil))))) pa_nil))))))) (pss_one (ps_ret pe_bl)) pss_nil)))))))
      (pss_one (ps_ret (pe_and (pe_cmpR op_notN (pc (kn_resting T) (hr.mono (by decide)) (pa_cons pe_int (pa_cons (pe_k (v := .int (-8)) (pe_op op_sub pe_int pe_int) k_sub) pa_nil))) pe_non (nomark _)) (pe_and (pc (kn_is_told T) (hr.mono (by decide)) (pa_cons (pc (kn_resting T) (hr.mono (by decide)) (pa_cons pe_int (pa_cons (pe_k (v := .int (-8)) (pe_op op_sub pe_int pe_int) k_sub) pa_nil))) (pa_cons pe_int pa_nil))) (pe_one (pe_cmpR op_eq (pc (kn_how_many_solve T) (hr.mono (by decide)) (pa_cons (pc (kn_resting T) (hr.mono (by decide)) (pa_cons pe_int (pa_cons pe_int pa_nil))) pa_nil)) pe_int (nomark _)))))))), st_as (σ' := [some _, none, none, none, none, none]) rfl ?_⟩
    wtm_at "go"
    refine use__law_wells hS hl fun ws H1 L s1 nL hL hW => ?_
    refine loopL (ws.map V.ref) (fun i σ H' => (∃ o1 o2 o3 o4 o5, σ = [some (.ref a), o1, o2, o3, o4, o5]) ∧ H' L = some (.lst (ws.map V.ref)) ∧ ∀ r, r ∈ ws → Well H' r) ⟨⟨_, _, _, _, _, rfl⟩, hL, hW⟩ (fun i σ H' hi I => sql_of I.2.1) (fun i v σ H' hv I => ?_) (fun σ H' I => ?_)
    · obtain ⟨⟨o1, o2, o3, o4, o5, rfl⟩, hL, hW⟩ := I
      have hm := List.mem_of_getElem? hv
      obtain ⟨W, hWm, rfl⟩ := List.mem_map.mp hm
      wtm_at "go"
      refine loopR1 (by decide) (fun j σ H2 => (∃ o2 o3 o4 o5, σ = [some (.ref a), some (.ref W), o2, o3, o4, o5]) ∧ Sa W H' H2 ∧ Well H2 W) ⟨⟨_, _, _, _, rfl⟩, Sa.refl _ _, hW W hWm⟩ (fun j σ H2 hj I => ?_) (fun σ H2 I => ?_)
      · obtain ⟨⟨o2, o3, o4, o5, rfl⟩, sa, w0⟩ := I
        wtm_at "go"
        rename_i Ha n1 sa1 wa ia Hb n2 sb wb ib Hc n3 sc wc ic
        refine use__law_is_rest_right wc ia ib fun Hd sd wd => ?_
        wtm_at "go"
        refine use__law_is_ahead_right wd ia ib ic fun He se we => ?_
        wtm_at "go"
        rename_i Hf sf
        have wf := we.same sf
        refine use__law_is_ahead_right wf ia ib (wrap_I64 _) fun Hg sg wg => ?_
        wtm_at "go"
        exact ⟨⟨_, _, _, _, rfl⟩, (((((((sa.trans sa1).trans sb).trans sc).trans sd).trans se).trans (Same.sa sf)).trans sg), wg⟩
      · obtain ⟨⟨o2, o3, o4, o5, rfl⟩, sa, w0⟩ := I
        exact ⟨⟨_, _, _, _, _, rfl⟩, wells_sa hL hW hWm sa w0⟩
    · obtain ⟨⟨o1, o2, o3, o4, o5, rfl⟩, hL, hW⟩ := I
      have e3 : wrap (3 - 1) = 2 := by decide
      have e8 : wrap (0 - -8) = 8 := by decide
      wtm_at "go"
      refine use_resting (by unfold I64; omega) (by unfold I64; omega) fun d hd H2 v s2 hv => ?_
      rw [e3, e8] at hd
      have nn : v ≠ .non := by
        cases d with
        | non => exact absurd (Cg.of_eq (by decide)) (hd 4)
        | row f s m => obtain ⟨p, rfl, _⟩ := hv; exact fun z => by cases z
        | bits x y => have := hd.2.2.1; omega
      refine ite2 (fun z => absurd z nn) (fun _ => ?_)
      refine use_resting (by unfold I64; omega) (by unfold I64; omega) fun d2 hd2 H3 v3 s3 hv3 => ?_
      rw [e3, e8] at hd2
      refine use_is_told hv3 hd2.wf (by unfold I64; omega) fun b hb H4 s4 => ?_
      have eb : b = true := hb.mpr ((tells_iff hd2 (by unfold I64; omega)).mpr (Cg.of_eq (by decide)))
      subst eb
      wtm_at "go"
      refine use_resting (by unfold I64; omega) (by unfold I64; omega) fun d5 hd5 H5 v5 s5 hv5 => ?_
      refine use_how_many_solve hv5 hd5.wf fun H6 s6 => ?_
      have e1 : wrap (1 - 1) = 0 := by decide
      have e5 : wrap (0 - 5) = -5 := by decide
      rw [e1, e5] at hd5
      have e0 : cnt d5 = 0 := by
        cases d5 with
        | non => rfl
        | row f s m =>
          have q := (hd5.1.iff f hd5.1.i1).mpr ⟨0, by decide, by have := hd5.1.m1; omega, by rw [Int.mul_zero, Int.add_zero]⟩
          rw [Int.mul_zero] at q
          exact absurd q.eq_mod (by decide)
        | bits x y => have := hd5.2.2.2; omega
      rw [e0]
      wtm_at "go"
      exact k _
end
end W41

set_option maxHeartbeats 0
namespace W41
open PySem PySem.Spec PyProof.Rows L2 WK Mt
def dfn (n : Str) (i : Nat) : He.DefD := ⟨(n, none), n, n, defArgs (top i), defBody (top i), defScope (top i), [], []⟩
def fn : List He.DefD := [dfn "wrapped" 20, dfn "is_whole_number" 38, dfn "arith" 23, dfn "check_equation" 39, dfn "row_told" 40, dfn "bits_told" 41, dfn "inverse" 43, dfn "solved_mul" 44, dfn "solved" 50, dfn "count_of" 51, dfn "check_solution" 52, dfn "is_whole_or_many" 53, dfn "solution_at" 55, dfn "check_map" 59, dfn "behind" 60, dfn "powered" 61, dfn "led" 62, dfn "after_rounds" 63, dfn "tail_and_ring" 64, dfn "meeting_by_bits" 65, dfn "rounds_to" 66, dfn "_law_well" 69, dfn "_law_draw" 70, dfn "_law_one" 71, dfn "_law_wells" 72, dfn "_law_great" 73, dfn "_law_wrap" 74, dfn "how_many_solve" 54, dfn "is_told" 56, dfn "leads_to" 57, dfn "resting" 67, dfn "_law_some" 75, dfn "_law_factor" 76, dfn "_law_is_rest_right" 77, dfn "_law_is_ahead_right" 78, dfn "law" 79]
def fa : List He.Fa := [.glo "wrapped", .glo "is_whole_number", .glo "arith", .glo "check_equation", .glo "row_told", .glo "bits_told", .glo "inverse", .glo "solved_mul", .glo "solved", .glo "count_of", .glo "check_solution", .glo "is_whole_or_many", .glo "solution_at", .glo "check_map", .glo "behind", .glo "powered", .glo "led", .glo "after_rounds", .glo "tail_and_ring", .glo "meeting_by_bits", .glo "rounds_to", .glo "_law_well", .glo "_law_draw", .glo "_law_one", .glo "_law_wells", .glo "_law_great", .glo "_law_wrap", .glo "how_many_solve", .glo "is_told", .glo "leads_to", .glo "resting", .glo "_law_some", .glo "_law_factor", .glo "_law_is_rest_right", .glo "_law_is_ahead_right", .glo "law", .glo "by_bits", .glo "by_floats", .glo "solved_and", .glo "solved_floor", .glo "solved_left", .glo "solved_mod", .glo "solved_or", .glo "to_float", .glo "whole_or_thrown", .glo "Float", .glo "InvalidArgument", .glo "Thrown", .int "ALL_BITS" (18446744073709551616), .int "BITS" (64), .str "FREE" "bits", .int "LEAST" (-9223372036854775808), .int "MOST" (9223372036854775807), .str "ROW" "row", .glo "WORDS", .free "all", .free "any", .free "bool", .free "int", .free "isinstance", .free "len", .free "list", .free "range", .free "str", .free "sum", .free "tuple"]
def exs : List (PySem.W.Frag → Bool) := [fun K => He.tupB K "WORDS" [.str "add", .str "sub", .str "mul", .str "floor", .str "mod", .str "band", .str "bor", .str "bxor", .str "shl", .str "shr"], fun K => decide (PySem.W.kitOne K (.type "int") (.ref (He.ga K "Float")) = some false)]
def ex (K : PySem.W.Frag) : Bool := exs.all fun b => b K
theorem ex_at {K : PySem.W.Frag} (h : ex K = true) (i : Nat) {b : PySem.W.Frag → Bool} (e : exs[i]? = some b := by rfl) : b K = true := List.all_eq_true.mp h b (List.mem_of_getElem? e)
theorem tx {K : PySem.W.Frag} {h : Heap} {mg : Str → Option Value} (X : K.In h) (G : h.Ns mainGlobals mg) (c : He.SaysD fa fn K) (c2 : ex K = true) : Tx K mg where
  g_wrapped := He.glo_ok X G (c.fact 0 (f := .glo "wrapped") rfl)
  d_wrapped := c.def_ 0 (d := dfn "wrapped" 20) rfl
  g_is_whole_number := He.glo_ok X G (c.fact 1 (f := .glo "is_whole_number") rfl)
  d_is_whole_number := c.def_ 1 (d := dfn "is_whole_number" 38) rfl
  g_arith := He.glo_ok X G (c.fact 2 (f := .glo "arith") rfl)
  d_arith := c.def_ 2 (d := dfn "arith" 23) rfl
  g_check_equation := He.glo_ok X G (c.fact 3 (f := .glo "check_equation") rfl)
  d_check_equation := c.def_ 3 (d := dfn "check_equation" 39) rfl
  g_row_told := He.glo_ok X G (c.fact 4 (f := .glo "row_told") rfl)
  d_row_told := c.def_ 4 (d := dfn "row_told" 40) rfl
  g_bits_told := He.glo_ok X G (c.fact 5 (f := .glo "bits_told") rfl)
  d_bits_told := c.def_ 5 (d := dfn "bits_told" 41) rfl
  g_inverse := He.glo_ok X G (c.fact 6 (f := .glo "inverse") rfl)
  d_inverse := c.def_ 6 (d := dfn "inverse" 43) rfl
  g_solved_mul := He.glo_ok X G (c.fact 7 (f := .glo "solved_mul") rfl)
  d_solved_mul := c.def_ 7 (d := dfn "solved_mul" 44) rfl
  g_solved := He.glo_ok X G (c.fact 8 (f := .glo "solved") rfl)
  d_solved := c.def_ 8 (d := dfn "solved" 50) rfl
  g_count_of := He.glo_ok X G (c.fact 9 (f := .glo "count_of") rfl)
  d_count_of := c.def_ 9 (d := dfn "count_of" 51) rfl
  g_check_solution := He.glo_ok X G (c.fact 10 (f := .glo "check_solution") rfl)
  d_check_solution := c.def_ 10 (d := dfn "check_solution" 52) rfl
  g_is_whole_or_many := He.glo_ok X G (c.fact 11 (f := .glo "is_whole_or_many") rfl)
  d_is_whole_or_many := c.def_ 11 (d := dfn "is_whole_or_many" 53) rfl
  g_solution_at := He.glo_ok X G (c.fact 12 (f := .glo "solution_at") rfl)
  d_solution_at := c.def_ 12 (d := dfn "solution_at" 55) rfl
  g_check_map := He.glo_ok X G (c.fact 13 (f := .glo "check_map") rfl)
  d_check_map := c.def_ 13 (d := dfn "check_map" 59) rfl
  g_behind := He.glo_ok X G (c.fact 14 (f := .glo "behind") rfl)
  d_behind := c.def_ 14 (d := dfn "behind" 60) rfl
  g_powered := He.glo_ok X G (c.fact 15 (f := .glo "powered") rfl)
  d_powered := c.def_ 15 (d := dfn "powered" 61) rfl
  g_led := He.glo_ok X G (c.fact 16 (f := .glo "led") rfl)
  d_led := c.def_ 16 (d := dfn "led" 62) rfl
  g_after_rounds := He.glo_ok X G (c.fact 17 (f := .glo "after_rounds") rfl)
  d_after_rounds := c.def_ 17 (d := dfn "after_rounds" 63) rfl
  g_tail_and_ring := He.glo_ok X G (c.fact 18 (f := .glo "tail_and_ring") rfl)
  d_tail_and_ring := c.def_ 18 (d := dfn "tail_and_ring" 64) rfl
  g_meeting_by_bits := He.glo_ok X G (c.fact 19 (f := .glo "meeting_by_bits") rfl)
  d_meeting_by_bits := c.def_ 19 (d := dfn "meeting_by_bits" 65) rfl
  g_rounds_to := He.glo_ok X G (c.fact 20 (f := .glo "rounds_to") rfl)
  d_rounds_to := c.def_ 20 (d := dfn "rounds_to" 66) rfl
  g__law_well := He.glo_ok X G (c.fact 21 (f := .glo "_law_well") rfl)
  d__law_well := c.def_ 21 (d := dfn "_law_well" 69) rfl
  g__law_draw := He.glo_ok X G (c.fact 22 (f := .glo "_law_draw") rfl)
  d__law_draw := c.def_ 22 (d := dfn "_law_draw" 70) rfl
  g__law_one := He.glo_ok X G (c.fact 23 (f := .glo "_law_one") rfl)
  d__law_one := c.def_ 23 (d := dfn "_law_one" 71) rfl
  g__law_wells := He.glo_ok X G (c.fact 24 (f := .glo "_law_wells") rfl)
  d__law_wells := c.def_ 24 (d := dfn "_law_wells" 72) rfl
  g__law_great := He.glo_ok X G (c.fact 25 (f := .glo "_law_great") rfl)
  d__law_great := c.def_ 25 (d := dfn "_law_great" 73) rfl
  g__law_wrap := He.glo_ok X G (c.fact 26 (f := .glo "_law_wrap") rfl)
  d__law_wrap := c.def_ 26 (d := dfn "_law_wrap" 74) rfl
  g_how_many_solve := He.glo_ok X G (c.fact 27 (f := .glo "how_many_solve") rfl)
  d_how_many_solve := c.def_ 27 (d := dfn "how_many_solve" 54) rfl
  g_is_told := He.glo_ok X G (c.fact 28 (f := .glo "is_told") rfl)
  d_is_told := c.def_ 28 (d := dfn "is_told" 56) rfl
  g_leads_to := He.glo_ok X G (c.fact 29 (f := .glo "leads_to") rfl)
  d_leads_to := c.def_ 29 (d := dfn "leads_to" 57) rfl
  g_resting := He.glo_ok X G (c.fact 30 (f := .glo "resting") rfl)
  d_resting := c.def_ 30 (d := dfn "resting" 67) rfl
  g__law_some := He.glo_ok X G (c.fact 31 (f := .glo "_law_some") rfl)
  d__law_some := c.def_ 31 (d := dfn "_law_some" 75) rfl
  g__law_factor := He.glo_ok X G (c.fact 32 (f := .glo "_law_factor") rfl)
  d__law_factor := c.def_ 32 (d := dfn "_law_factor" 76) rfl
  g__law_is_rest_right := He.glo_ok X G (c.fact 33 (f := .glo "_law_is_rest_right") rfl)
  d__law_is_rest_right := c.def_ 33 (d := dfn "_law_is_rest_right" 77) rfl
  g__law_is_ahead_right := He.glo_ok X G (c.fact 34 (f := .glo "_law_is_ahead_right") rfl)
  d__law_is_ahead_right := c.def_ 34 (d := dfn "_law_is_ahead_right" 78) rfl
  g_law := He.glo_ok X G (c.fact 35 (f := .glo "law") rfl)
  d_law := c.def_ 35 (d := dfn "law" 79) rfl
  g_by_bits := He.glo_ok X G (c.fact 36 (f := .glo "by_bits") rfl)
  g_by_floats := He.glo_ok X G (c.fact 37 (f := .glo "by_floats") rfl)
  g_solved_and := He.glo_ok X G (c.fact 38 (f := .glo "solved_and") rfl)
  g_solved_floor := He.glo_ok X G (c.fact 39 (f := .glo "solved_floor") rfl)
  g_solved_left := He.glo_ok X G (c.fact 40 (f := .glo "solved_left") rfl)
  g_solved_mod := He.glo_ok X G (c.fact 41 (f := .glo "solved_mod") rfl)
  g_solved_or := He.glo_ok X G (c.fact 42 (f := .glo "solved_or") rfl)
  g_to_float := He.glo_ok X G (c.fact 43 (f := .glo "to_float") rfl)
  g_whole_or_thrown := He.glo_ok X G (c.fact 44 (f := .glo "whole_or_thrown") rfl)
  g_Float := He.glo_ok X G (c.fact 45 (f := .glo "Float") rfl)
  g_InvalidArgument := He.glo_ok X G (c.fact 46 (f := .glo "InvalidArgument") rfl)
  g_Thrown := He.glo_ok X G (c.fact 47 (f := .glo "Thrown") rfl)
  c_ALL_BITS := He.int_ok X G (c.fact 48 (f := .int "ALL_BITS" (18446744073709551616)) rfl)
  c_BITS := He.int_ok X G (c.fact 49 (f := .int "BITS" (64)) rfl)
  c_FREE := He.str_ok X G (c.fact 50 (f := .str "FREE" "bits") rfl)
  c_LEAST := He.int_ok X G (c.fact 51 (f := .int "LEAST" (-9223372036854775808)) rfl)
  c_MOST := He.int_ok X G (c.fact 52 (f := .int "MOST" (9223372036854775807)) rfl)
  c_ROW := He.str_ok X G (c.fact 53 (f := .str "ROW" "row") rfl)
  g_WORDS := He.glo_ok X G (c.fact 54 (f := .glo "WORDS") rfl)
  t_WORDS := fun H => He.tupB_ok (x := "WORDS") (vs := [.str "add", .str "sub", .str "mul", .str "floor", .str "mod", .str "band", .str "bor", .str "bxor", .str "shl", .str "shr"]) (ex_at c2 0 (b := fun K => He.tupB K "WORDS" [.str "add", .str "sub", .str "mul", .str "floor", .str "mod", .str "band", .str "bor", .str "bxor", .str "shl", .str "shr"]) rfl) H
  n_all := He.free_ok X G (c.fact 55 (f := .free "all") rfl)
  n_any := He.free_ok X G (c.fact 56 (f := .free "any") rfl)
  n_bool := He.free_ok X G (c.fact 57 (f := .free "bool") rfl)
  n_int := He.free_ok X G (c.fact 58 (f := .free "int") rfl)
  n_isinstance := He.free_ok X G (c.fact 59 (f := .free "isinstance") rfl)
  n_len := He.free_ok X G (c.fact 60 (f := .free "len") rfl)
  n_list := He.free_ok X G (c.fact 61 (f := .free "list") rfl)
  n_range := He.free_ok X G (c.fact 62 (f := .free "range") rfl)
  n_str := He.free_ok X G (c.fact 63 (f := .free "str") rfl)
  n_sum := He.free_ok X G (c.fact 64 (f := .free "sum") rfl)
  n_tuple := He.free_ok X G (c.fact 65 (f := .free "tuple") rfl)
  f_Float := of_decide_eq_true (ex_at c2 1 (b := fun K => decide (PySem.W.kitOne K (.type "int") (.ref (He.ga K "Float")) = some false)) rfl)
def names0 : List Str := ["_wall", "__name__", "LuaError", "InvalidArgument", "Thrown", "LEAST", "MOST", "ROOM", "LOWEST", "TOO_GREAT", "Float", "is_plain", "reduced", "fits", "sign_of", "nan", "infinity", "nearest", "wrapped", "to_float", "whole_of", "arith", "whole_or_thrown", "by_bits", "by_floats"]
def names1 : List Str := ["added", "multiplied", "divided", "floored", "remainder", "WORDS", "BITS", "ALL_BITS", "ROW", "FREE", "is_whole_number", "check_equation", "row_told", "bits_told", "span", "inverse", "solved_mul", "solved_floor", "solved_mod", "solved_and", "solved_or", "solved_left", "solved", "count_of", "check_solution"]
def names2 : List Str := ["is_whole_or_many", "how_many_solve", "solution_at", "is_told", "leads_to", "check_map", "behind", "powered", "led", "after_rounds", "tail_and_ring", "meeting_by_bits", "rounds_to", "resting", "_law_well", "_law_draw", "_law_one", "_law_wells", "_law_great", "_law_wrap", "_law_some", "_law_factor", "_law_is_rest_right", "_law_is_ahead_right"]
def names : List Str := names0 ++ names1 ++ names2
abbrev R : PySem.W.OpenRow := PySem.W.OpenLaw.row PySem.Challenge.rw_walkmade_k41_whole_rounds_as_equations
abbrev AlY : Type := He.AlD × Bool
def obY (g : Addr → Option Obj) : AlY := (He.obsDG 4 fa fn g, ex (He.frG g (He.asD g 4)))
def hk : PySem.W.Hook where
  α := AlY
  obs := fun s => obY s.heap.get?
  val := fun _ => (He.valD fn, true)
  says := fun _ h => ∃ K : PySem.W.Frag, K.In h ∧ He.SaysD fa fn K ∧ ex K = true
  of := fun _ _ e => ⟨_, He.frG_in, congrArg (fun z : AlY => z.1) e, congrArg (fun z : AlY => z.2) e⟩
  keeps := fun _ _ _ ⟨K, hK, c⟩ k => ⟨K, PySem.W.Frag.In.keeps hK k, c⟩
def ob (s : PySem.W.SharedT) : AlY := obY (HandSHeadRun.getT s)
theorem ob_eq (s : PySem.W.SharedT) : ob s = hk.obs s.abs := by
  have e : HandSHeadRun.getT s = s.abs.heap.get? := funext (HandSHeadRun.getT_eq s)
  show obY _ = obY _
  rw [e]
theorem run (w : World) : HandSHeadRun.RunEq R (PySem.W.view R.prog [79]) hk ob 6000 names w := by
  intro os
  kernel_rfl
end W41
open PySem PySem.W PySem.Calls PyProof.Rows
theorem PySem.Challenge.cw_walkmade_k41_whole_rounds_as_equations_holds : PySem.Challenge.rw_walkmade_k41_whole_rounds_as_equations.Holds := by
  w_on; o_law
  refine HandSHeadRun.head_any (r := W41.R) (q := view W41.R.prog [79]) (H := W41.hk) (ob := W41.ob) (M := 6000) (loose := W41.names) (d := HandSHeadRun.topDef W41.R.prog 79) (kwd := []) W41.ob_eq
    (by kernel_rfl) (fun s => by kernel_rfl) W41.run (by kernel_rfl) (by kernel_rfl) (by kernel_rfl) (by rfl) (by first | assumption | decide +kernel) (by decide +kernel) ⟨rfl, rfl, rfl, rfl, rfl, by decide +kernel⟩ ?hw ?hc
  case hw => w_witness2
  case hc =>
    refine L2.walk_ofE (l := PySem.Challenge.rw_walkmade_k41_whole_rounds_as_equations) (n := 63) (k := 7) (x := "script") (CX := L2.CX0) rfl (by decide) (by kernel_rfl) ⟨rfl, by decide, by decide⟩ ?F (fun _ _ _ _ z => z)
    intro w mg fa h Y G hmg0
    obtain ⟨K, KX, c, c2⟩ := Y
    have hmg : mg ("law" : PySem.Str) = some (.ref fa) := by
      have e : (HandSHeadRun.topDef W41.R.prog 79).name = ("law" : PySem.Str) := by kernel_rfl
      rw [← e]
      exact hmg0
    have T := W41.tx KX G c c2
    have eg := hmg.symm.trans T.g_law
    cases eg
    obtain ⟨fd, F⟩ := T.d_law
    refine ⟨K, fd, W41.sp_law K, KX, fun s v => ?_, fun H a ns hl _ hS => ⟨a, ns, rfl, hS, hl, fun _ => rfl⟩, fun base _ _ => ?_⟩
    · exact L2.FunD.bindsA (ps := ["script"]) F (fun _ _ _ _ _ _ us hl => match us, hl with | [_], _ => rfl) s [v] rfl
    · exact W41.law_ok T F
