import PyProof.Rows.All
import Wide.All
import OpenK.AllK
import Wide.FinOn
import KE.KStateDown
import Lean
import HandS.ForMost
import HandS.Wide
import HandS.WideBits
import HandS.Flow
import HandS.Style
import HandS.IsInst
import HandS.Defaults
import HandS.Head0
import HandS.Head1
import HandS.Head2
import HandS.HeadEnd
import HandS.HeadHook1
import HandS.HeadHook2
import HandS.HeadHook3
import HandS.OwnEq
import PyProof.NeKinds
import PySem.Challenge.RW_walkmade_k85_whole_sums_through_their_pa
set_option Elab.async false
set_option linter.all false
set_option maxRecDepth 100000
set_option maxHeartbeats 4000000
/-! my walk kit over the hand layer -/
namespace WK
open PySem PySem.Spec PyProof.Rows L2

abbrev Sg := L2.St
/-! ### a def by its name -/
structure Kn (P : Program) (w : World) (K : PySem.W.Frag) (mg : Str → Option Value) (base : Heap) (k : Nat) (x : Str) (ps : List Str) (sp : Sp) : Prop where
  ex : ∃ (f : Addr) (fd : FuncData), FnOk P w K mg base CX0 k f fd ps sp ∧ mg x = some (.ref f) ∧ PySem.W.keepIn K (.ref f) = true ∧ Binds K fd ps []
section
variable {X : Cx} {k : Nat} {sp : Sp} {ps : List Str} {x : Str} {p pos : Pos} {e : Expr} {es : List Expr} {t : TA}
theorem pc (F : Kn X.prog X.w X.K X.mg X.base k x ps sp) (hr : Room k X.A) (ha : PA X (e :: es) t) (hg : Gl X x := by rfl)
    (hdb : (x == ("__debug__" : Str)) = false := by decide) (he : starEach (e :: es) X.env = (false, eval e X.env) :: starEach es X.env := by rfl) (hpl : (backTo pos (starEach es X.env)).any (·.1) = false := by rfl) :
    PE X (.Call (.Name x p) (e :: es) [] pos) (tCall sp [] E0 t) := by
  obtain ⟨f, fd, F, hm, hk, hb⟩ := F.ex
  exact pe_call F hr hg hm hk hb .nil pass0 ha hdb he hpl
theorem pc0 (F : Kn X.prog X.w X.K X.mg X.base k x ps sp) (hr : Room k X.A) (hg : Gl X x := by rfl) (hdb : (x == ("__debug__" : Str)) = false := by decide) :
    PE X (.Call (.Name x p) [] [] pos) (tCall sp [] E0 tNil) := by
  obtain ⟨f, fd, F, hm, hk, hb⟩ := F.ex
  exact pe_call0 F hr hg hm hk hb .nil pass0 hdb
end
section
variable {P : Program} {w : World} {K : PySem.W.Frag} {mg : Str → Option Value} {base : Heap}
theorem kn_mk {x qual : Str} {params : Arguments} {body : List Stmt} {scope : Scope} {f : Addr} {fd : FuncData} {N ps : List Str} {k : Nat} {sp : Sp} (F : FunD K x qual params body scope [] [] f fd) (hm : mg x = some (.ref f)) (S : FnScope N ps scope)
    (bd : ∀ (kV doc pm : Value) (an : Option Addr) (cdv ct : Value) (us : List Value), us.length = ps.length → bindArgs (PySem.W.fnOf x qual params body scope .none kV doc pm an cdv ct) ⟨us, []⟩ = pure (ps.zip us))
    (len : ∀ vs H Q E, sp vs H Q E → vs.length = ps.length)
    (hbody : ∀ (cdv : Value) (A : Around) (outer : List Env) (s : Shared) (H : Hp) (vs : List V) (Q : VK) (E : XK), Room k (A.deeper (envOfC qual scope s.heap.objs.size f cdv)) → sp vs H Q E →
      ∃ t, PSs (cxOf CX0 P w K mg base N qual scope f cdv A outer s H E).nox body t ∧ t { nx := fun _ H' => Q .non H', rt := Q } (start N vs) H) : Kn P w K mg base (k + 1) x ps sp :=
  ⟨f, fd, F.ok S len fun cdv A outer s H vs Q E hr h => by
    obtain ⟨t, ht, q⟩ := hbody cdv A outer s H vs Q E hr h
    exact ⟨t, ht.nox, q⟩, hm, F.kp, F.bindsN bd⟩
end

/-! ### expressions -/
section
variable {X : Cx} {x : Str} {pos : Pos} {e : Expr} {t : TE}
theorem pe_gi {i : Int} (h : ∃ t, X.mg x = some (.int i t)) (hg : Gl X x := by rfl) (hd : (x == ("__debug__" : Str)) = false := by decide) : PE X (.Name x pos) (tC (.int i)) := by
  obtain ⟨t, h⟩ := h
  exact pe_glob hg h ⟨t, rfl⟩ hd
theorem pe_gs {z : Str} (h : ∃ t, X.mg x = some (.str z t)) (hg : Gl X x := by rfl) (hd : (x == ("__debug__" : Str)) = false := by decide) : PE X (.Name x pos) (tC (.str z)) := by
  obtain ⟨t, h⟩ := h
  exact pe_glob hg h ⟨t, rfl⟩ hd
theorem pe_gr {a : Addr} (h : X.mg x = some (.ref a)) (hg : Gl X x := by rfl) (hd : (x == ("__debug__" : Str)) = false := by decide) : PE X (.Name x pos) (tC (.ref a)) := pe_glob hg h rfl hd
/-- an expression that is always one value -/
theorem pe_k {v : V} (h : PE X e t) (hv : ∀ σ H Q, Q v H → t σ H Q) : PE X e (tC v) := ⟨fun pins s σ H Q I q => h.run pins s σ H Q I (hv σ H Q q)⟩
end
theorem k_pow {i j r : Int} (c : CPow i j := by exact ⟨by decide, by decide, by decide⟩) (h : i ^ j.toNat = r := by decide) : ∀ (σ : Sg) (H : Hp) (Q : VK), Q (.int r) H → tOp (rI CPow fun i j => .int (i ^ j.toNat)) (tC (.int i)) (tC (.int j)) σ H Q := fun σ H Q q => ⟨i, j, rfl, rfl, c, by show Q (.int (i ^ j.toNat)) H; rw [h]; exact q⟩
theorem k_shl {i j r : Int} (c : CPow i j := by exact ⟨by decide, by decide, by decide⟩) (h : i * 2 ^ j.toNat = r := by decide) : ∀ (σ : Sg) (H : Hp) (Q : VK), Q (.int r) H → tOp (rI CPow fun i j => .int (i * 2 ^ j.toNat)) (tC (.int i)) (tC (.int j)) σ H Q := fun σ H Q q => ⟨i, j, rfl, rfl, c, by show Q (.int (i * 2 ^ j.toNat)) H; rw [h]; exact q⟩
theorem k_sub {i j r : Int} (h : i - j = r := by decide) : ∀ (σ : Sg) (H : Hp) (Q : VK), Q (.int r) H → tOp (rI0 fun i j => .int (i - j)) (tC (.int i)) (tC (.int j)) σ H Q := fun σ H Q q => ⟨i, j, rfl, rfl, by show Q (.int (i - j)) H; rw [h]; exact q⟩
theorem k_add {i j r : Int} (h : i + j = r := by decide) : ∀ (σ : Sg) (H : Hp) (Q : VK), Q (.int r) H → tOp (rI0 fun i j => .int (i + j)) (tC (.int i)) (tC (.int j)) σ H Q := fun σ H Q q => ⟨i, j, rfl, rfl, by show Q (.int (i + j)) H; rw [h]; exact q⟩
theorem k_mul {i j r : Int} (c : CMul i j := by first | exact .inl ⟨by decide, by decide⟩ | exact .inr ⟨by decide, by decide⟩) (h : i * j = r := by decide) : ∀ (σ : Sg) (H : Hp) (Q : VK), Q (.int r) H → tOp (rI CMul fun i j => .int (i * j)) (tC (.int i)) (tC (.int j)) σ H Q := fun σ H Q q => ⟨i, j, rfl, rfl, c, by show Q (.int (i * j)) H; rw [h]; exact q⟩

/-! ### readings, step by step -/
section
variable {σ : Sg} {H H1 H2 : Hp} {Q : VK} {QB : Bool → Hp → Prop} {QA : List V → Hp → Prop} {D : Ends} {t u : TS} {te ta tb tc : TE} {tt tu : TT} {g : TG} {v x y : V} {i j : Nat} {r r' : R2} {ru : V → Hp → VK → Prop} {rc : List V → Hp → VK → Prop} {ar br : TA} {a b : Int} {K : PySem.W.Frag} {p q : Addr}
theorem g_seq (h : t { D with nx := u D } σ H) : tSeq t u D σ H := h
theorem g_next (h : D.nx σ H) : tNext D σ H := h
theorem g_brk (h : D.bk σ H) : tBreak D σ H := h
theorem g_cont (h : D.ct σ H) : tCont D σ H := h
theorem g_drop (h : te σ H fun _ H1 => D.nx σ H1) : tDrop te D σ H := h
theorem g_asg (h : te σ H fun x H1 => g x σ H1 D.nx) : tAsg te g D σ H := h
theorem g_name {QS : Sg → Hp → Prop} (h : QS (σ.set i (some v)) H) : gName i v σ H QS := h
theorem g_sub {QS : Sg → Hp → Prop} {to ti : TE} {ts : TSet} (h : to σ H fun o H1 => ti σ H1 fun i H2 => ts o i v H2 fun H3 => QS σ H3) : gSub to ti ts v σ H QS := h
theorem g_tup {QS : Sg → Hp → Prop} {n : Nat} {gs : TGs} {xs : List V} (h : SqT K H p xs) (hn : xs.length = n) (k : gs xs σ H QS) : gTup K n gs (.ref p) σ H QS := ⟨p, xs, rfl, h, hn, k⟩
theorem g_gnil {QS : Sg → Hp → Prop} (h : QS σ H) : gNil [] σ H QS := ⟨rfl, h⟩
theorem g_gcons {QS : Sg → Hp → Prop} {gs : TGs} {xs : List V} (h : g v σ H fun σ' H' => gs xs σ' H' QS) : gCons g gs (v :: xs) σ H QS := ⟨v, xs, rfl, h⟩
theorem g_ret (h : te σ H D.rt) : tRet te D σ H := h
theorem g_retN (h : D.rt .non H) : tRetN D σ H := h
theorem g_if (h : tt σ H fun b H1 => if b = true then t D σ H1 else u D σ H1) : tIfS tt t u D σ H := h
theorem g_par (h : ar σ H fun vs H1 => ∃ v w, vs = [v, w] ∧ D.nx ((σ.set i (some v)).set j (some w)) H1) : tPar i j ar D σ H := h
theorem g_par_ {v w : V} {R : V → V → Prop} (h : R v w) : ∃ v' w', [v, w] = [v', w'] ∧ R v' w' := ⟨v, w, rfl, h⟩
theorem g_par3 {l : Nat} (h : ar σ H fun vs H1 => ∃ u v w, vs = [u, v, w] ∧ D.nx (((σ.set i (some u)).set j (some v)).set l (some w)) H1) : tPar3 i j l ar D σ H := h
theorem g_par3_ {u v w : V} {R : V → V → V → Prop} (h : R u v w) : ∃ u' v' w', [u, v, w] = [u', v', w'] ∧ R u' v' w' := ⟨u, v, w, rfl, h⟩
theorem g_var (e : σ[i]? = some (some v)) (h : Q v H) : tVar i σ H Q := ⟨v, e, h⟩
theorem g_c (h : Q v H) : tC v σ H Q := h
theorem g_op (h : ta σ H fun x H1 => tb σ H1 fun y H2 => r x y H2 Q) : tOp r ta tb σ H Q := h
theorem g_un (h : ta σ H fun x H1 => ru x H1 Q) : tUn ru ta σ H Q := h
theorem g_i0 {f : Int → Int → V} (h : Q (f a b) H) : rI0 f (.int a) (.int b) H Q := ⟨a, b, rfl, rfl, h⟩
theorem g_iC {C : Int → Int → Prop} {f : Int → Int → V} (c : C a b) (h : Q (f a b) H) : rI C f (.int a) (.int b) H Q := ⟨a, b, rfl, rfl, c, h⟩
theorem g_uI {f : Int → V} (h : Q (f a) H) : rU f (.int a) H Q := ⟨a, rfl, h⟩
theorem g_eqI (h : Q (.bl (decide (a = b))) H) : rEq (.int a) (.int b) H Q := ⟨rfl, by
  have e : decide (V.int a = V.int b) = decide (a = b) := by
    by_cases z : a = b
    · rw [z]; simp
    · rw [decide_eq_false z]; exact decide_eq_false fun q => z (V.int.inj q)
  rw [e]; exact h⟩
theorem g_neI (h : Q (.bl (!decide (a = b))) H) : rNe (.int a) (.int b) H Q := ⟨rfl, by
  have e : decide (V.int a = V.int b) = decide (a = b) := by
    by_cases z : a = b
    · rw [z]; simp
    · rw [decide_eq_false z]; exact decide_eq_false fun q => z (V.int.inj q)
  rw [e]; exact h⟩
theorem g_eqS {a b : Str} (h : Q (.bl (decide (a = b))) H) : rEq (.str a) (.str b) H Q := ⟨rfl, by
  have e : decide (V.str a = V.str b) = decide (a = b) := by
    by_cases z : a = b
    · rw [z]; simp
    · rw [decide_eq_false z]; exact decide_eq_false fun q => z (V.str.inj q)
  rw [e]; exact h⟩
theorem g_neS {a b : Str} (h : Q (.bl (!decide (a = b))) H) : rNe (.str a) (.str b) H Q := ⟨rfl, by
  have e : decide (V.str a = V.str b) = decide (a = b) := by
    by_cases z : a = b
    · rw [z]; simp
    · rw [decide_eq_false z]; exact decide_eq_false fun q => z (V.str.inj q)
  rw [e]; exact h⟩
theorem g_isN (h : Q (.bl (decide (x = .non))) H) : (∃ _ : True, True) → (V.non = .non ∧ Q (.bl (decide (x = .non))) H) := fun _ => ⟨rfl, h⟩
theorem g_test (h : te σ H fun x H' => ∃ k, x = .bl k ∧ QB k H') : tTest te σ H QB := h
theorem g_tB (h : te σ H fun x H' => ∃ k, x = .bl k ∧ QB k H') : tB te σ H QB := h
theorem g_bl {k : Bool} {R : Bool → Prop} (h : R k) : ∃ k', V.bl k = .bl k' ∧ R k' := ⟨k, rfl, h⟩
theorem g_not (h : tt σ H fun c H1 => QB (!c) H1) : tNot tt σ H QB := h
theorem g_and (h : tt σ H fun c H1 => if c = true then tu σ H1 QB else QB false H1) : tAnd tt tu σ H QB := h
theorem g_or (h : tt σ H fun c H1 => if c = true then QB true H1 else tu σ H1 QB) : tOr tt tu σ H QB := h
theorem g_andV (h : ta σ H fun x H1 => ∃ c, x = .bl c ∧ if c = true then tb σ H1 Q else Q (.bl false) H1) : tAndV ta tb σ H Q := h
theorem g_orV (h : ta σ H fun x H1 => ∃ c, x = .bl c ∧ if c = true then Q (.bl true) H1 else tb σ H1 Q) : tOrV ta tb σ H Q := h
theorem g_notV (h : ta σ H fun x H1 => ∃ c, x = .bl c ∧ Q (.bl (!c)) H1) : tNotV ta σ H Q := h
theorem g_ifE (h : tt σ H fun c H1 => if c = true then ta σ H1 Q else tb σ H1 Q) : tIf tt ta tb σ H Q := h
theorem g_chain (h : ta σ H fun x H1 => tb σ H1 fun y H2 => r x y H2 fun z H3 => ∃ k, z = .bl k ∧ (if k = true then tc σ H3 fun w' H4 => r' y w' H4 Q else Q (.bl false) H3)) : tChain r r' ta tb tc σ H Q := h
theorem g_nil (h : QA [] H) : tNil σ H QA := h
theorem g_cons (h : ta σ H fun x H1 => ar σ H1 fun xs H2 => QA (x :: xs) H2) : tCons ta ar σ H QA := h
theorem g_tupD (h : ar σ H fun xs H1 => xs.length ≤ sizeLine ∧ ∀ p, H1 p = none → Q (.ref p) (upd H1 p (.tup xs))) : tTup ar σ H Q := h
theorem g_lstD (h : ar σ H fun xs H1 => xs.length ≤ sizeLine ∧ ∀ p, H1 p = none → Q (.ref p) (upd H1 p (.lst xs))) : tLst ar σ H Q := h
theorem g_size {xs : List V} {P : Prop} (hl : xs.length ≤ 1000) (h : P) : xs.length ≤ sizeLine ∧ P := ⟨Nat.le_trans hl (by decide), h⟩
theorem g_call {sp : Sp} {dvs : List V} {E : XK} (h : ar σ H fun vs H1 => sp (vs ++ dvs) H1 Q E) : tCall sp dvs E ar σ H Q := h
theorem g_cb (h : ar σ H fun vs H1 => rc vs H1 Q) : tCB rc ar σ H Q := h
theorem g_ixT {xs : List V} (h : SqT K H p xs) (hv : atI xs a = some v) (k : Q v H) : rIxT K (.ref p) (.int a) H Q := ⟨p, xs, a, v, rfl, rfl, h, hv, k⟩
theorem g_ixL {xs : List V} (h : SqL K H p xs) (hv : atI xs a = some v) (k : Q v H) : rIxL K (.ref p) (.int a) H Q := ⟨p, xs, a, v, rfl, rfl, h, hv, k⟩
theorem g_setL {QH : Hp → Prop} {xs : List V} {n : Nat} (h : H p = some (.lst xs)) (hv : ixN xs.length a = some n) (k : QH (upd H p (.lst (xs.set n v)))) : rSetL (.ref p) (.int a) v H QH := ⟨p, xs, a, n, rfl, rfl, h, hv, k⟩
theorem g_all {R : Addr → Prop} (h : ∀ p, H p = none → R p) : ∀ p, H p = none → R p := h
theorem g_newT {R : Addr → Prop} {xs : List V} (h : ∀ p, H p = none → upd H p (.tup xs) p = some (.tup xs) → R p) : ∀ p, H p = none → upd H p (.tup xs) p = some (.tup xs) → R p := h
theorem g_newL {R : Addr → Prop} {xs : List V} (h : ∀ p, H p = none → upd H p (.lst xs) p = some (.lst xs) → R p) : ∀ p, H p = none → upd H p (.lst xs) p = some (.lst xs) → R p := h
theorem sqt_s1 {H0 : Hp} {xs : List V} (h : SqT K H0 p xs) (s : Same H0 H) : SqT K H p xs := by
  rcases h with (h | ⟨o, h⟩) | h
  · exact .inl (.inl (s _ _ h))
  · exact .inl (.inr ⟨o, s _ _ h⟩)
  · exact .inr h
theorem free2 {H0 : Hp} (h : H p = none) (s : Same H0 H) : H0 p = none := s.free h
theorem sqt_s2 {H0 : Hp} {xs : List V} (h : H0 p = some (.tup xs)) (s : Same H0 H) : SqT K H p xs := .inl (.inl (s _ _ h))
theorem sql_s1 {H0 : Hp} {xs : List V} (h : SqL K H0 p xs) (s : Same H0 H) : SqL K H p xs := s.seq h
theorem sql_s2 {H0 : Hp} {xs : List V} (h : H0 p = some (.lst xs)) (s : Same H0 H) : SqL K H p xs := .inl (.inl (s _ _ h))
theorem at_s1 {H0 : Hp} {o : HO} (h : H0 p = some o) (s : Same H0 H) : H p = some o := s p o h
theorem g_inT {xs : List V} {bb : Bool} (h : SqT K H p xs) (hx : flatV x = true) (ha : xs.all flatV = true) (e : inV x xs = bb) (k : Q (.bl bb) H) : rIn K false x (.ref p) H Q := ⟨p, xs, rfl, .inr h, hx, ha, by rw [e]; exact k⟩
theorem g_notInT {xs : List V} {bb : Bool} (h : SqT K H p xs) (hx : flatV x = true) (ha : xs.all flatV = true) (e : inV x xs = bb) (k : Q (.bl (!bb)) H) : rIn K true x (.ref p) H Q := ⟨p, xs, rfl, .inr h, hx, ha, by rw [e]; exact k⟩
theorem g_inL {xs : List V} {bb : Bool} (h : SqL K H p xs) (hx : flatV x = true) (ha : xs.all flatV = true) (e : inV x xs = bb) (k : Q (.bl bb) H) : rIn K false x (.ref p) H Q := ⟨p, xs, rfl, .inl h, hx, ha, by rw [e]; exact k⟩
/-- a test that was reckoned -/
theorem g_ite {c A B : Prop} [Decidable c] (h1 : c → A) (h2 : ¬ c → B) : if decide c = true then A else B := by
  by_cases h : c
  · rw [if_pos (decide_eq_true h)]; exact h1 h
  · rw [if_neg (by rw [decide_eq_false h]; exact Bool.false_ne_true)]; exact h2 h
theorem g_iteN {c A B : Prop} [Decidable c] (h1 : ¬ c → A) (h2 : c → B) : if (!decide c) = true then A else B := by
  by_cases h : c
  · rw [decide_eq_true h]; exact iteF (h2 h)
  · rw [decide_eq_false h]; exact iteT (h1 h)
theorem g_iteY {c A B : Prop} [Decidable c] (h : c) (h1 : A) : if decide c = true then A else B := by rw [if_pos (decide_eq_true h)]; exact h1
theorem g_iteX {c A B : Prop} [Decidable c] (h : ¬ c) (h1 : B) : if decide c = true then A else B := by rw [if_neg (by rw [decide_eq_false h]; exact Bool.false_ne_true)]; exact h1
theorem g_iteNY {c A B : Prop} [Decidable c] (h : ¬ c) (h1 : A) : if (!decide c) = true then A else B := by rw [decide_eq_false h]; exact iteT h1
theorem g_iteNX {c A B : Prop} [Decidable c] (h : c) (h1 : B) : if (!decide c) = true then A else B := by rw [decide_eq_true h]; exact iteF h1
theorem g_iT {A B : Prop} (h : A) : if true = true then A else B := by rw [if_pos rfl]; exact h
theorem g_iF {A B : Prop} (h : B) : if false = true then A else B := by rw [if_neg Bool.false_ne_true]; exact h
theorem g_iNT {A B : Prop} (h : B) : if (!true) = true then A else B := h
theorem g_iNF {A B : Prop} (h : A) : if (!false) = true then A else B := h
/-! ### heaps -/
theorem same_new {o : HO} (np : H p = none) : Same H (upd H p o) := fun b u e => by rw [upd_ne (ne_of_none e np)]; exact e
theorem same_mut {o : HO} (s : Same H H1) (np : H p = none) : Same H (upd H1 p o) := fun b u e => by rw [upd_ne (ne_of_none e np)]; exact s b u e
theorem at_same {o : HO} (s : Same H H1) (h : H p = some o) : H1 p = some o := s p o h
theorem at_new {o u : HO} (np : H p = none) (h : H q = some o) : upd H p u q = some o := by rw [upd_ne (ne_of_none h np)]; exact h
theorem sqt_same {xs : List V} (s : Same H H1) (h : SqT K H p xs) : SqT K H1 p xs := by
  rcases h with (h | ⟨o, h⟩) | h
  · exact .inl (.inl (s _ _ h))
  · exact .inl (.inr ⟨o, s _ _ h⟩)
  · exact .inr h
theorem sqt_new {xs : List V} {o : HO} (np : H p = none) (h : SqT K H q xs) : SqT K (upd H p o) q xs := sqt_same (same_new np) h
theorem sqt_of {xs : List V} (h : H p = some (.tup xs)) : SqT K H p xs := .inl (.inl h)
theorem sql_of {xs : List V} (h : H p = some (.lst xs)) : SqL K H p xs := .inl (.inl h)
theorem sql_same {xs : List V} (s : Same H H1) (h : SqL K H p xs) : SqL K H1 p xs := s.seq h
theorem sql_new {xs : List V} {o : HO} (np : H p = none) (h : SqL K H q xs) : SqL K (upd H p o) q xs := (same_new np).seq h
end
/-! ### loops -/
section
variable {σ : Sg} {H : Hp} {D : Ends} {tb : TS} {tt : TT} {g : TG} {wi : TI} {ta : TA} {te : TE} {K : PySem.W.Frag} {R : It → Hp → Prop}
/-- while: W with its measure -/
theorem g_while (W : Nat → Sg → Hp → Prop) (m0 : Nat) (h0 : W m0 σ H)
    (hs : ∀ m σ H, W m σ H → tt σ H fun b H1 => if b = true then ∃ N : Sg → Hp → Prop, (∀ σ' H', N σ' H' → ∃ m', m' < m ∧ W m' σ' H') ∧ tb { D with nx := N, ct := N, bk := D.nx } σ H1 else D.nx σ H1) : tWhile tt tb D σ H := ⟨W, ⟨m0, h0⟩, hs⟩
theorem g_wN {W : Nat → Sg → Hp → Prop} {m : Nat} (h : tb { D with nx := fun σ' H' => ∃ m', m' < m ∧ W m' σ' H', ct := fun σ' H' => ∃ m', m' < m ∧ W m' σ' H', bk := D.nx } σ H) :
    ∃ N : Sg → Hp → Prop, (∀ σ' H', N σ' H' → ∃ m', m' < m ∧ W m' σ' H') ∧ tb { D with nx := N, ct := N, bk := D.nx } σ H := ⟨_, fun _ _ n => n, h⟩
theorem g_for (h : wi σ H fun J H1 => ∃ W : Nat → Nat → Sg → Hp → Prop, (∃ m, W 0 m σ H1) ∧ ∀ i m σ H, W i m σ H →
  (J.stop i H ∧ D.nx σ H) ∨ (J.go i H ∧ ∃ N : Sg → Hp → Prop, (∀ σ' H', N σ' H' → ∃ m', m' < m ∧ W (i + 1) m' σ' H') ∧ ∀ x H', J.yld i H x H' → g x σ H' fun σ2 H2 => tb { D with nx := N, ct := N, bk := D.nx } σ2 H2)) : tFor wi g tb D σ H := h
theorem g_rng1 (h : ta σ H fun vs H1 => ∃ j : Int, vs = [.int j] ∧ -(2 ^ 62) ≤ j ∧ j < 2 ^ 62 ∧ R (Itr 0 j.toNat) H1) : iRng1 ta σ H R := h
theorem g_rng2 (h : ta σ H fun vs H1 => ∃ i j : Int, vs = [.int i, .int j] ∧ (-(2 ^ 62) ≤ i ∧ i < 2 ^ 62 ∧ -(2 ^ 62) ≤ j ∧ j < 2 ^ 62) ∧ R (Itr i (j - i).toNat) H1) : iRng2 ta σ H R := h
theorem g_iList (h : te σ H fun x H1 => ∃ a, x = .ref a ∧ (∃ xs, SqL K H1 a xs) ∧ R (Itl K a) H1) : iList K te σ H R := h
theorem g_iTup (h : te σ H fun x H1 => ∃ a, x = .ref a ∧ (∃ xs, SqT K H1 a xs) ∧ R (Itt K a) H1) : iTup K te σ H R := h
end
/-! ### readings by simp -/
section
variable {σ : Sg} {H : Hp} {Q : VK} {D : Ends} {v : V} {o : Option V} {i : Nat} {a b : Int} {C : Int → Int → Prop} {f : Int → Int → V}
theorem x_var0 : tVar 0 (some v :: σ) H Q = Q v H := by
  refine propext ⟨fun ⟨u, e, h⟩ => ?_, fun h => ⟨v, rfl, h⟩⟩
  have e2 : v = u := by simpa using e
  rw [e2]; exact h
theorem x_varS : tVar (i + 1) (o :: σ) H Q = tVar i σ H Q := by
  unfold tVar
  rw [List.getElem?_cons_succ]
theorem x_var1 {o0 : Option V} : tVar 1 (o0 :: some v :: σ) H Q = Q v H := by rw [show (1 : Nat) = 0 + 1 by rfl, x_varS, x_var0]
theorem x_var2 {o0 o1 : Option V} : tVar 2 (o0 :: o1 :: some v :: σ) H Q = Q v H := by rw [show (2 : Nat) = 1 + 1 by rfl, x_varS, x_var1]
theorem x_var3 {o0 o1 o2 : Option V} : tVar 3 (o0 :: o1 :: o2 :: some v :: σ) H Q = Q v H := by rw [show (3 : Nat) = 2 + 1 by rfl, x_varS, x_var2]
theorem x_var4 {o0 o1 o2 o3 : Option V} : tVar 4 (o0 :: o1 :: o2 :: o3 :: some v :: σ) H Q = Q v H := by rw [show (4 : Nat) = 3 + 1 by rfl, x_varS, x_var3]
theorem x_var5 {o0 o1 o2 o3 o4 : Option V} : tVar 5 (o0 :: o1 :: o2 :: o3 :: o4 :: some v :: σ) H Q = Q v H := by rw [show (5 : Nat) = 4 + 1 by rfl, x_varS, x_var4]
theorem x_var6 {o0 o1 o2 o3 o4 o5 : Option V} : tVar 6 (o0 :: o1 :: o2 :: o3 :: o4 :: o5 :: some v :: σ) H Q = Q v H := by rw [show (6 : Nat) = 5 + 1 by rfl, x_varS, x_var5]
theorem x_var7 {o0 o1 o2 o3 o4 o5 o6 : Option V} : tVar 7 (o0 :: o1 :: o2 :: o3 :: o4 :: o5 :: o6 :: some v :: σ) H Q = Q v H := by rw [show (7 : Nat) = 6 + 1 by rfl, x_varS, x_var6]
theorem x_var8 {o0 o1 o2 o3 o4 o5 o6 o7 : Option V} : tVar 8 (o0 :: o1 :: o2 :: o3 :: o4 :: o5 :: o6 :: o7 :: some v :: σ) H Q = Q v H := by rw [show (8 : Nat) = 7 + 1 by rfl, x_varS, x_var7]
theorem x_var9 {o0 o1 o2 o3 o4 o5 o6 o7 o8 : Option V} : tVar 9 (o0 :: o1 :: o2 :: o3 :: o4 :: o5 :: o6 :: o7 :: o8 :: some v :: σ) H Q = Q v H := by rw [show (9 : Nat) = 8 + 1 by rfl, x_varS, x_var8]
theorem x_var10 {o0 o1 o2 o3 o4 o5 o6 o7 o8 o9 : Option V} : tVar 10 (o0 :: o1 :: o2 :: o3 :: o4 :: o5 :: o6 :: o7 :: o8 :: o9 :: some v :: σ) H Q = Q v H := by rw [show (10 : Nat) = 9 + 1 by rfl, x_varS, x_var9]
theorem x_var11 {o0 o1 o2 o3 o4 o5 o6 o7 o8 o9 o10 : Option V} : tVar 11 (o0 :: o1 :: o2 :: o3 :: o4 :: o5 :: o6 :: o7 :: o8 :: o9 :: o10 :: some v :: σ) H Q = Q v H := by rw [show (11 : Nat) = 10 + 1 by rfl, x_varS, x_var10]
theorem x_var12 {o0 o1 o2 o3 o4 o5 o6 o7 o8 o9 o10 o11 : Option V} : tVar 12 (o0 :: o1 :: o2 :: o3 :: o4 :: o5 :: o6 :: o7 :: o8 :: o9 :: o10 :: o11 :: some v :: σ) H Q = Q v H := by rw [show (12 : Nat) = 11 + 1 by rfl, x_varS, x_var11]
theorem x_var13 {o0 o1 o2 o3 o4 o5 o6 o7 o8 o9 o10 o11 o12 : Option V} : tVar 13 (o0 :: o1 :: o2 :: o3 :: o4 :: o5 :: o6 :: o7 :: o8 :: o9 :: o10 :: o11 :: o12 :: some v :: σ) H Q = Q v H := by rw [show (13 : Nat) = 12 + 1 by rfl, x_varS, x_var12]
theorem x_var14 {o0 o1 o2 o3 o4 o5 o6 o7 o8 o9 o10 o11 o12 o13 : Option V} : tVar 14 (o0 :: o1 :: o2 :: o3 :: o4 :: o5 :: o6 :: o7 :: o8 :: o9 :: o10 :: o11 :: o12 :: o13 :: some v :: σ) H Q = Q v H := by rw [show (14 : Nat) = 13 + 1 by rfl, x_varS, x_var13]
theorem x_var15 {o0 o1 o2 o3 o4 o5 o6 o7 o8 o9 o10 o11 o12 o13 o14 : Option V} : tVar 15 (o0 :: o1 :: o2 :: o3 :: o4 :: o5 :: o6 :: o7 :: o8 :: o9 :: o10 :: o11 :: o12 :: o13 :: o14 :: some v :: σ) H Q = Q v H := by rw [show (15 : Nat) = 14 + 1 by rfl, x_varS, x_var14]
theorem x_set1 {α : Type} {o0 o1 x : α} {r : List α} : (o0 :: o1 :: r).set 1 x = o0 :: x :: r := rfl
theorem x_set2 {α : Type} {o0 o1 o2 x : α} {r : List α} : (o0 :: o1 :: o2 :: r).set 2 x = o0 :: o1 :: x :: r := rfl
theorem x_set3 {α : Type} {o0 o1 o2 o3 x : α} {r : List α} : (o0 :: o1 :: o2 :: o3 :: r).set 3 x = o0 :: o1 :: o2 :: x :: r := rfl
theorem x_set4 {α : Type} {o0 o1 o2 o3 o4 x : α} {r : List α} : (o0 :: o1 :: o2 :: o3 :: o4 :: r).set 4 x = o0 :: o1 :: o2 :: o3 :: x :: r := rfl
theorem x_set5 {α : Type} {o0 o1 o2 o3 o4 o5 x : α} {r : List α} : (o0 :: o1 :: o2 :: o3 :: o4 :: o5 :: r).set 5 x = o0 :: o1 :: o2 :: o3 :: o4 :: x :: r := rfl
theorem x_set6 {α : Type} {o0 o1 o2 o3 o4 o5 o6 x : α} {r : List α} : (o0 :: o1 :: o2 :: o3 :: o4 :: o5 :: o6 :: r).set 6 x = o0 :: o1 :: o2 :: o3 :: o4 :: o5 :: x :: r := rfl
theorem x_set7 {α : Type} {o0 o1 o2 o3 o4 o5 o6 o7 x : α} {r : List α} : (o0 :: o1 :: o2 :: o3 :: o4 :: o5 :: o6 :: o7 :: r).set 7 x = o0 :: o1 :: o2 :: o3 :: o4 :: o5 :: o6 :: x :: r := rfl
theorem x_set8 {α : Type} {o0 o1 o2 o3 o4 o5 o6 o7 o8 x : α} {r : List α} : (o0 :: o1 :: o2 :: o3 :: o4 :: o5 :: o6 :: o7 :: o8 :: r).set 8 x = o0 :: o1 :: o2 :: o3 :: o4 :: o5 :: o6 :: o7 :: x :: r := rfl
theorem x_set9 {α : Type} {o0 o1 o2 o3 o4 o5 o6 o7 o8 o9 x : α} {r : List α} : (o0 :: o1 :: o2 :: o3 :: o4 :: o5 :: o6 :: o7 :: o8 :: o9 :: r).set 9 x = o0 :: o1 :: o2 :: o3 :: o4 :: o5 :: o6 :: o7 :: o8 :: x :: r := rfl
theorem x_set10 {α : Type} {o0 o1 o2 o3 o4 o5 o6 o7 o8 o9 o10 x : α} {r : List α} : (o0 :: o1 :: o2 :: o3 :: o4 :: o5 :: o6 :: o7 :: o8 :: o9 :: o10 :: r).set 10 x = o0 :: o1 :: o2 :: o3 :: o4 :: o5 :: o6 :: o7 :: o8 :: o9 :: x :: r := rfl
theorem x_set11 {α : Type} {o0 o1 o2 o3 o4 o5 o6 o7 o8 o9 o10 o11 x : α} {r : List α} : (o0 :: o1 :: o2 :: o3 :: o4 :: o5 :: o6 :: o7 :: o8 :: o9 :: o10 :: o11 :: r).set 11 x = o0 :: o1 :: o2 :: o3 :: o4 :: o5 :: o6 :: o7 :: o8 :: o9 :: o10 :: x :: r := rfl
theorem x_set12 {α : Type} {o0 o1 o2 o3 o4 o5 o6 o7 o8 o9 o10 o11 o12 x : α} {r : List α} : (o0 :: o1 :: o2 :: o3 :: o4 :: o5 :: o6 :: o7 :: o8 :: o9 :: o10 :: o11 :: o12 :: r).set 12 x = o0 :: o1 :: o2 :: o3 :: o4 :: o5 :: o6 :: o7 :: o8 :: o9 :: o10 :: o11 :: x :: r := rfl
theorem x_set13 {α : Type} {o0 o1 o2 o3 o4 o5 o6 o7 o8 o9 o10 o11 o12 o13 x : α} {r : List α} : (o0 :: o1 :: o2 :: o3 :: o4 :: o5 :: o6 :: o7 :: o8 :: o9 :: o10 :: o11 :: o12 :: o13 :: r).set 13 x = o0 :: o1 :: o2 :: o3 :: o4 :: o5 :: o6 :: o7 :: o8 :: o9 :: o10 :: o11 :: o12 :: x :: r := rfl
theorem x_set14 {α : Type} {o0 o1 o2 o3 o4 o5 o6 o7 o8 o9 o10 o11 o12 o13 o14 x : α} {r : List α} : (o0 :: o1 :: o2 :: o3 :: o4 :: o5 :: o6 :: o7 :: o8 :: o9 :: o10 :: o11 :: o12 :: o13 :: o14 :: r).set 14 x = o0 :: o1 :: o2 :: o3 :: o4 :: o5 :: o6 :: o7 :: o8 :: o9 :: o10 :: o11 :: o12 :: o13 :: x :: r := rfl
theorem x_set15 {α : Type} {o0 o1 o2 o3 o4 o5 o6 o7 o8 o9 o10 o11 o12 o13 o14 o15 x : α} {r : List α} : (o0 :: o1 :: o2 :: o3 :: o4 :: o5 :: o6 :: o7 :: o8 :: o9 :: o10 :: o11 :: o12 :: o13 :: o14 :: o15 :: r).set 15 x = o0 :: o1 :: o2 :: o3 :: o4 :: o5 :: o6 :: o7 :: o8 :: o9 :: o10 :: o11 :: o12 :: o13 :: o14 :: x :: r := rfl
theorem x_i0 : rI0 f (.int a) (.int b) H Q = Q (f a b) H := propext ⟨fun ⟨i, j, e1, e2, h⟩ => by cases e1; cases e2; exact h, fun h => ⟨a, b, rfl, rfl, h⟩⟩
theorem x_iC : rI C f (.int a) (.int b) H Q = (C a b ∧ Q (f a b) H) := propext ⟨fun ⟨i, j, e1, e2, c, h⟩ => by cases e1; cases e2; exact ⟨c, h⟩, fun ⟨c, h⟩ => ⟨a, b, rfl, rfl, c, h⟩⟩
theorem x_uI {f : Int → V} : rU f (.int a) H Q = Q (f a) H := propext ⟨fun ⟨i, e1, h⟩ => by cases e1; exact h, fun h => ⟨a, rfl, h⟩⟩
theorem x_bl {k : Bool} {R : Bool → Prop} : (∃ c, V.bl k = .bl c ∧ R c) = R k := propext ⟨fun ⟨c, e, h⟩ => by cases e; exact h, fun h => ⟨k, rfl, h⟩⟩
theorem x_eqI : rEq (.int a) (.int b) H Q = Q (.bl (decide (a = b))) H := propext ⟨fun ⟨_, h⟩ => by
  have e : decide (V.int a = V.int b) = decide (a = b) := by simp
  rw [e] at h; exact h, g_eqI⟩
theorem x_neI : rNe (.int a) (.int b) H Q = Q (.bl (!decide (a = b))) H := propext ⟨fun ⟨_, h⟩ => by
  have e : decide (V.int a = V.int b) = decide (a = b) := by simp
  rw [e] at h; exact h, g_neI⟩
theorem x_eqS {a b : Str} : rEq (.str a) (.str b) H Q = Q (.bl (decide (a = b))) H := propext ⟨fun ⟨_, h⟩ => by
  have e : decide (V.str a = V.str b) = decide (a = b) := by simp
  rw [e] at h; exact h, g_eqS⟩
theorem x_neS {a b : Str} : rNe (.str a) (.str b) H Q = Q (.bl (!decide (a = b))) H := propext ⟨fun ⟨_, h⟩ => by
  have e : decide (V.str a = V.str b) = decide (a = b) := by simp
  rw [e] at h; exact h, g_neS⟩
theorem x_isN {x : V} {R : Prop} : (V.non = .non ∧ R) = R := propext ⟨fun h => h.2, fun h => ⟨rfl, h⟩⟩
theorem x_par {v w : V} {R : V → V → Prop} : (∃ v' w', [v, w] = [v', w'] ∧ R v' w') = R v w := propext ⟨fun ⟨a, b, e, h⟩ => by cases e; exact h, fun h => ⟨v, w, rfl, h⟩⟩
theorem x_par3 {u v w : V} {R : V → V → V → Prop} : (∃ u' v' w', [u, v, w] = [u', v', w'] ∧ R u' v' w') = R u v w := propext ⟨fun ⟨a, b, c, e, h⟩ => by cases e; exact h, fun h => ⟨u, v, w, rfl, h⟩⟩
theorem x_gnil {QS : Sg → Hp → Prop} : gNil [] σ H QS = QS σ H := propext ⟨fun ⟨_, h⟩ => h, fun h => ⟨rfl, h⟩⟩
theorem x_gcons {QS : Sg → Hp → Prop} {g : TG} {gs : TGs} {xs : List V} : gCons g gs (v :: xs) σ H QS = g v σ H (fun σ' H' => gs xs σ' H' QS) := propext ⟨fun ⟨a, b, e, h⟩ => by cases e; exact h, fun h => ⟨v, xs, rfl, h⟩⟩
theorem x_one {j : Int} {R : Int → Prop} : (∃ i, V.int j = .int i ∧ R i) = R j := propext ⟨fun ⟨i, e, h⟩ => by cases e; exact h, fun h => ⟨j, rfl, h⟩⟩
theorem x_rt {nx : Sg → Hp → Prop} {rt : VK} {bk ct : Sg → Hp → Prop} : (Ends.mk nx rt bk ct).rt = rt := rfl
theorem x_nx {nx : Sg → Hp → Prop} {rt : VK} {bk ct : Sg → Hp → Prop} : (Ends.mk nx rt bk ct).nx = nx := rfl
theorem x_bk {nx : Sg → Hp → Prop} {rt : VK} {bk ct : Sg → Hp → Prop} : (Ends.mk nx rt bk ct).bk = bk := rfl
theorem x_ct {nx : Sg → Hp → Prop} {rt : VK} {bk ct : Sg → Hp → Prop} : (Ends.mk nx rt bk ct).ct = ct := rfl
theorem st_as {t : TS} {σ' : Sg} (e : σ = σ') (h : t D σ' H) : t D σ H := e ▸ h
end
/-! ### isinstance by built-in types -/
section
variable {K : PySem.W.Frag} {H : Hp} {Q : VK} {p : Addr} {xs : List V}
theorem isi_ty {x : V} {a c : String} {b : Bool} (hx : TyX K H x (.type a)) (hk : kitB a c = some b) (h : Q (.bl b) H) : rIsi K [x, .ty c] H Q := ⟨x, .ty c, .type a, .type c, b, rfl, .ty c, hx, kit_ty hk, h⟩
theorem ty_int (i : Int) : TyX K H (.int i) (.type "int") := .base (.int i)
theorem ty_bl (i : Bool) : TyX K H (.bl i) (.type "bool") := .base (.bl i)
theorem ty_str (i : Str) : TyX K H (.str i) (.type "str") := .base (.str i)
theorem ty_non : TyX K H .non (.type "NoneType") := .base .non
theorem ty_tup (h : SqT K H p xs) : TyX K H (.ref p) (.type "tuple") := by
  rcases h with (h | ⟨o, h⟩) | h
  · exact .base (.tup h)
  · exact .fTuple h
  · obtain ⟨o, its, n, e, c, _⟩ := h
    exact .kTuple e c
theorem kb1 : kitB "int" "int" = some true := by decide +kernel
theorem kb2 : kitB "int" "bool" = some false := by decide +kernel
theorem kb3 : kitB "str" "str" = some true := by decide +kernel
theorem kb4 : kitB "tuple" "tuple" = some true := by decide +kernel
theorem kb5 : kitB "int" "str" = some false := by decide +kernel
theorem kb6 : kitB "str" "int" = some false := by decide +kernel
theorem kb7 : kitB "bool" "bool" = some true := by decide +kernel
theorem kb8 : kitB "bool" "int" = some true := by decide +kernel
theorem kb9 : kitB "NoneType" "tuple" = some false := by decide +kernel
theorem kb10 : kitB "NoneType" "int" = some false := by decide +kernel
theorem kb11 : kitB "tuple" "str" = some false := by decide +kernel
theorem kb12 : kitB "tuple" "int" = some false := by decide +kernel
theorem isi_ii {i : Int} (h : Q (.bl true) H) : rIsi K [.int i, .ty "int"] H Q := isi_ty (ty_int i) kb1 h
theorem isi_ib {i : Int} (h : Q (.bl false) H) : rIsi K [.int i, .ty "bool"] H Q := isi_ty (ty_int i) kb2 h
theorem isi_is {i : Int} (h : Q (.bl false) H) : rIsi K [.int i, .ty "str"] H Q := isi_ty (ty_int i) kb5 h
theorem isi_ss {i : Str} (h : Q (.bl true) H) : rIsi K [.str i, .ty "str"] H Q := isi_ty (ty_str i) kb3 h
theorem isi_tt (ht : SqT K H p xs) (h : Q (.bl true) H) : rIsi K [.ref p, .ty "tuple"] H Q := isi_ty (ty_tup ht) kb4 h
theorem isi_bb {i : Bool} (h : Q (.bl true) H) : rIsi K [.bl i, .ty "bool"] H Q := isi_ty (ty_bl i) kb7 h
end
theorem cx_K {CX : CXT} {P : Program} {w : World} {K : PySem.W.Frag} {mg : Str → Option Value} {base : Heap} {N : List Str} {qual : Str} {scope : Scope} {f : Addr} {cd : Value} {A : Around} {outer : List Env} {s : Shared} {H : Hp} {E : XK} :
    (cxOf CX P w K mg base N qual scope f cd A outer s H E).nox.K = K := rfl
theorem cx_K1 {CX : CXT} {P : Program} {w : World} {K : PySem.W.Frag} {mg : Str → Option Value} {base : Heap} {N : List Str} {qual : Str} {scope : Scope} {f : Addr} {cd : Value} {A : Around} {outer : List Env} {s : Shared} {H : Hp} {E : XK} :
    (cxOf CX P w K mg base N qual scope f cd A outer s H E).K = K := rfl
theorem g_pY {c A B : Prop} [Decidable c] (h : c) (h1 : A) : if c then A else B := by rw [if_pos h]; exact h1
theorem g_pX {c A B : Prop} [Decidable c] (h : ¬ c) (h1 : B) : if c then A else B := by rw [if_neg h]; exact h1
theorem cx_A {CX : CXT} {P : Program} {w : World} {K : PySem.W.Frag} {mg : Str → Option Value} {base : Heap} {N : List Str} {qual : Str} {scope : Scope} {f : Addr} {cd : Value} {A : Around} {outer : List Env} {s : Shared} {H : Hp} {E : XK} :
    (cxOf CX P w K mg base N qual scope f cd A outer s H E).nox.A = A.deeper (envOfC qual scope s.heap.objs.size f cd) := rfl
/-! ### conditions -/
theorem cdw_of {i j : Int} (h0 : 0 < j) (h : j ≤ 18446744073709551616) : CDivW i j := wide_div (b := 65) h0 (by
  have e : (2 : Nat) ^ 65 = 36893488147419103232 := by decide
  rw [e]; omega) (by decide) (by decide)
theorem cpow_of {i j : Int} (h0 : 0 ≤ j) (h : j ≤ 1000000) (hi : -18446744073709551616 < i ∧ i < 18446744073709551616) : CPow i j := ⟨h0, h, by
  have e : (2 : Nat) ^ 64 = 18446744073709551616 := by decide
  rw [e]; omega⟩
/-! ### a call of a value that is a def -/
def tCallX (P : Program) (w : World) (K : PySem.W.Frag) (mg : Str → Option Value) (base : Heap) (k : Nat) (tf : TE) (t : TA) : TE := fun σ H Q => tf σ H fun v H1 => ∃ (f : Addr) (x : Str) (ps : List Str) (sp : Sp), v = .ref f ∧ mg x = some (.ref f) ∧ Kn P w K mg base k x ps sp ∧ t σ H1 fun vs H2 => sp vs H2 Q E0
theorem arm_call_any {func : Expr} {args : List Expr} {keywords : List Keyword} {pos : Pos} {env : Env} (h : eval (.Call func args keywords pos) env = (do callWith pos (← eval func env) [] (backTo pos (starEach args env)) (backToKw pos (keywordEach keywords env)))) : True := trivial
theorem pe_callX {X : Cx} {k : Nat} {fe : Expr} {tf : TE} {pos : Pos} {e : Expr} {es : List Expr} {t : TA} (hf : PE X fe tf) (hr : Room k X.A) (ha : PA X (e :: es) t)
    (hev : eval (.Call fe (e :: es) [] pos) X.env = (do callWith pos (← eval fe X.env) [] (backTo pos (starEach (e :: es) X.env)) (backToKw pos (keywordEach [] X.env))) := by rfl)
    (he : starEach (e :: es) X.env = (false, eval e X.env) :: starEach es X.env := by rfl) (hpl : (backTo pos (starEach es X.env)).any (·.1) = false := by rfl) :
    PE X (.Call fe (e :: es) [] pos) (tCallX X.prog X.w X.K X.mg X.base k tf t) := by
  refine ⟨fun pins s σ H Q I h => ?_⟩
  rw [hev]
  refine wpAny_bind (thn (hf.run pins s σ H _ I h) fun u s1 ⟨v, H1, I1, r1, q1⟩ => ?_)
  obtain ⟨f, x, ps, sp, rfl, hm, Kf, q1⟩ := q1
  obtain ⟨f', fd, F, hm', hk, hb⟩ := Kf.ex
  have ef : f' = f := by rw [hm] at hm'; exact (Value.ref.inj (Option.some.inj hm')).symm
  subst ef
  cases r1
  refine PySem.W.callWith_K (h₀ := X.base) I.ok.mod.kin hk (thn (ha.run pos pins s1 σ H1 _ I1 q1) fun us s2 ⟨vs, H2, I2, r, q⟩ => ⟨I2.kIn, ?_⟩) he hpl
  exact run_fn (dvs := []) (ds := []) F hr hb .nil pass0 I2 r (by rw [List.append_nil]; exact q)
theorem Kn.mono {P : Program} {w : World} {K : PySem.W.Frag} {mg : Str → Option Value} {base : Heap} {j k : Nat} {x : Str} {ps : List Str} {sp : Sp} (F : Kn P w K mg base j x ps sp) (h : j ≤ k) : Kn P w K mg base k x ps sp := by
  obtain ⟨f, fd, F, hm, hk, hb⟩ := F.ex
  exact ⟨f, fd, F.mono h, hm, hk, hb⟩
theorem sqt_all {K : PySem.W.Frag} {H : Hp} {p : Addr} {xs : List V} (h : ∀ H, SqT K H p xs) : SqT K H p xs := h H
/-! ### the layer's rules, the written part by its own name -/
section
variable {X : Cx} (K : PySem.W.Frag)
theorem ix_tupK (h : X.K = K := by rfl) : IxR X (rIxT K) := by subst h; exact ix_tup
theorem ix_listK (h : X.K = K := by rfl) : IxR X (rIxL K) := by subst h; exact ix_list
theorem op_inK (h : X.K = K := by rfl) : OpR X (compareOp .In) (rIn K false) := by subst h; exact op_in_seq
theorem op_notInK (h : X.K = K := by rfl) : OpR X (compareOp .NotIn) (rIn K true) := by subst h; exact op_notIn_seq
theorem call_isiK1 (h : X.K = K := by rfl) : CallR X (.builtin "isinstance") (rIsi K) := by subst h; exact call_isi
theorem call_isiTK (h : X.K = K := by rfl) : CallR X (.builtin "isinstance") (rIsiT K) := by subst h; exact call_isiT
/-- len of a list, of a tuple -/
def rLenS (K : PySem.W.Frag) : List V → Hp → VK → Prop := fun xs H Q => ∃ p ys, xs = [.ref p] ∧ (SqL K H p ys ∨ SqT K H p ys) ∧ Q (.int ys.length) H
def rListOf (K : PySem.W.Frag) : List V → Hp → VK → Prop := fun xs H Q => ∃ p ys, xs = [.ref p] ∧ (SqL K H p ys ∨ SqT K H p ys) ∧ ∀ l, H l = none → Q (.ref l) (upd H l (.lst ys))
theorem call_lenK (h : X.K = K := by rfl) : CallR X (.builtin "len") (rLenS K) := by subst h; exact call_len_seq
theorem call_listK (h : X.K = K := by rfl) : CallR X (.type "list") (rListOf K) := by subst h; exact call_list_of
theorem cr_sumK (hc : X.calm = true) (h : X.K = K := by rfl) : CallR X (.builtin "sum") (rSum K) := by subst h; exact cr_sum hc
theorem cr_allK (hc : X.calm = true) (h : X.K = K := by rfl) : CallR X (.builtin "all") (rAll K) := by subst h; exact cr_all hc
theorem cr_anyK (hc : X.calm = true) (h : X.K = K := by rfl) : CallR X (.builtin "any") (rAny K) := by subst h; exact cr_any hc
theorem sl_tupK (h : X.K = K := by rfl) : SlR X (rSlT K) := by subst h; exact sl_tup
theorem sl_listK (h : X.K = K := by rfl) : SlR X (rSlL K) := by subst h; exact sl_list
theorem op_eqDK (hu : X.A.units + 64 < cLine) (h : X.K = K := by rfl) : OpR X (compareOp .Eq) (rEqD K) := by subst h; exact op_eqD hu
theorem op_neDK (hu : X.A.units + 64 < cLine) (h : X.K = K := by rfl) : OpR X (compareOp .NotEq) (rNeD K) := by subst h; exact op_neD hu
theorem op_catTK (h : X.K = K := by rfl) : OpR X (binaryOp .Add) (rCatT K) := by subst h; exact op_catT
theorem pi_listK {tg l : Expr} {tl : TE} (hl : PE X l tl) (h : X.K = K := by rfl) : PI X tg l (iList K tl) := by subst h; exact pi_list hl
theorem pi_tupK {tg l : Expr} {tl : TE} (hl : PE X l tl) (h : X.K = K := by rfl) : PI X tg l (iTup K tl) := by subst h; exact pi_tup hl
end
/-! ### the combinators, applied -/
/-- the turns of a for over range(n), range(a, b), a list, a tuple: opaque for simp -/
def LoopR1 (g : TG) (tb : TS) (D : Ends) (σ : Sg) : List V → Hp → Prop := fun vs H1 => ∃ j : Int, vs = [.int j] ∧ -(2 ^ 62) ≤ j ∧ j < 2 ^ 62 ∧ ∃ W : Nat → Nat → Sg → Hp → Prop, (∃ m, W 0 m σ H1) ∧ ∀ i m σ H, W i m σ H →
  ((Itr 0 j.toNat).stop i H ∧ D.nx σ H) ∨ ((Itr 0 j.toNat).go i H ∧ ∃ N : Sg → Hp → Prop, (∀ σ' H', N σ' H' → ∃ m', m' < m ∧ W (i + 1) m' σ' H') ∧ ∀ x H', (Itr 0 j.toNat).yld i H x H' → g x σ H' fun σ2 H2 => tb { D with nx := N, ct := N, bk := D.nx } σ2 H2)
def LoopR2 (g : TG) (tb : TS) (D : Ends) (σ : Sg) : List V → Hp → Prop := fun vs H1 => ∃ i j : Int, vs = [.int i, .int j] ∧ (-(2 ^ 62) ≤ i ∧ i < 2 ^ 62 ∧ -(2 ^ 62) ≤ j ∧ j < 2 ^ 62) ∧ ∃ W : Nat → Nat → Sg → Hp → Prop, (∃ m, W 0 m σ H1) ∧ ∀ k m σ H, W k m σ H →
  ((Itr i (j - i).toNat).stop k H ∧ D.nx σ H) ∨ ((Itr i (j - i).toNat).go k H ∧ ∃ N : Sg → Hp → Prop, (∀ σ' H', N σ' H' → ∃ m', m' < m ∧ W (k + 1) m' σ' H') ∧ ∀ x H', (Itr i (j - i).toNat).yld k H x H' → g x σ H' fun σ2 H2 => tb { D with nx := N, ct := N, bk := D.nx } σ2 H2)
def LoopL (K : PySem.W.Frag) (g : TG) (tb : TS) (D : Ends) (σ : Sg) : VK := fun x H1 => ∃ a, x = .ref a ∧ (∃ xs, SqL K H1 a xs) ∧ ∃ W : Nat → Nat → Sg → Hp → Prop, (∃ m, W 0 m σ H1) ∧ ∀ i m σ H, W i m σ H →
  ((Itl K a).stop i H ∧ D.nx σ H) ∨ ((Itl K a).go i H ∧ ∃ N : Sg → Hp → Prop, (∀ σ' H', N σ' H' → ∃ m', m' < m ∧ W (i + 1) m' σ' H') ∧ ∀ x H', (Itl K a).yld i H x H' → g x σ H' fun σ2 H2 => tb { D with nx := N, ct := N, bk := D.nx } σ2 H2)
def LoopT (K : PySem.W.Frag) (g : TG) (tb : TS) (D : Ends) (σ : Sg) : VK := fun x H1 => ∃ a, x = .ref a ∧ (∃ xs, SqT K H1 a xs) ∧ ∃ W : Nat → Nat → Sg → Hp → Prop, (∃ m, W 0 m σ H1) ∧ ∀ i m σ H, W i m σ H →
  ((Itt K a).stop i H ∧ D.nx σ H) ∨ ((Itt K a).go i H ∧ ∃ N : Sg → Hp → Prop, (∀ σ' H', N σ' H' → ∃ m', m' < m ∧ W (i + 1) m' σ' H') ∧ ∀ x H', (Itt K a).yld i H x H' → g x σ H' fun σ2 H2 => tb { D with nx := N, ct := N, bk := D.nx } σ2 H2)
section
variable {σ : Sg} {H H1 : Hp} {Q : VK} {QB : Bool → Hp → Prop} {QA : List V → Hp → Prop} {QS : Sg → Hp → Prop} {D : Ends} {t u tb : TS} {te ta tc : TE} {tt tu : TT} {g : TG} {v x : V} {i j l : Nat} {r r' : R2} {ru : V → Hp → VK → Prop} {rc : List V → Hp → VK → Prop} {ar br : TA} {K : PySem.W.Frag} {sp : Sp} {dvs : List V} {E : XK}
theorem x_seq : tSeq t u D σ H = t { D with nx := u D } σ H := rfl
theorem x_next : tNext D σ H = D.nx σ H := rfl
theorem x_brk : tBreak D σ H = D.bk σ H := rfl
theorem x_cont : tCont D σ H = D.ct σ H := rfl
theorem x_never : tNever D σ H = False := rfl
theorem x_drop : tDrop te D σ H = te σ H fun _ H1 => D.nx σ H1 := rfl
theorem x_asg : tAsg te g D σ H = te σ H fun x H1 => g x σ H1 D.nx := rfl
theorem x_name : gName i v σ H QS = QS (σ.set i (some v)) H := rfl
theorem x_sub {to ti : TE} {ts : TSet} : gSub to ti ts v σ H QS = to σ H fun o H1 => ti σ H1 fun i H2 => ts o i v H2 fun H3 => QS σ H3 := rfl
theorem x_ret : tRet te D σ H = te σ H D.rt := rfl
theorem x_retN : tRetN D σ H = D.rt .non H := rfl
theorem x_ifS : tIfS tt t u D σ H = tt σ H fun b H1 => if b = true then t D σ H1 else u D σ H1 := rfl
theorem x_parD : tPar i j ar D σ H = ar σ H fun vs H1 => ∃ v w, vs = [v, w] ∧ D.nx ((σ.set i (some v)).set j (some w)) H1 := rfl
theorem x_par3D : tPar3 i j l ar D σ H = ar σ H fun vs H1 => ∃ u v w, vs = [u, v, w] ∧ D.nx (((σ.set i (some u)).set j (some v)).set l (some w)) H1 := rfl
theorem x_c : tC v σ H Q = Q v H := rfl
theorem x_op : tOp r ta te σ H Q = ta σ H fun x H1 => te σ H1 fun y H2 => r x y H2 Q := rfl
theorem x_un : tUn ru ta σ H Q = ta σ H fun x H1 => ru x H1 Q := rfl
theorem x_test : tTest te σ H QB = te σ H fun x H' => ∃ k, x = .bl k ∧ QB k H' := rfl
theorem x_tB : tB te σ H QB = te σ H fun x H' => ∃ k, x = .bl k ∧ QB k H' := rfl
theorem x_yes : tYes σ H QB = QB true H := rfl
theorem x_not : tNot tt σ H QB = tt σ H fun c H1 => QB (!c) H1 := rfl
theorem x_and : tAnd tt tu σ H QB = tt σ H fun c H1 => if c = true then tu σ H1 QB else QB false H1 := rfl
theorem x_or : tOr tt tu σ H QB = tt σ H fun c H1 => if c = true then QB true H1 else tu σ H1 QB := rfl
theorem x_andV : tAndV ta te σ H Q = ta σ H fun x H1 => ∃ c, x = .bl c ∧ if c = true then te σ H1 Q else Q (.bl false) H1 := rfl
theorem x_orV : tOrV ta te σ H Q = ta σ H fun x H1 => ∃ c, x = .bl c ∧ if c = true then Q (.bl true) H1 else te σ H1 Q := rfl
theorem x_notV : tNotV ta σ H Q = ta σ H fun x H1 => ∃ c, x = .bl c ∧ Q (.bl (!c)) H1 := rfl
theorem x_ifE : tIf tt ta te σ H Q = tt σ H fun c H1 => if c = true then ta σ H1 Q else te σ H1 Q := rfl
theorem x_chain : tChain r r' ta te tc σ H Q = ta σ H fun x H1 => te σ H1 fun y H2 => r x y H2 fun z H3 => ∃ k, z = .bl k ∧ (if k = true then tc σ H3 fun w' H4 => r' y w' H4 Q else Q (.bl false) H3) := rfl
theorem x_nil : tNil σ H QA = QA [] H := rfl
theorem x_cons : tCons ta ar σ H QA = ta σ H fun x H1 => ar σ H1 fun xs H2 => QA (x :: xs) H2 := rfl
theorem x_tupD : tTup ar σ H Q = ar σ H fun xs H1 => xs.length ≤ sizeLine ∧ ∀ p, H1 p = none → upd H1 p (.tup xs) p = some (.tup xs) → Q (.ref p) (upd H1 p (.tup xs)) := by
  unfold tTup
  congr 1
  funext xs H1
  exact propext ⟨fun ⟨a, b⟩ => ⟨a, fun p n _ => b p n⟩, fun ⟨a, b⟩ => ⟨a, fun p n => b p n upd_same⟩⟩
theorem x_lstD : tLst ar σ H Q = ar σ H fun xs H1 => xs.length ≤ sizeLine ∧ ∀ p, H1 p = none → upd H1 p (.lst xs) p = some (.lst xs) → Q (.ref p) (upd H1 p (.lst xs)) := by
  unfold tLst
  congr 1
  funext xs H1
  exact propext ⟨fun ⟨a, b⟩ => ⟨a, fun p n _ => b p n⟩, fun ⟨a, b⟩ => ⟨a, fun p n => b p n upd_same⟩⟩
theorem x_call : tCall sp dvs E ar σ H Q = ar σ H fun vs H1 => sp (vs ++ dvs) H1 Q E := rfl
theorem x_callX {P : Program} {w : World} {mg : Str → Option Value} {base : Heap} {k : Nat} : tCallX P w K mg base k te ar σ H Q = te σ H fun v H1 => ∃ (f : Addr) (x : Str) (ps : List Str) (sp : Sp), v = .ref f ∧ mg x = some (.ref f) ∧ Kn P w K mg base k x ps sp ∧ ar σ H1 fun vs H2 => sp vs H2 Q E0 := rfl
theorem x_cb : tCB rc ar σ H Q = ar σ H fun vs H1 => rc vs H1 Q := rfl
theorem x_forR1 : tFor (iRng1 ar) g tb D σ H = ar σ H (LoopR1 g tb D σ) := rfl
theorem x_forR2 : tFor (iRng2 ar) g tb D σ H = ar σ H (LoopR2 g tb D σ) := rfl
theorem x_forL : tFor (iList K te) g tb D σ H = te σ H (LoopL K g tb D σ) := rfl
theorem x_forT : tFor (iTup K te) g tb D σ H = te σ H (LoopT K g tb D σ) := rfl
theorem x_bits : tBits te σ H Q = te σ H fun x H1 => ∃ i, x = .int i ∧ Q (.int (Builtin.Int.intBits i : Nat)) H1 := rfl
theorem x_part {QO : Option Int → Hp → Prop} : tPart te σ H QO = te σ H fun x H1 => ∃ i, x = .int i ∧ QO (some i) H1 := rfl
theorem x_nopart {QO : Option Int → Hp → Prop} : tNoPart σ H QO = QO none H := rfl
theorem x_sl {rs : V → Option Int → Option Int → Hp → VK → Prop} {tl th : TO} : tSl rs te tl th σ H Q = te σ H fun x H1 => tl σ H1 fun l H2 => th σ H2 fun u H3 => rs x l u H3 Q := rfl
theorem x_bm0 {T : String} {rm : V → List V → Hp → VK → Prop} : tBM0 K T rm te σ H Q = te σ H fun x H1 => tyV K T x H1 ∧ rm x [] H1 Q := rfl
theorem x_bm {T : String} {rm : V → List V → Hp → VK → Prop} : tBM K T rm te ar σ H Q = te σ H fun x H1 => tyV K T x H1 ∧ ar σ H1 fun xs H2 => rm x xs H2 Q := rfl
theorem loopR1 {n : Int} (hb : 0 ≤ n ∧ n < 4611686018427387904) (Pv : Nat → Sg → Hp → Prop) (h0 : Pv 0 σ H) (hs : ∀ (i : Nat) σ H, (i : Int) < n → Pv i σ H → g (.int (i : Int)) σ H fun σ2 H2 => tb { D with nx := Pv (i + 1), ct := Pv (i + 1), bk := D.nx } σ2 H2)
    (hd : ∀ σ H, Pv n.toNat σ H → D.nx σ H) : LoopR1 g tb D σ [.int n] H := ⟨n, rfl, by omega, by omega, for_range (lo := 0) (n := n.toNat) Pv h0 (fun i σ H hi p => by rw [Int.zero_add]; exact hs i σ H (by omega) p) hd⟩
theorem loopR2 {a b : Int} (hb : -4611686018427387904 ≤ a ∧ a < 4611686018427387904 ∧ -4611686018427387904 ≤ b ∧ b < 4611686018427387904) (Pv : Nat → Sg → Hp → Prop) (h0 : Pv 0 σ H) (hs : ∀ (i : Nat) σ H, a + (i : Int) < b → Pv i σ H → g (.int (a + (i : Int))) σ H fun σ2 H2 => tb { D with nx := Pv (i + 1), ct := Pv (i + 1), bk := D.nx } σ2 H2)
    (hd : ∀ σ H, Pv (b - a).toNat σ H → D.nx σ H) : LoopR2 g tb D σ [.int a, .int b] H := ⟨a, b, rfl, ⟨by omega, by omega, by omega, by omega⟩, for_range (lo := a) (n := (b - a).toNat) Pv h0 (fun i σ H hi p => hs i σ H (by omega) p) hd⟩
theorem loopL {a : Addr} (xs : List V) (Pv : Nat → Sg → Hp → Prop) (h0 : Pv 0 σ H) (hl : ∀ i σ H, i ≤ xs.length → Pv i σ H → SqL K H a xs)
    (hs : ∀ i x σ H, xs[i]? = some x → Pv i σ H → g x σ H fun σ2 H2 => tb { D with nx := Pv (i + 1), ct := Pv (i + 1), bk := D.nx } σ2 H2) (hd : ∀ σ H, Pv xs.length σ H → D.nx σ H) : LoopL K g tb D σ (.ref a) H :=
  ⟨a, rfl, ⟨xs, hl 0 σ H (Nat.zero_le _) h0⟩, for_list Pv h0 hl hs hd⟩
theorem loopT {a : Addr} (xs : List V) (Pv : Nat → Sg → Hp → Prop) (h0 : Pv 0 σ H) (hl : ∀ i σ H, i ≤ xs.length → Pv i σ H → SqT K H a xs)
    (hs : ∀ i x σ H, xs[i]? = some x → Pv i σ H → g x σ H fun σ2 H2 => tb { D with nx := Pv (i + 1), ct := Pv (i + 1), bk := D.nx } σ2 H2) (hd : ∀ σ H, Pv xs.length σ H → D.nx σ H) : LoopT K g tb D σ (.ref a) H :=
  ⟨a, rfl, ⟨xs, hl 0 σ H (Nat.zero_le _) h0⟩, for_tup Pv h0 hl hs hd⟩
/-- comprehensions -/
def LcL (K : PySem.W.Frag) (g : TG) (tt : TT) (te : TE) (vs : List Nat) (σ : Sg) (Q : VK) : VK := fun x H1 => ∃ a, x = .ref a ∧ (∃ xs, SqL K H1 a xs) ∧ ∀ D, H1 D = none → ∃ W : Nat → Nat → Hp → Prop, (∃ m, W 0 m (upd H1 D (.lst []))) ∧ ∀ i m H, W i m H →
  ((Itl K a).stop i H ∧ Q (.ref D) H) ∨ ((Itl K a).go i H ∧ ∃ Nx : Hp → Prop, (∀ H', Nx H' → ∃ m', m' < m ∧ W (i + 1) m' H') ∧ ∀ x H', (Itl K a).yld i H x H' → g x (wipe σ vs) H' fun σ2 H2 => wipe σ2 vs = wipe σ vs ∧ tt σ2 H2 fun b H3 =>
    if b = true then te σ2 H3 fun y H4 => ∃ acc, H4 D = some (.lst acc) ∧ acc.length < sizeLine ∧ Nx (upd H4 D (.lst (acc ++ [y]))) else Nx H3)
def LcT (K : PySem.W.Frag) (g : TG) (tt : TT) (te : TE) (vs : List Nat) (σ : Sg) (Q : VK) : VK := fun x H1 => ∃ a, x = .ref a ∧ (∃ xs, SqT K H1 a xs) ∧ ∀ D, H1 D = none → ∃ W : Nat → Nat → Hp → Prop, (∃ m, W 0 m (upd H1 D (.lst []))) ∧ ∀ i m H, W i m H →
  ((Itt K a).stop i H ∧ Q (.ref D) H) ∨ ((Itt K a).go i H ∧ ∃ Nx : Hp → Prop, (∀ H', Nx H' → ∃ m', m' < m ∧ W (i + 1) m' H') ∧ ∀ x H', (Itt K a).yld i H x H' → g x (wipe σ vs) H' fun σ2 H2 => wipe σ2 vs = wipe σ vs ∧ tt σ2 H2 fun b H3 =>
    if b = true then te σ2 H3 fun y H4 => ∃ acc, H4 D = some (.lst acc) ∧ acc.length < sizeLine ∧ Nx (upd H4 D (.lst (acc ++ [y]))) else Nx H3)
def LcR1 (g : TG) (tt : TT) (te : TE) (vs : List Nat) (σ : Sg) (Q : VK) : List V → Hp → Prop := fun ws H1 => ∃ j : Int, ws = [.int j] ∧ -(2 ^ 62) ≤ j ∧ j < 2 ^ 62 ∧ ∀ D, H1 D = none → ∃ W : Nat → Nat → Hp → Prop, (∃ m, W 0 m (upd H1 D (.lst []))) ∧ ∀ i m H, W i m H →
  ((Itr 0 j.toNat).stop i H ∧ Q (.ref D) H) ∨ ((Itr 0 j.toNat).go i H ∧ ∃ Nx : Hp → Prop, (∀ H', Nx H' → ∃ m', m' < m ∧ W (i + 1) m' H') ∧ ∀ x H', (Itr 0 j.toNat).yld i H x H' → g x (wipe σ vs) H' fun σ2 H2 => wipe σ2 vs = wipe σ vs ∧ tt σ2 H2 fun b H3 =>
    if b = true then te σ2 H3 fun y H4 => ∃ acc, H4 D = some (.lst acc) ∧ acc.length < sizeLine ∧ Nx (upd H4 D (.lst (acc ++ [y]))) else Nx H3)
theorem x_lcL {vs : List Nat} : tLc (iList K ta) g tt te vs σ H Q = ta σ H (LcL K g tt te vs σ Q) := rfl
theorem x_lcT {vs : List Nat} : tLc (iTup K ta) g tt te vs σ H Q = ta σ H (LcT K g tt te vs σ Q) := rfl
theorem x_lcR1 {vs : List Nat} : tLc (iRng1 ar) g tt te vs σ H Q = ar σ H (LcR1 g tt te vs σ Q) := rfl
theorem mk_lcL {vs : List Nat} {a : Addr} (xs : List V) (Pv : Addr → Nat → Hp → Prop) (h0 : ∀ D, H D = none → Pv D 0 (upd H D (.lst []))) (hl : ∀ D, H D = none → ∀ i H, i ≤ xs.length → Pv D i H → SqL K H a xs) (hx : SqL K H a xs)
    (hs : ∀ D, H D = none → ∀ i x H, xs[i]? = some x → Pv D i H → g x (wipe σ vs) H fun σ2 H2 => wipe σ2 vs = wipe σ vs ∧ tt σ2 H2 fun b H3 => if b = true then te σ2 H3 fun y H4 => ∃ acc, H4 D = some (.lst acc) ∧ acc.length < sizeLine ∧ Pv D (i + 1) (upd H4 D (.lst (acc ++ [y]))) else Pv D (i + 1) H3)
    (hd : ∀ D, H D = none → ∀ H, Pv D xs.length H → Q (.ref D) H) : LcL K g tt te vs σ Q (.ref a) H := ⟨a, rfl, ⟨xs, hx⟩, fun D hD => lc_list (Pv D) (h0 D hD) (hl D hD) (hs D hD) (hd D hD)⟩
theorem mk_lcT {vs : List Nat} {a : Addr} (xs : List V) (Pv : Addr → Nat → Hp → Prop) (h0 : ∀ D, H D = none → Pv D 0 (upd H D (.lst []))) (hl : ∀ D, H D = none → ∀ i H, i ≤ xs.length → Pv D i H → SqT K H a xs) (hx : SqT K H a xs)
    (hs : ∀ D, H D = none → ∀ i x H, xs[i]? = some x → Pv D i H → g x (wipe σ vs) H fun σ2 H2 => wipe σ2 vs = wipe σ vs ∧ tt σ2 H2 fun b H3 => if b = true then te σ2 H3 fun y H4 => ∃ acc, H4 D = some (.lst acc) ∧ acc.length < sizeLine ∧ Pv D (i + 1) (upd H4 D (.lst (acc ++ [y]))) else Pv D (i + 1) H3)
    (hd : ∀ D, H D = none → ∀ H, Pv D xs.length H → Q (.ref D) H) : LcT K g tt te vs σ Q (.ref a) H := ⟨a, rfl, ⟨xs, hx⟩, fun D hD => lc_tup (Pv D) (h0 D hD) (hl D hD) (hs D hD) (hd D hD)⟩
theorem mk_lcR1 {vs : List Nat} {n : Int} (hb : 0 ≤ n ∧ n < 4611686018427387904) (Pv : Addr → Nat → Hp → Prop) (h0 : ∀ D, H D = none → Pv D 0 (upd H D (.lst [])))
    (hs : ∀ D, H D = none → ∀ (i : Nat) H, (i : Int) < n → Pv D i H → g (.int (i : Int)) (wipe σ vs) H fun σ2 H2 => wipe σ2 vs = wipe σ vs ∧ tt σ2 H2 fun b H3 => if b = true then te σ2 H3 fun y H4 => ∃ acc, H4 D = some (.lst acc) ∧ acc.length < sizeLine ∧ Pv D (i + 1) (upd H4 D (.lst (acc ++ [y]))) else Pv D (i + 1) H3)
    (hd : ∀ D, H D = none → ∀ H, Pv D n.toNat H → Q (.ref D) H) : LcR1 g tt te vs σ Q [.int n] H := ⟨n, rfl, by omega, by omega, fun D hD => lc_range (lo := 0) (n := n.toNat) (Pv D) (h0 D hD) (fun i H hi p => by rw [Int.zero_add]; exact hs D hD i H (by omega) p) (hd D hD)⟩
end
theorem bl_pow (t : Nat) : Builtin.Int.intBits (2 ^ t) = t + 1 := by
  unfold Builtin.Int.intBits
  have e : ((2 : Int) ^ t).natAbs = 2 ^ t := by rw [Int.natAbs_pow]; rfl
  rw [e, Nat.log2_two_pow]
  have p : (0 : Int) < 2 ^ t := PySem.W.kbt_pos t
  split
  · rename_i h
    have := eq_of_beq h
    omega
  · rfl
theorem dp_tup {K : PySem.W.Frag} {H : Hp} {p : Addr} {xs : List V} {ds : List PyData} (h : SqT K H p xs) (hd : DpAll K H xs ds) : Dp K H (.ref p) (.tuple ds) := .tup h hd
theorem g_eqD {K : PySem.W.Frag} {H : Hp} {Q : VK} {x y : V} {d e : PyData} {b : Bool} (hx : Dp K H x d) (hy : Dp K H y e) (sd : SeqAt.shaped d = true) (se : SeqAt.shaped e = true) (hb : PyData.eqv d e = b) (k : Q (.bl b) H) : rEqD K x y H Q := ⟨d, e, hx, hy, sd, se, by rw [hb]; exact k⟩
theorem g_neD {K : PySem.W.Frag} {H : Hp} {Q : VK} {x y : V} {d e : PyData} {b : Bool} (hx : Dp K H x d) (hy : Dp K H y e) (sd : SeqAt.shaped d = true) (se : SeqAt.shaped e = true) (hb : PyData.eqv d e = b) (k : Q (.bl (!b)) H) : rNeD K x y H Q := ⟨d, e, hx, hy, sd, se, by rw [hb]; exact k⟩
/-- a written dict -/
theorem g_lenT {K : PySem.W.Frag} {H : Hp} {Q : VK} {p : Addr} {xs : List V} (h : SqT K H p xs) (k : Q (.int xs.length) H) : rLenS K [.ref p] H Q := ⟨p, xs, rfl, .inr h, k⟩
theorem g_lenL {K : PySem.W.Frag} {H : Hp} {Q : VK} {p : Addr} {xs : List V} (h : SqL K H p xs) (k : Q (.int xs.length) H) : rLenS K [.ref p] H Q := ⟨p, xs, rfl, .inl h, k⟩
theorem g_listL {K : PySem.W.Frag} {H : Hp} {Q : VK} {p : Addr} {xs : List V} (h : SqL K H p xs) (k : ∀ l, H l = none → Q (.ref l) (upd H l (.lst xs))) : rListOf K [.ref p] H Q := ⟨p, xs, rfl, .inl h, k⟩
theorem g_sum {K : PySem.W.Frag} {H : Hp} {Q : VK} {p : Addr} (ns : List Int) (h : SqL K H p (ns.map V.int)) (k : Q (.int ns.sum) H) : rSum K [.ref p] H Q := ⟨p, ns, rfl, h, k⟩
theorem g_allL {K : PySem.W.Frag} {H : Hp} {Q : VK} {p : Addr} (bs : List Bool) (h : SqL K H p (bs.map V.bl)) (k : Q (.bl (bs.all id)) H) : rAll K [.ref p] H Q := ⟨p, bs, rfl, h, k⟩
theorem g_anyL {K : PySem.W.Frag} {H : Hp} {Q : VK} {p : Addr} (bs : List Bool) (h : SqL K H p (bs.map V.bl)) (k : Q (.bl (bs.any id)) H) : rAny K [.ref p] H Q := ⟨p, bs, rfl, h, k⟩
theorem g_slT {K : PySem.W.Frag} {H : Hp} {Q : VK} {p : Addr} {xs : List V} {lo hi : Option Int} (h : SqT K H p xs) (hn : ¬ (HT.sIx xs.length 0 lo = 0 ∧ HT.sIx xs.length xs.length hi = xs.length)) (k : ∀ q, H q = none → Q (.ref q) (upd H q (.tup (cutV xs lo hi)))) : rSlT K (.ref p) lo hi H Q := ⟨p, xs, rfl, h, hn, k⟩
theorem g_slL {K : PySem.W.Frag} {H : Hp} {Q : VK} {p : Addr} {xs : List V} {lo hi : Option Int} (h : SqL K H p xs) (k : ∀ q, H q = none → Q (.ref q) (upd H q (.lst (cutV xs lo hi)))) : rSlL K (.ref p) lo hi H Q := ⟨p, xs, rfl, h, k⟩
theorem sh_of {d : PyData} (h1 : PyData.canLay0 d = true) (h2 : PyData.depth d ≤ 64) : SeqAt.shaped d = true := Bool.and_eq_true_iff.mpr ⟨h1, decide_eq_true h2⟩
theorem cl_int {i : Int} : PyData.canLay0 (.int i) = true := by simp only [PyData.canLay0]
theorem cl_str {x : Str} (h : PyData.strOk x = true := by decide +kernel) : PyData.canLay0 (.str x) = true := by simp only [PyData.canLay0]; exact h
theorem cl_tup {ds : List PyData} (h : PyData.canLayAll0 ds = true) : PyData.canLay0 (.tuple ds) = true := by simp only [PyData.canLay0]; exact h
theorem cl_nil : PyData.canLayAll0 [] = true := by simp only [PyData.canLayAll0]
theorem cl_cons {d : PyData} {ds : List PyData} (h : PyData.canLay0 d = true) (k : PyData.canLayAll0 ds = true) : PyData.canLayAll0 (d :: ds) = true := by simp only [PyData.canLayAll0, h, k, Bool.and_self]
example (i : Int) : SeqAt.shaped (.tuple [.str "row", .int i]) = true := sh_of (cl_tup (cl_cons cl_str (cl_cons cl_int cl_nil))) (by simp only [PyData.depth, PyData.depthAll]; omega)
example (i : Int) : PyData.eqv (.tuple [.str "row", .int i]) (.tuple []) = false := by rfl
/-- all(..) over a made list of trues -/
theorem g_allT {K : PySem.W.Frag} {H : Hp} {Q : VK} {p : Addr} (n : Nat) (h : H p = some (.lst ((List.replicate n true).map V.bl))) (k : Q (.bl true) H) : rAll K [.ref p] H Q := ⟨p, List.replicate n true, rfl, .inl (.inl h), by
  have e : (List.replicate n true).all id = true := by rw [List.all_eq_true]; intro x hx; exact (List.mem_replicate.mp hx).2
  rw [e]; exact k⟩
theorem rep_len {n : Nat} {b : Bool} (h : n < 16777216) : ((List.replicate n b).map V.bl).length < sizeLine := by rw [List.length_map, List.length_replicate]; exact Nat.lt_of_lt_of_le h (by decide)
theorem rep_snoc {n : Nat} {b : Bool} : (List.replicate n b).map V.bl ++ [V.bl b] = (List.replicate (n + 1) b).map V.bl := by rw [List.replicate_succ', List.map_append]; rfl
theorem g_tl4 {K : PySem.W.Frag} {H : Hp} {Q : VK} {p : Addr} {a b c d : V} (h : SqT K H p [a, b, c, d]) (k : ∀ q, H q = none → upd H q (.tup [b, c, d]) q = some (.tup [b, c, d]) → Q (.ref q) (upd H q (.tup [b, c, d]))) : rSlT K (.ref p) (some 1) none H Q := g_slT h (by
  show ¬ (HT.sIx 4 0 (some 1) = 0 ∧ HT.sIx 4 4 none = 4)
  decide) fun q n => k q n upd_same
theorem g_tl3 {K : PySem.W.Frag} {H : Hp} {Q : VK} {p : Addr} {a b c : V} (h : SqT K H p [a, b, c]) (k : ∀ q, H q = none → upd H q (.tup [b, c]) q = some (.tup [b, c]) → Q (.ref q) (upd H q (.tup [b, c]))) : rSlT K (.ref p) (some 1) none H Q := g_slT h (by
  show ¬ (HT.sIx 3 0 (some 1) = 0 ∧ HT.sIx 3 3 none = 3)
  decide) fun q n => k q n upd_same
theorem x_aug {i : Nat} {te : TE} {ti : TIp} {D : Ends} {σ : Sg} {H : Hp} : tAug i te ti D σ H = tVar i σ H fun x H0 => te σ H0 fun y H1 => ti x y H1 fun z H2 => D.nx (σ.set i (some z)) H2 := rfl
theorem x_ipI {f : Int → Int → Int} {a b : Int} {H : Hp} {Q : VK} : ipI f (.int a) (.int b) H Q = Q (.int (f a b)) H := propext ⟨fun ⟨i, j, e1, e2, h⟩ => by cases e1; cases e2; exact h, fun h => ⟨a, b, rfl, rfl, h⟩⟩
theorem x_ib {i : Int} {k : Bool} : ([V.int i] = [V.bl k]) = False := by simp
theorem x_bi {i : Int} {k : Bool} : ([V.bl k] = [V.int i]) = False := by simp
theorem x_onelB {b : Bool} {R : Bool → Prop} : (∃ k : Bool, [V.bl b] = [V.bl k] ∧ R k) = R b := propext ⟨fun ⟨i, e, h⟩ => by cases e; exact h, fun h => ⟨b, rfl, h⟩⟩
theorem x_two {a b : Int} {R : Int → Int → Prop} : (∃ i j : Int, [V.int a, V.int b] = [V.int i, V.int j] ∧ R i j) = R a b := propext ⟨fun ⟨i, j, e, h⟩ => by cases e; exact h, fun h => ⟨a, b, rfl, h⟩⟩
theorem x_onel {a : Int} {R : Int → Prop} : (∃ i : Int, [V.int a] = [V.int i] ∧ R i) = R a := propext ⟨fun ⟨i, e, h⟩ => by cases e; exact h, fun h => ⟨a, rfl, h⟩⟩
theorem g_cat {H : Hp} {Q : VK} {l b : Addr} {xs zs : List V} (h1 : H l = some (.lst xs)) (h2 : H b = some (.lst zs)) (hl : xs.length + zs.length ≤ sizeLine) (k : ∀ p, H p = none → upd H p (.lst (xs ++ zs)) p = some (.lst (xs ++ zs)) → Q (.ref p) (upd H p (.lst (xs ++ zs)))) : rCat (.ref l) (.ref b) H Q := ⟨l, b, xs, zs, rfl, rfl, h1, h2, hl, fun p n => k p n upd_same⟩
theorem x_disp {trs : List (TE × TE)} {σ : Sg} {H : Hp} {Q : VK} : tDisp trs σ H Q = ∀ p, H p = none → tPairs trs σ (upd H p (.dK [])) fun ps H2 => H2 p = some (.dK []) ∧ ∃ kvs : List (Key × V), ps = kvs.map (fun kv => (kV kv.1, kv.2)) ∧ kvs.length ≤ 15 ∧ Q (.ref p) (upd H2 p (.dK (mergeK [] kvs))) := rfl
theorem x_pairs0 {σ : Sg} {H : Hp} {QP : List (V × V) → Hp → Prop} : tPairs [] σ H QP = QP [] H := rfl
theorem x_pairsS {tk tv : TE} {trs : List (TE × TE)} {σ : Sg} {H : Hp} {QP : List (V × V) → Hp → Prop} : tPairs ((tk, tv) :: trs) σ H QP = tk σ H fun x H1 => tv σ H1 fun y H2 => tPairs trs σ H2 fun ps H3 => QP ((x, y) :: ps) H3 := rfl
theorem x_dget2 {td ty tx : TE} {σ : Sg} {H : Hp} {Q : VK} : tDGet2 td ty tx σ H Q = td σ H fun x H1 => ∃ a, x = .ref a ∧ IsD H1 a ∧ ty σ H1 fun y H2 => tx σ H2 fun z H3 => ∃ o, DGet H3 a y o ∧ Q (o.getD z) H3 := rfl
/-- a value comes back, what was tracked is as it was -/
abbrev Ret (v : V) (H : Hp) (Q : VK) : Prop := ∀ H', Same H H' → Q v H'
/-- a new tuple comes back -/
abbrev RetT (xs : List V) (H : Hp) (Q : VK) : Prop := ∀ H' p, Same H H' → H p = none → H' p = some (.tup xs) → Q (.ref p) H'
end WK

set_option maxHeartbeats 4000000
/-! plain mathematics: affine rounds modulo powers of two -/
namespace Mt
/-- n rounds, unreduced -/
def It (a b : Int) : Nat → Int → Int
  | 0, x => x
  | n + 1, x => a * It a b n x + b
theorem It_add (a b : Int) (n m : Nat) (x : Int) : It a b (n + m) x = It a b m (It a b n x) := by
  induction m with
  | zero => rfl
  | succ m ih => show a * It a b (n + m) x + b = a * It a b m (It a b n x) + b; rw [ih]
theorem It_aff (a b : Int) (n : Nat) (x y : Int) : It a b n x - It a b n y = a ^ n * (x - y) := by
  induction n with
  | zero => simp [It]
  | succ n ih =>
    show a * It a b n x + b - (a * It a b n y + b) = a ^ (n + 1) * (x - y)
    have e : a * It a b n x + b - (a * It a b n y + b) = a * (It a b n x - It a b n y) := by grind
    rw [e, ih, Int.pow_succ]; grind
theorem It_lin (a b : Int) (n : Nat) (x : Int) : It a b n x = a ^ n * x + It a b n 0 := by
  have h := It_aff a b n x 0
  grind
/-- congruence -/
abbrev Cg (m x y : Int) : Prop := m ∣ x - y
theorem Cg.refl (m x : Int) : Cg m x x := ⟨0, by simp⟩
theorem Cg.symm {m x y : Int} (h : Cg m x y) : Cg m y x := by
  obtain ⟨c, h⟩ := h
  exact ⟨-c, by grind⟩
theorem Cg.trans {m x y z : Int} (h : Cg m x y) (k : Cg m y z) : Cg m x z := by
  obtain ⟨c, h⟩ := h
  obtain ⟨d, k⟩ := k
  exact ⟨c + d, by grind⟩
theorem Cg.add {m x y u v : Int} (h : Cg m x y) (k : Cg m u v) : Cg m (x + u) (y + v) := by
  obtain ⟨c, h⟩ := h
  obtain ⟨d, k⟩ := k
  exact ⟨c + d, by grind⟩
theorem Cg.sub {m x y u v : Int} (h : Cg m x y) (k : Cg m u v) : Cg m (x - u) (y - v) := by
  obtain ⟨c, h⟩ := h
  obtain ⟨d, k⟩ := k
  exact ⟨c - d, by grind⟩
theorem Cg.mul {m x y u v : Int} (h : Cg m x y) (k : Cg m u v) : Cg m (x * u) (y * v) := by
  obtain ⟨c, h⟩ := h
  obtain ⟨d, k⟩ := k
  exact ⟨c * u + y * d, by grind⟩
theorem Cg.pow {m x y : Int} (h : Cg m x y) (n : Nat) : Cg m (x ^ n) (y ^ n) := by
  induction n with
  | zero => rw [Int.pow_zero, Int.pow_zero]; exact Cg.refl _ _
  | succ n ih => rw [Int.pow_succ, Int.pow_succ]; exact ih.mul h
theorem Cg.of_mod (m x : Int) : Cg m (x % m) x := ⟨-(x / m), by have := Int.emod_add_mul_ediv x m; grind⟩
theorem Cg.eq_mod {m x y : Int} (h : Cg m x y) : x % m = y % m := by
  obtain ⟨c, h⟩ := h
  have e : x = y + m * c := by grind
  rw [e, Int.add_mul_emod_self_left]
theorem Cg.of_eq {m x y : Int} (h : x % m = y % m) : Cg m x y := (Cg.of_mod m x).symm.trans (by rw [h]; exact Cg.of_mod m y)
theorem Cg.weak {m k x y : Int} (h : Cg m x y) (d : k ∣ m) : Cg k x y := Int.dvd_trans d h
/-- it respects congruence -/
theorem It_cg {m a b a' b' x y : Int} (ha : Cg m a a') (hb : Cg m b b') (h : Cg m x y) (n : Nat) : Cg m (It a b n x) (It a' b' n y) := by
  induction n with
  | zero => exact h
  | succ n ih => exact (ha.mul ih).add hb
theorem odd_pow {a : Int} (ha : a % 2 = 1) (n : Nat) : a ^ n % 2 = 1 := by
  induction n with
  | zero => rw [Int.pow_zero]; rfl
  | succ n ih => rw [Int.pow_succ, Int.mul_emod, ih, ha]; rfl
theorem cancel1 {a : Int} (ha : a % 2 = 1) : ∀ (t : Nat) (z : Int), (2 : Int) ^ t ∣ a * z → (2 : Int) ^ t ∣ z
  | 0, z, _ => ⟨z, by simp⟩
  | t + 1, z, h => by
    obtain ⟨c, hc⟩ := h
    obtain ⟨e, he⟩ : ∃ e, a = 2 * e + 1 := ⟨a / 2, by omega⟩
    have hp : (2 : Int) ^ (t + 1) = 2 * 2 ^ t := by rw [Int.pow_succ]; omega
    have hz : z = 2 * (2 ^ t * c - e * z) := by grind
    have hz2 : z % 2 = 0 := by omega
    obtain ⟨w, hw⟩ : ∃ w, z = 2 * w := ⟨z / 2, by omega⟩
    have h2 : (2 : Int) ^ t ∣ a * w := ⟨c, by
      have : 2 * (a * w) = 2 * (2 ^ t * c) := by grind
      omega⟩
    obtain ⟨d, hd⟩ := cancel1 ha t w h2
    exact ⟨d, by grind⟩
theorem It_inj {a b : Int} (ha : a % 2 = 1) {t n : Nat} {x y : Int} (h : Cg (2 ^ t) (It a b n x) (It a b n y)) : Cg (2 ^ t) x y := by
  have h2 : (2 : Int) ^ t ∣ It a b n x - It a b n y := h
  rw [It_aff] at h2
  exact cancel1 (odd_pow ha n) t _ h2
/-- 2 ^ k rounds lead back, modulo 2 ^ k -/
theorem It_pow {a b : Int} (ha : a % 2 = 1) : ∀ (k : Nat) (x : Int), Cg (2 ^ k) (It a b (2 ^ k) x) x
  | 0, x => ⟨It a b (2 ^ 0) x - x, by simp⟩
  | k + 1, x => by
    obtain ⟨c, hc⟩ := It_pow ha k x
    have e1 : It a b (2 ^ (k + 1)) x = It a b (2 ^ k) (It a b (2 ^ k) x) := by rw [Nat.pow_succ, show 2 ^ k * 2 = 2 ^ k + 2 ^ k by omega, It_add]
    have e2 := It_aff a b (2 ^ k) (It a b (2 ^ k) x) x
    have e3 := odd_pow ha (2 ^ k)
    generalize hA : a ^ (2 ^ k) = A at e2 e3
    obtain ⟨e, he⟩ : ∃ e, A = 2 * e + 1 := ⟨A / 2, by omega⟩
    have hp : (2 : Int) ^ (k + 1) = 2 * 2 ^ k := by rw [Int.pow_succ]; omega
    refine ⟨(e + 1) * c, ?_⟩
    rw [e1]
    generalize It a b (2 ^ k) (It a b (2 ^ k) x) = y at *
    generalize It a b (2 ^ k) x = z at *
    grind
/-! ### periods -/
theorem gcd_closed {S : Nat → Prop} (h0 : S 0) (hs : ∀ n m, S n → S m → S (n % m)) : ∀ m n, S m → S n → S (Nat.gcd m n) := by
  intro m n
  induction m, n using Nat.gcd.induction with
  | H0 n => intro _ h; rw [Nat.gcd_zero_left]; exact h
  | H1 m n hm ih => intro h1 h2; rw [Nat.gcd_rec]; exact ih (hs _ _ h2 h1) h1
theorem dvd_pow_two : ∀ (j g : Nat), g ∣ 2 ^ j → ∃ i, i ≤ j ∧ g = 2 ^ i
  | 0, g, h => ⟨0, Nat.le_refl _, by simpa using h⟩
  | j + 1, g, h => by
    obtain ⟨c, hc⟩ := h
    by_cases hg : g % 2 = 0
    · obtain ⟨k, hk⟩ : ∃ k, g = 2 * k := ⟨g / 2, by omega⟩
      have : 2 * (k * c) = 2 * 2 ^ j := by rw [← Nat.mul_assoc, ← hk, ← hc, Nat.pow_succ, Nat.mul_comm]
      obtain ⟨i, hi, e⟩ := dvd_pow_two j k ⟨c, by omega⟩
      exact ⟨i + 1, by omega, by rw [hk, e, Nat.pow_succ, Nat.mul_comm]⟩
    · have hc2 : c % 2 = 0 := by
        by_cases z : c % 2 = 0
        · exact z
        · have q : g * c % 2 = 1 := by rw [Nat.mul_mod, show g % 2 = 1 by omega, show c % 2 = 1 by omega]
          rw [← hc, Nat.pow_succ] at q
          omega
      obtain ⟨k, hk⟩ : ∃ k, c = 2 * k := ⟨c / 2, by omega⟩
      have : 2 * (g * k) = 2 * 2 ^ j := by
        have q : g * (2 * k) = 2 ^ j * 2 := by rw [← hk, ← hc, Nat.pow_succ]
        rw [Nat.mul_left_comm] at q
        omega
      obtain ⟨i, hi, e⟩ := dvd_pow_two j g ⟨k, by omega⟩
      exact ⟨i, by omega, e⟩
theorem per_add {m a b x : Int} {n k : Nat} (h : Cg m (It a b n x) x) (h2 : Cg m (It a b k x) x) : Cg m (It a b (n + k) x) x := by
  rw [It_add]
  exact (It_cg (Cg.refl _ _) (Cg.refl _ _) h k).trans h2
theorem per_sub {m a b x : Int} {n k : Nat} (h : Cg m (It a b n x) x) (h2 : Cg m (It a b (n + k) x) x) : Cg m (It a b k x) x := by
  rw [It_add] at h2
  exact (It_cg (Cg.refl _ _) (Cg.refl _ _) h k).symm.trans h2
theorem per_mul {m a b x : Int} {n : Nat} (h : Cg m (It a b n x) x) : ∀ q : Nat, Cg m (It a b (n * q) x) x
  | 0 => Cg.refl _ _
  | q + 1 => per_add (per_mul h q) h
theorem per_mod {m a b x : Int} {n k : Nat} (h : Cg m (It a b n x) x) (h2 : Cg m (It a b k x) x) : Cg m (It a b (k % n) x) x := by
  have e := Nat.div_add_mod k n
  rw [← e] at h2
  exact per_sub (per_mul h _) h2
/-- r is the period of x, modulo m -/
def Per (m a b x : Int) (r : Nat) : Prop := ∀ n : Nat, Cg m (It a b n x) x ↔ r ∣ n
theorem per_of_least {m a b x : Int} {j : Nat} (h : Cg m (It a b (2 ^ j) x) x) (hl : ∀ i, i < j → ¬ Cg m (It a b (2 ^ i) x) x) : Per m a b x (2 ^ j) := by
  intro n
  constructor
  · intro hn
    have g := gcd_closed (S := fun n => Cg m (It a b n x) x) (Cg.refl _ _) (fun n k a b => per_mod b a) n (2 ^ j) hn h
    obtain ⟨i, hi, e⟩ := dvd_pow_two j (Nat.gcd n (2 ^ j)) (Nat.gcd_dvd_right _ _)
    rw [e] at g
    have : i = j := by
      by_cases z : i < j
      · exact absurd g (hl i z)
      · omega
    rw [this] at e
    rw [← e]
    exact Nat.gcd_dvd_left _ _
  · rintro ⟨q, rfl⟩
    exact per_mul h q
/-- two numbers of rounds lead to the same place just if they differ by periods -/
theorem per_eq {a b : Int} (ha : a % 2 = 1) {t : Nat} {x : Int} {r : Nat} (h : Per (2 ^ t) a b x r) {n k : Nat} (hn : n ≤ k) : Cg (2 ^ t) (It a b k x) (It a b n x) ↔ r ∣ k - n := by
  rw [← h (k - n)]
  have e : It a b k x = It a b n (It a b (k - n) x) := by rw [← It_add]; congr 1; omega
  rw [e]
  constructor
  · exact It_inj ha
  · exact fun q => It_cg (Cg.refl _ _) (Cg.refl _ _) q n
theorem per_at {a b : Int} (ha : a % 2 = 1) {t : Nat} {x : Int} {r : Nat} (h : Per (2 ^ t) a b x r) (c : Nat) : Per (2 ^ t) a b (It a b c x) r := by
  intro n
  have e := per_eq ha h (n := c) (k := c + n) (by omega)
  rw [It_add, show c + n - c = n by omega] at e
  exact e
theorem per_cg {m a b x y : Int} {r : Nat} (h : Per m a b x r) (e : Cg m x y) : Per m a b y r := fun n => by
  rw [← h n]
  have c := It_cg (Cg.refl m a) (Cg.refl m b) e n
  exact ⟨fun q => c.trans (q.trans e.symm), fun q => c.symm.trans (q.trans e)⟩
/-! ### bit by bit -/
section
variable {a b x : Int} {t c r : Nat}
theorem per_zero (a b x : Int) : Per (2 ^ 0) a b x 1 := fun n => ⟨fun _ => Nat.one_dvd n, fun _ => ⟨It a b n x - x, by simp⟩⟩
theorem cg_down {u v : Int} (h : Cg (2 ^ (t + 1)) u v) : Cg (2 ^ t) u v := h.weak ⟨2, by rw [Int.pow_succ]⟩
theorem per_stay (ha : a % 2 = 1) (h : Per (2 ^ t) a b x r) (h2 : Cg (2 ^ (t + 1)) (It a b r x) x) : Per (2 ^ (t + 1)) a b x r := fun n => by
  constructor
  · exact fun q => (h n).mp (cg_down q)
  · rintro ⟨q, rfl⟩
    exact per_mul h2 q
theorem per_double (ha : a % 2 = 1) (h : Per (2 ^ t) a b x r) (h2 : ¬ Cg (2 ^ (t + 1)) (It a b r x) x) : Per (2 ^ (t + 1)) a b x (2 * r) := fun n => by
  have two : Cg (2 ^ (t + 1)) (It a b (2 * r) x) x := by
    obtain ⟨d, hd⟩ := (h r).mpr (Nat.dvd_refl r)
    have e1 : It a b (2 * r) x = It a b r (It a b r x) := by rw [show 2 * r = r + r by omega, It_add]
    have e2 := It_aff a b r (It a b r x) x
    have e3 := odd_pow ha r
    generalize a ^ r = A at e2 e3
    obtain ⟨e, he⟩ : ∃ e, A = 2 * e + 1 := ⟨A / 2, by omega⟩
    have hp : (2 : Int) ^ (t + 1) = 2 * 2 ^ t := by rw [Int.pow_succ]; omega
    refine ⟨(e + 1) * d, ?_⟩
    rw [e1]
    generalize It a b r (It a b r x) = y at *
    generalize It a b r x = z at *
    grind
  constructor
  · intro q
    obtain ⟨k, rfl⟩ := (h n).mp (cg_down q)
    by_cases hk : k % 2 = 0
    · obtain ⟨l, hl⟩ : ∃ l, k = 2 * l := ⟨k / 2, by omega⟩
      exact ⟨l, by rw [hl]; grind⟩
    · obtain ⟨l, hl⟩ : ∃ l, k = 2 * l + 1 := ⟨k / 2, by omega⟩
      refine absurd ?_ h2
      have e : r * k = 2 * r * l + r := by rw [hl]; grind
      rw [e] at q
      exact per_sub (per_mul two l) q
  · rintro ⟨q, rfl⟩
    exact per_mul two q
theorem flip {u v y : Int} (h1 : Cg (2 ^ t) u y) (h2 : ¬ Cg (2 ^ (t + 1)) u y) (h3 : Cg (2 ^ t) v u) (h4 : ¬ Cg (2 ^ (t + 1)) v u) : Cg (2 ^ (t + 1)) v y := by
  obtain ⟨c, hc⟩ := h1
  obtain ⟨d, hd⟩ := h3
  have hp : (2 : Int) ^ (t + 1) = 2 * 2 ^ t := by rw [Int.pow_succ]; omega
  have oc : c % 2 = 1 := by
    by_cases z : c % 2 = 0
    · exact absurd ⟨c / 2, by rw [hp]; have : c = 2 * (c / 2) := by omega
                              grind⟩ h2
    · omega
  have od : d % 2 = 1 := by
    by_cases z : d % 2 = 0
    · exact absurd ⟨d / 2, by rw [hp]; have : d = 2 * (d / 2) := by omega
                              grind⟩ h4
    · omega
  refine ⟨(c + d) / 2, ?_⟩
  have : c + d = 2 * ((c + d) / 2) := by omega
  rw [hp]
  grind
theorem none_step (ha : a % 2 = 1) {y : Int} (h : Cg (2 ^ t) (It a b c x) y) (p : Per (2 ^ t) a b x r) (p1 : Per (2 ^ (t + 1)) a b x r) (hn : ¬ Cg (2 ^ (t + 1)) (It a b c x) y) (n : Nat) : ¬ Cg (2 ^ (t + 1)) (It a b n x) y := fun q => by
  refine hn ?_
  have z : Cg (2 ^ t) (It a b n x) (It a b c x) := (cg_down q).trans h.symm
  by_cases l : c ≤ n
  · exact ((per_eq ha p1 l).mpr ((per_eq ha p l).mp z)).symm.trans q
  · have l2 : n ≤ c := by omega
    exact ((per_eq ha p1 l2).mpr ((per_eq ha p l2).mp z.symm)).trans q
end
/-! ### modulo 2 ^ 64 -/
abbrev M64 : Int := 18446744073709551616
theorem M_eq : M64 = 2 ^ 64 := by decide
def wrap (n : Int) : Int := (n + 9223372036854775808) % 18446744073709551616 - 9223372036854775808
def I64 (n : Int) : Prop := -9223372036854775808 ≤ n ∧ n ≤ 9223372036854775807
def U64 (n : Int) : Prop := 0 ≤ n ∧ n < 18446744073709551616
theorem wrap_I64 (n : Int) : I64 (wrap n) := by unfold wrap I64; omega
theorem wrap_cg (n : Int) : Cg M64 (wrap n) n := ⟨(wrap n - n) / M64, by unfold wrap; show _ = (18446744073709551616 : Int) * ((_ - n) / 18446744073709551616); omega⟩
theorem wrap_eq {n x : Int} (hx : I64 x) (h : Cg M64 n x) : wrap n = x := by
  obtain ⟨c, h⟩ := h
  unfold I64 at hx
  unfold wrap
  have h' : n - x = 18446744073709551616 * c := h
  omega
theorem cg_I64 {x y : Int} (hx : I64 x) (hy : I64 y) (h : Cg M64 x y) : x = y := by
  obtain ⟨c, h⟩ := h
  unfold I64 at hx hy
  have h' : x - y = 18446744073709551616 * c := h
  omega
theorem U64_mod (n : Int) : U64 (n % M64) := by unfold U64; show 0 ≤ n % 18446744073709551616 ∧ n % 18446744073709551616 < _; omega
theorem cg_U64 {x y : Int} (hx : U64 x) (hy : U64 y) (h : Cg M64 x y) : x = y := by
  obtain ⟨c, h⟩ := h
  unfold U64 at hx hy
  have h' : x - y = 18446744073709551616 * c := h
  omega
/-- what a pair (a, b) tells: n rounds -/
structure Rep (a b : Int) (n : Nat) (p q : Int) : Prop where
  u1 : U64 p
  u2 : U64 q
  h1 : Cg M64 p (a ^ n)
  h2 : Cg M64 q (It a b n 0)
theorem rep_one (a b : Int) : Rep a b 1 (a % M64) (b % M64) := ⟨U64_mod _, U64_mod _, by rw [Int.pow_one]; exact Cg.of_mod _ _, by
  show Cg M64 (b % M64) (a * 0 + b)
  rw [Int.mul_zero, Int.zero_add]; exact Cg.of_mod _ _⟩
theorem rep_zero (a b : Int) : Rep a b 0 1 0 := ⟨⟨by decide, by decide⟩, ⟨by decide, by decide⟩, by rw [Int.pow_zero]; exact Cg.refl _ _, Cg.refl _ _⟩
theorem rep_behind {a b p q u v : Int} {n m : Nat} (h : Rep a b n p q) (k : Rep a b m u v) : Rep a b (n + m) (p * u % M64) ((q * u + v) % M64) := ⟨U64_mod _, U64_mod _, by
  rw [Int.pow_add]; exact (Cg.of_mod _ _).trans (h.h1.mul k.h1), by
  rw [It_add, It_lin a b m, Int.mul_comm (a ^ m)]
  exact (Cg.of_mod _ _).trans ((h.h2.mul k.h1).add k.h2)⟩
theorem rep_led {a b p q : Int} {n : Nat} (h : Rep a b n p q) {x y : Int} (e : Cg M64 y x) : Cg M64 ((p * y + q) % M64) (It a b n x) := by
  rw [It_lin]
  exact (Cg.of_mod _ _).trans ((h.h1.mul e).add h.h2)
theorem rep_cg {a b a' b' p q : Int} {n : Nat} (h : Rep a b n p q) (ha : Cg M64 a a') (hb : Cg M64 b b') : Rep a' b' n p q := ⟨h.u1, h.u2, h.h1.trans (ha.pow n), h.h2.trans (It_cg ha hb (Cg.refl _ _) n)⟩
/-! ### what the functions promise -/
/-- (t, r): tail and ring -/
def TR (a b x t r : Int) : Prop := (a % 2 = 0 ∧ r = 1 ∧ ∃ T : Nat, t = T ∧ Cg M64 (It a b (T + 1) x) (It a b T x) ∧ ∀ i, i < T → ¬ Cg M64 (It a b (i + 1) x) (It a b i x)) ∨
  (a % 2 = 1 ∧ t = 0 ∧ ∃ j : Nat, r = ((2 ^ j : Nat) : Int) ∧ Cg M64 (It a b (2 ^ j) x) x ∧ ∀ i, i < j → ¬ Cg M64 (It a b (2 ^ i) x) x)
/-- the least number of rounds to y -/
def RT (a b x y : Int) : Option Nat → Prop
  | some c => Cg M64 (It a b c x) y ∧ ∀ n, n < c → ¬ Cg M64 (It a b n x) y
  | none => ∀ n, ¬ Cg M64 (It a b n x) y
/-- the longest ring -/
def LR (a b r : Int) : Prop := (a % 2 = 0 ∧ r = 1) ∨ (a % 2 = 1 ∧ ∃ j : Nat, r = ((2 ^ j : Nat) : Int) ∧ (Cg M64 (a ^ (2 ^ j)) 1 ∧ Cg M64 (It a b (2 ^ j) 0) 0) ∧ ∀ i, i < j → ¬ (Cg M64 (a ^ (2 ^ i)) 1 ∧ Cg M64 (It a b (2 ^ i) 0) 0))
theorem even64 {a b : Int} (ha : a % 2 = 0) (x : Int) : Cg M64 (It a b (64 + 1) x) (It a b 64 x) := by
  have e : It a b (64 + 1) x = It a b 64 (It a b 1 x) := by rw [show (64 : Nat) + 1 = 1 + 64 by omega, It_add]
  rw [e]
  show M64 ∣ _
  rw [It_aff]
  obtain ⟨c, hc⟩ : ∃ c, a = 2 * c := ⟨a / 2, by omega⟩
  rw [hc, Int.mul_pow, M_eq, Int.mul_assoc]
  exact ⟨_, rfl⟩
theorem fix_on {m a b x : Int} {T : Nat} (h : Cg m (It a b (T + 1) x) (It a b T x)) : ∀ n, T ≤ n → Cg m (It a b n x) (It a b T x) := by
  intro n hn
  obtain ⟨k, rfl⟩ : ∃ k, n = T + k := ⟨n - T, by omega⟩
  induction k with
  | zero => exact Cg.refl _ _
  | succ k ih =>
    have e : It a b (T + (k + 1)) x = It a b 1 (It a b (T + k) x) := by rw [← It_add]; rfl
    have e2 : It a b (T + 1) x = It a b 1 (It a b T x) := by rw [← It_add]
    rw [e]
    rw [e2] at h
    exact (It_cg (Cg.refl _ _) (Cg.refl _ _) (ih (by omega)) 1).trans h
theorem fix_at {m a b x : Int} {T n : Nat} (h : Cg m (It a b (T + 1) x) (It a b T x)) (hn : T ≤ n) : Cg m (It a b (n + 1) x) (It a b n x) := (fix_on h (n + 1) (by omega)).trans (fix_on h n hn).symm
theorem It_twice {a b f s : Int} (hf : Cg M64 f (a * a)) (hs : Cg M64 s (a * b + b)) (n : Nat) (x : Int) : Cg M64 (It f s n x) (It a b (2 * n) x) := by
  induction n with
  | zero => exact Cg.refl _ _
  | succ n ih =>
    show Cg M64 (f * It f s n x + s) (a * (a * It a b (2 * n) x + b) + b)
    have e : a * (a * It a b (2 * n) x + b) + b = a * a * It a b (2 * n) x + (a * b + b) := by grind
    rw [e]
    exact (hf.mul ih).add hs
theorem odd_of_cg {a f : Int} (h : Cg M64 f a) : f % 2 = a % 2 := by
  obtain ⟨c, h⟩ := h
  have h' : f - a = 18446744073709551616 * c := h
  omega
theorem It_double (a b : Int) (n : Nat) (x : Int) : It a (2 * b) n (2 * x) = 2 * It a b n x := by
  induction n with
  | zero => rfl
  | succ n ih => show a * It a (2 * b) n (2 * x) + 2 * b = 2 * (a * It a b n x + b); rw [ih]; grind
theorem two_even {a b x : Int} (ha : a % 2 = 0) {n : Nat} (h : Cg M64 (It a b (n + 2) x) (It a b n x)) : Cg M64 (It a b (n + 1) x) (It a b n x) := by
  have e : It a b (n + 2) x - It a b n x = (a + 1) * (It a b (n + 1) x - It a b n x) := by
    show a * It a b (n + 1) x + b - It a b n x = _
    have e1 : It a b (n + 1) x = a * It a b n x + b := rfl
    generalize It a b n x = z at *
    generalize It a b (n + 1) x = y at *
    grind
  have h2 : M64 ∣ It a b (n + 2) x - It a b n x := h
  rw [e, M_eq] at h2
  show M64 ∣ _
  rw [M_eq]
  exact cancel1 (by omega) 64 _ h2
theorem tr_twice {a b x t r f s t' r' : Int} (h : TR a b x t r) (h2 : TR f s x t' r') (hf : Cg M64 f (a * a)) (hs : Cg M64 s (a * b + b)) :
    t' = (t + 1) / 2 ∧ r' = if r / 2 > 1 then r / 2 else 1 := by
  have par : f % 2 = a % 2 := by
    rw [odd_of_cg hf, Int.mul_emod]
    rcases (by omega : a % 2 = 0 ∨ a % 2 = 1) with e | e <;> rw [e] <;> rfl
  rcases h with ⟨ha, rfl, T, rfl, hT, lT⟩ | ⟨ha, rfl, j, rfl, hj, lj⟩
  · rcases h2 with ⟨_, rfl, T', rfl, hT', lT'⟩ | ⟨hf2, _⟩
    · refine ⟨?_, by decide⟩
      have key : ∀ n, Cg M64 (It f s (n + 1) x) (It f s n x) ↔ T ≤ 2 * n := fun n => by
        have e1 := It_twice hf hs (n + 1) x
        have e2 := It_twice hf hs n x
        rw [show 2 * (n + 1) = 2 * n + 2 by omega] at e1
        constructor
        · intro q
          have q2 := two_even ha (e1.symm.trans (q.trans e2))
          by_cases z : T ≤ 2 * n
          · exact z
          · exact absurd q2 (lT _ (by omega))
        · intro q
          refine e1.trans (Cg.trans ?_ e2.symm)
          exact (fix_on hT (2 * n + 2) (by omega)).trans (fix_on hT (2 * n) q).symm
      have k1 := (key T').mp hT'
      have k2 : ¬ T' > (T + 1) / 2 := fun z => lT' _ z ((key _).mpr (by omega))
      omega
    · omega
  · rcases h2 with ⟨hf2, _⟩ | ⟨_, rfl, j', rfl, hj', lj'⟩
    · omega
    · refine ⟨by decide, ?_⟩
      have key : ∀ i, Cg M64 (It f s (2 ^ i) x) x ↔ Cg M64 (It a b (2 ^ (i + 1)) x) x := fun i => by
        have e := It_twice hf hs (2 ^ i) x
        rw [show 2 * 2 ^ i = 2 ^ (i + 1) by rw [Nat.pow_succ]; omega] at e
        exact ⟨fun q => e.symm.trans q, fun q => e.trans q⟩
      cases j with
      | zero =>
        have z : Cg M64 (It a b (2 ^ (0 + 1)) x) x := per_add hj hj
        have : j' = 0 := by
          cases j' with
          | zero => rfl
          | succ j' => exact absurd ((key 0).mpr z) (lj' 0 (by omega))
        rw [this]; decide
      | succ j =>
        have h1 := (key j).mpr hj
        have : j' = j := by
          by_cases z1 : j' < j
          · exact absurd ((key j').mp hj') (lj (j' + 1) (by omega))
          · by_cases z2 : j < j'
            · exact absurd h1 (lj' j z2)
            · omega
        rw [this]
        have e : (((2 ^ (j + 1) : Nat) : Int)) / 2 = ((2 ^ j : Nat) : Int) := by rw [Nat.pow_succ]; omega
        rw [e]
        have p : 0 < 2 ^ j := Nat.two_pow_pos j
        split
        · rfl
        · omega
/-- the way back -/
structure Bk (a b g m : Int) : Prop where
  h1 : Cg M64 (g * a) 1
  h2 : Cg M64 m (-(g * b))
theorem Bk.there {a b g m : Int} (k : Bk a b g m) (x : Int) : Cg M64 (g * (a * x + b) + m) x := by
  have e := ((k.h1.mul (Cg.refl _ x)).add (Cg.refl _ (g * b))).add k.h2
  have e1 : g * a * x + g * b + m = g * (a * x + b) + m := by grind
  have e2 : 1 * x + g * b + -(g * b) = x := by grind
  rw [e1, e2] at e
  exact e
theorem Bk.here {a b g m : Int} (k : Bk a b g m) (x : Int) : Cg M64 (a * (g * x + m) + b) x := by
  have e := ((k.h1.mul (Cg.refl _ x)).add ((Cg.refl _ a).mul k.h2)).add (Cg.refl _ b)
  have e1 : g * a * x + a * m + b = a * (g * x + m) + b := by grind
  rw [e1] at e
  refine e.trans ?_
  have f := ((k.h1.mul (Cg.refl _ (-b))).add (Cg.refl _ (x + b)))
  have e2 : g * a * -b + (x + b) = 1 * x + a * -(g * b) + b := by grind
  have e3 : 1 * -b + (x + b) = x := by grind
  rw [e2, e3] at f
  exact f
theorem Bk.it {a b g m : Int} (k : Bk a b g m) (n : Nat) (x : Int) : Cg M64 (It g m n (It a b n x)) x := by
  induction n generalizing x with
  | zero => exact Cg.refl _ _
  | succ n ih =>
    have e : It g m (n + 1) (It a b (n + 1) x) = It g m n (It g m 1 (It a b (n + 1) x)) := by rw [← It_add, Nat.add_comm]
    rw [e]
    exact (It_cg (Cg.refl _ _) (Cg.refl _ _) (k.there _) n).trans (ih x)
theorem Bk.ti {a b g m : Int} (k : Bk a b g m) (n : Nat) (x : Int) : Cg M64 (It a b n (It g m n x)) x := by
  induction n generalizing x with
  | zero => exact Cg.refl _ _
  | succ n ih =>
    have e : It a b (n + 1) (It g m (n + 1) x) = It a b n (It a b 1 (It g m (n + 1) x)) := by rw [← It_add, Nat.add_comm]
    rw [e]
    exact (It_cg (Cg.refl _ _) (Cg.refl _ _) (k.here _) n).trans (ih x)
theorem Bk.iff {a b g m : Int} (k : Bk a b g m) (n : Nat) (x : Int) : Cg M64 (It g m n x) x ↔ Cg M64 (It a b n x) x :=
  ⟨fun q => (It_cg (Cg.refl _ _) (Cg.refl _ _) q n).symm.trans (k.ti n x), fun q => (It_cg (Cg.refl _ _) (Cg.refl _ _) q n).symm.trans (k.it n x)⟩
theorem least_eq {S S' : Nat → Prop} (e : ∀ n, S n ↔ S' n) {i j : Nat} (h : S i) (l : ∀ n, n < i → ¬ S n) (h' : S' j) (l' : ∀ n, n < j → ¬ S' n) : i = j := by
  by_cases z1 : i < j
  · exact absurd ((e i).mp h) (l' i z1)
  · by_cases z2 : j < i
    · exact absurd ((e j).mpr h') (l j z2)
    · omega
theorem Bk.odd {a b g m : Int} (k : Bk a b g m) (ha : a % 2 = 1) : g % 2 = 1 := by
  have h := odd_of_cg k.h1
  rw [Int.mul_emod, ha] at h
  omega
theorem tr_back {a b g m x t r t' r' : Int} (k : Bk a b g m) (ha : a % 2 = 1) (h : TR a b x t r) (h2 : TR g m x t' r') : t' = t ∧ r' = r := by
  have hg := k.odd ha
  rcases h with ⟨z, _⟩ | ⟨_, rfl, j, rfl, hj, lj⟩
  · omega
  · rcases h2 with ⟨z, _⟩ | ⟨_, rfl, j', rfl, hj', lj'⟩
    · omega
    · have e := least_eq (S := fun i => Cg M64 (It g m (2 ^ i) x) x) (S' := fun i => Cg M64 (It a b (2 ^ i) x) x) (fun i => k.iff _ x) hj' lj' hj lj
      rw [e]
      exact ⟨rfl, rfl⟩
theorem id_iff {a b : Int} {n : Nat} : (Cg M64 (a ^ n) 1 ∧ Cg M64 (It a b n 0) 0) ↔ ∀ x, Cg M64 (It a b n x) x := by
  constructor
  · rintro ⟨h1, h2⟩ x
    rw [It_lin]
    have e := (h1.mul (Cg.refl _ x)).add h2
    rw [Int.one_mul, Int.add_zero] at e
    exact e
  · intro h
    have h0 := h 0
    have h1 := h 1
    refine ⟨?_, h0⟩
    have e := h1.sub h0
    rw [It_lin a b n 1] at e
    have e2 : a ^ n * 1 + It a b n 0 - It a b n 0 = a ^ n := by grind
    rw [e2] at e
    exact e
theorem lr_back {a b g m r r' : Int} (k : Bk a b g m) (ha : a % 2 = 1) (h : LR a b r) (h2 : LR g m r') : r' = r := by
  have hg := k.odd ha
  rcases h with ⟨z, _⟩ | ⟨_, j, rfl, hj, lj⟩
  · omega
  · rcases h2 with ⟨z, _⟩ | ⟨_, j', rfl, hj', lj'⟩
    · omega
    · have e := least_eq (S := fun i => Cg M64 (g ^ 2 ^ i) 1 ∧ Cg M64 (It g m (2 ^ i) 0) 0) (S' := fun i => Cg M64 (a ^ 2 ^ i) 1 ∧ Cg M64 (It a b (2 ^ i) 0) 0)
        (fun i => by rw [id_iff, id_iff]; exact ⟨fun q x => (k.iff _ x).mp (q x), fun q x => (k.iff _ x).mpr (q x)⟩) hj' lj' hj lj
      rw [e]
theorem id64 {a b : Int} (ha : a % 2 = 1) (x : Int) : Cg M64 (It a b (2 ^ 64) x) x := by
  have h := It_pow (a := a) (b := b) ha 64 x
  rw [← M_eq] at h
  exact h
/-- the ring of an odd factor is the period -/
theorem tr_per {a b x t r : Int} (ha : a % 2 = 1) (h : TR a b x t r) : t = 0 ∧ ∃ R : Nat, r = (R : Int) ∧ 0 < R ∧ Per (2 ^ 64) a b x R := by
  rcases h with ⟨z, _⟩ | ⟨_, rfl, j, rfl, hj, lj⟩
  · omega
  · have hM := M_eq
    refine ⟨rfl, 2 ^ j, rfl, Nat.two_pow_pos j, ?_⟩
    rw [M_eq] at hj
    exact per_of_least hj fun i hi => by rw [← M_eq]; exact lj i hi
theorem rt_some {a b x y : Int} {o : Option Nat} (h : RT a b x y o) {n : Nat} (hn : Cg M64 (It a b n x) y) : ∃ c, o = some c ∧ c ≤ n ∧ Cg M64 (It a b c x) y := by
  cases o with
  | none => exact absurd hn (h n)
  | some c =>
    refine ⟨c, rfl, ?_, h.1⟩
    by_cases z : c ≤ n
    · exact z
    · exact absurd hn (h.2 n (by omega))
/-- rounds_to of an odd factor -/
theorem rt_odd {a b x y t r : Int} {o : Option Nat} (ha : a % 2 = 1) (h : RT a b x y o) (p : TR a b x t r) {n : Nat} (hn : Cg M64 (It a b n x) y) : ∃ c : Nat, o = some c ∧ (c : Int) = (n : Int) % r ∧ (c : Int) < r := by
  obtain ⟨_, R, rfl, hR, hp⟩ := tr_per ha p
  have e := Nat.div_add_mod n R
  have lt := Nat.mod_lt n hR
  have h1 : Cg M64 (It a b (n % R) x) y := by
    refine Cg.trans ?_ hn
    rw [M_eq]
    exact ((per_eq ha hp (Nat.mod_le n R)).mpr ⟨n / R, by omega⟩).symm
  obtain ⟨c, rfl, hc, hy⟩ := rt_some h h1
  have d : R ∣ n % R - c := (per_eq ha hp hc).mp (by rw [← M_eq]; exact h1.trans hy.symm)
  have : n % R - c = 0 := Nat.eq_zero_of_dvd_of_lt d (by omega)
  exact ⟨c, rfl, by omega, by omega⟩
theorem rt_back {a b g m x y t r : Int} {o : Option Nat} (k : Bk a b g m) (ha : a % 2 = 1) (h : RT g m x y o) (p : TR a b x t r) {n : Nat} (hn : Cg M64 (It a b n x) y) : ∃ c : Nat, o = some c ∧ (c : Int) = (0 - (n : Int)) % r := by
  obtain ⟨_, R, rfl, hR, hp⟩ := tr_per ha p
  have hg := k.odd ha
  have hpg : Per (2 ^ 64) g m x R := fun i => by
    rw [← hp i, ← M_eq]
    exact k.iff i x
  -- a number of rounds back that leads there
  obtain ⟨e, he⟩ : ∃ e : Nat, (e : Int) = (0 - (n : Int)) % (R : Int) := ⟨((0 - (n : Int)) % (R : Int)).toNat, by
    have := Int.emod_nonneg (0 - (n : Int)) (show (R : Int) ≠ 0 by omega)
    omega⟩
  have hlt : e < R := by
    have := Int.emod_lt_of_pos (0 - (n : Int)) (show (0 : Int) < (R : Int) by omega)
    omega
  have dv : R ∣ e + n := by
    have d : (R : Int) ∣ (e : Int) + n := by
      rw [he]
      have q := Int.emod_add_mul_ediv (0 - (n : Int)) (R : Int)
      exact ⟨-((0 - (n : Int)) / R), by grind⟩
    exact Int.natCast_dvd_natCast.mp (by rw [Int.natCast_add]; exact d)
  have h1 : Cg M64 (It g m e x) y := by
    -- y = f^n x, f^(e+n) x = x
    have q : Cg M64 (It a b e y) x := by
      have q1 : Cg M64 (It a b (n + e) x) x := by rw [M_eq]; exact (hp _).mpr (by rw [Nat.add_comm]; exact dv)
      rw [It_add] at q1
      exact (It_cg (Cg.refl _ _) (Cg.refl _ _) hn.symm e).trans q1
    exact (It_cg (Cg.refl _ _) (Cg.refl _ _) q.symm e).trans (k.it e y)
  obtain ⟨c, rfl, hc, hy⟩ := rt_some h h1
  have d : R ∣ e - c := (per_eq hg hpg hc).mp (by rw [← M_eq]; exact h1.trans hy.symm)
  have : e - c = 0 := Nat.eq_zero_of_dvd_of_lt d (by omega)
  exact ⟨c, rfl, by omega⟩
theorem rt_parts {a b x t r : Int} {n k : Nat} {o1 o2 o3 : Option Nat} (p : TR a b x t r) (h1 : RT a b x (It a b (n + k) x) o1) (h2 : RT a b x (It a b n x) o2) (h3 : RT a b (It a b n x) (It a b (n + k) x) o3) :
    ∃ c1 c2 c3 : Nat, o1 = some c1 ∧ o2 = some c2 ∧ o3 = some c3 ∧ (c1 : Int) ≤ (c2 : Int) + c3 ∧ ((c2 : Int) + c3 - c1) % r = 0 ∧ (c1 : Int) < t + r ∧ 0 < r := by
  obtain ⟨c2, rfl, l2, e2⟩ := rt_some h2 (Cg.refl _ _)
  obtain ⟨c3, rfl, l3, e3⟩ := rt_some h3 (n := k) (by rw [It_add]; exact Cg.refl _ _)
  have e : Cg M64 (It a b (c2 + c3) x) (It a b (n + k) x) := by
    rw [It_add a b c2]
    exact (It_cg (Cg.refl _ _) (Cg.refl _ _) e2 c3).trans e3
  obtain ⟨c1, rfl, l1, e1⟩ := rt_some h1 e
  refine ⟨c1, c2, c3, rfl, rfl, rfl, by omega, ?_⟩
  rcases p with ⟨ha, rfl, T, rfl, hT, lT⟩ | ⟨ha, rfl, j, rfl, hj, lj⟩
  · refine ⟨by omega, ?_, by decide⟩
    have : c1 ≤ T := by
      by_cases z : n + k ≤ T
      · obtain ⟨c, q, l, _⟩ := rt_some h1 (Cg.refl M64 (It a b (n + k) x))
        cases q
        omega
      · obtain ⟨c, q, l, _⟩ := rt_some h1 (fix_on hT (n + k) (by omega)).symm
        cases q
        exact l
    omega
  · have hp := per_of_least hj lj
    rw [M_eq] at hp
    have hR : 0 < 2 ^ j := Nat.two_pow_pos j
    have d : 2 ^ j ∣ c2 + c3 - c1 := (per_eq ha hp l1).mp (by rw [← M_eq]; exact e.trans e1.symm)
    have d2 : (((2 ^ j : Nat) : Int)) ∣ (c2 : Int) + c3 - c1 := by
      have : (c2 : Int) + c3 - c1 = ((c2 + c3 - c1 : Nat) : Int) := by omega
      rw [this]
      exact Int.natCast_dvd_natCast.mpr d
    refine ⟨Int.emod_eq_zero_of_dvd d2, ?_, by omega⟩
    obtain ⟨c, q, q2, q3⟩ := rt_odd (t := 0) (r := ((2 ^ j : Nat) : Int)) ha h1 (Or.inr ⟨ha, rfl, j, rfl, hj, lj⟩) (Cg.refl M64 (It a b (n + k) x))
    cases q
    omega
/-! ### equations by mul -/
theorem cancel_pow {t s : Nat} {z : Int} : (2 : Int) ^ (t + s) ∣ 2 ^ t * z ↔ (2 : Int) ^ s ∣ z := by
  have p : (0 : Int) < 2 ^ t := by have := Nat.two_pow_pos t; exact_mod_cast this
  rw [Int.pow_add]
  constructor
  · rintro ⟨c, hc⟩
    exact ⟨c, by rw [Int.mul_assoc] at hc; exact Int.eq_of_mul_eq_mul_left (by omega) hc⟩
  · rintro ⟨c, hc⟩
    exact ⟨c, by rw [hc, Int.mul_assoc]⟩
theorem inv_step {n f : Int} : 1 - n * (f * (2 - n * f)) = (1 - n * f) ^ 2 := by grind
theorem inv_start {n : Int} (hn : n % 2 = 1) : (2 : Int) ^ 64 ∣ (1 - n * n) ^ 64 := by
  obtain ⟨c, hc⟩ : ∃ c, 1 - n * n = 2 * c := ⟨(1 - n * n) / 2, by
    have : n * n % 2 = 1 := by rw [Int.mul_emod, hn]; rfl
    omega⟩
  rw [hc, Int.mul_pow]
  exact ⟨_, rfl⟩
/-- the row of all that, times 2 ^ t * u (u odd), are r -/
structure Row (other result first step many : Int) : Prop where
  i1 : I64 first
  s1 : 1 ≤ step
  s2 : step ≤ 18446744073709551616
  m1 : 1 ≤ many
  m2 : many ≤ 9223372036854775808
  top : first + step * (many - 1) ≤ 9223372036854775807
  iff : ∀ x, I64 x → (Cg M64 (x * other) result ↔ ∃ k, 0 ≤ k ∧ k < many ∧ x = first + step * k)
theorem row_of {other result o v : Int} {t : Nat} (ht : t ≤ 63) (ho : other = 2 ^ t * (2 * o + 1)) (hr : result % 2 ^ t = 0) (hv : Cg M64 ((other / 2 ^ t) * v) 1)
    {step least first : Int} (hs : step = M64 / 2 ^ t) (hl : least = result / 2 ^ t * v % step) (hf : first = if least + -9223372036854775808 / step * step ≥ -9223372036854775808 then least + -9223372036854775808 / step * step else least + -9223372036854775808 / step * step + step) :
    Row other result first step (2 ^ t) := by
  obtain ⟨s, hts⟩ : ∃ s : Nat, t + s = 64 := ⟨64 - t, by omega⟩
  have pt : (0 : Int) < 2 ^ t := by have := Nat.two_pow_pos t; exact_mod_cast this
  have ps : (0 : Int) < 2 ^ s := by have := Nat.two_pow_pos s; exact_mod_cast this
  have eM : M64 = 2 ^ t * 2 ^ s := by rw [M_eq, ← hts, Int.pow_add]
  have es : step = 2 ^ s := by rw [hs, eM, Int.mul_ediv_cancel_left _ (by omega)]
  have eo : other / 2 ^ t = 2 * o + 1 := by rw [ho, Int.mul_ediv_cancel_left _ (by omega)]
  rw [eo] at hv
  obtain ⟨q, hq⟩ : ∃ q, result = 2 ^ t * q := ⟨result / 2 ^ t, by have := Int.emod_add_mul_ediv result (2 ^ t); omega⟩
  have eq : result / 2 ^ t = q := by rw [hq, Int.mul_ediv_cancel_left _ (by omega)]
  rw [eq] at hl
  -- where first lies, and what it is
  have l0 : 0 ≤ least := by rw [hl]; exact Int.emod_nonneg _ (by omega)
  have l1 : least < step := by rw [hl]; exact Int.emod_lt_of_pos _ (by omega)
  have fac : I64 first ∧ first < -9223372036854775808 + step ∧ Cg step first least ∧ step ≤ 18446744073709551616 := by
    by_cases z : t = 0
    · have e : s = 64 := by omega
      rw [e] at es
      have es' : step = 18446744073709551616 := by rw [es]; decide
      rw [es'] at hf l1 ⊢
      have d : (-9223372036854775808 : Int) / 18446744073709551616 * 18446744073709551616 = -18446744073709551616 := by decide
      rw [d] at hf
      unfold I64
      split at hf
      · exact ⟨by omega, by omega, ⟨-1, by omega⟩, by omega⟩
      · exact ⟨by omega, by omega, ⟨0, by omega⟩, by omega⟩
    · obtain ⟨t', ht'⟩ : ∃ t', t = t' + 1 := ⟨t - 1, by omega⟩
      have e63 : (9223372036854775808 : Int) = 2 ^ t' * step := by
        have : M64 = 2 * (2 ^ t' * step) := by rw [eM, ht', Int.pow_succ, es]; grind
        have : (18446744073709551616 : Int) = 2 * (2 ^ t' * step) := this
        omega
      have d : (-9223372036854775808 : Int) / step * step = -9223372036854775808 := by
        refine Int.ediv_mul_cancel ⟨-(2 ^ t'), ?_⟩
        have : step * -(2 ^ t') = -(2 ^ t' * step) := by grind
        omega
      rw [d, if_pos (by omega)] at hf
      have hp : 1 ≤ (2 : Int) ^ t' := by have := Nat.two_pow_pos t'; exact_mod_cast this
      have hle : step ≤ 9223372036854775808 := by
        rw [e63]
        have := Int.mul_le_mul_of_nonneg_right hp (show (0 : Int) ≤ step by omega)
        omega
      unfold I64
      refine ⟨by omega, by omega, ⟨-(2 ^ t'), ?_⟩, by omega⟩
      have : step * -(2 ^ t') = -(2 ^ t' * step) := by grind
      omega
  obtain ⟨f1, f2, f3, f4⟩ := fac
  have eM2 : (18446744073709551616 : Int) = 2 ^ t * step := by rw [es]; exact eM
  have sp : 1 ≤ step := by omega
  have mle : (2 : Int) ^ t ≤ 9223372036854775808 := by
    have h := Nat.pow_le_pow_right (show 0 < 2 by decide) ht
    have e : (2 : Nat) ^ 63 = 9223372036854775808 := by decide
    rw [e] at h
    have c : ((2 ^ t : Nat) : Int) = (2 : Int) ^ t := Int.natCast_pow 2 t
    omega
  unfold I64 at f1
  refine ⟨f1, sp, f4, by omega, mle, ?_, fun x hx => ?_⟩
  · have : step * (2 ^ t - 1) = 2 ^ t * step - step := by grind
    omega
  · -- the equation, modulo step
    have c1 : Cg M64 (x * other) result ↔ Cg step (x * (2 * o + 1)) q := by
      have e : x * other - result = 2 ^ t * (x * (2 * o + 1) - q) := by rw [ho, hq]; grind
      show M64 ∣ _ ↔ step ∣ _
      rw [e, es, M_eq, ← hts]
      exact cancel_pow
    have hv2 : Cg step ((2 * o + 1) * v) 1 := hv.weak ⟨2 ^ t, by rw [es, eM, Int.mul_comm]⟩
    have c2 : Cg step (x * (2 * o + 1)) q ↔ Cg step x first := by
      have fl : Cg step first (q * v) := f3.trans (by rw [hl]; exact Cg.of_mod _ _)
      constructor
      · intro k
        have k2 := k.mul (Cg.refl step v)
        have k3 := (Cg.refl step x).mul hv2
        have e : x * ((2 * o + 1) * v) = x * (2 * o + 1) * v := by grind
        rw [e, Int.mul_one] at k3
        exact k3.symm.trans (k2.trans fl.symm)
      · intro k
        have k2 := (k.trans fl).mul (Cg.refl step (2 * o + 1))
        have k3 := (Cg.refl step q).mul hv2
        have e : q * ((2 * o + 1) * v) = q * v * (2 * o + 1) := by grind
        rw [e, Int.mul_one] at k3
        exact k2.trans k3
    rw [c1, c2]
    unfold I64 at hx
    constructor
    · rintro ⟨k, hk⟩
      refine ⟨k, ?_, ?_, by omega⟩
      · by_cases z : 0 ≤ k
        · exact z
        · have : step * k ≤ step * (-1) := Int.mul_le_mul_of_nonneg_left (by omega) (by omega)
          omega
      · by_cases z : k < 2 ^ t
        · exact z
        · have : step * 2 ^ t ≤ step * k := Int.mul_le_mul_of_nonneg_left (by omega) (by omega)
          have : step * 2 ^ t = 2 ^ t * step := Int.mul_comm _ _
          omega
    · rintro ⟨k, _, _, e⟩
      exact ⟨k, by omega⟩
theorem no_row {other result o : Int} {t : Nat} (ht : t ≤ 63) (ho : other = 2 ^ t * (2 * o + 1)) (hr : result % 2 ^ t ≠ 0) (x : Int) : ¬ Cg M64 (x * other) result := by
  rintro ⟨c, hc⟩
  refine hr (Int.emod_eq_zero_of_dvd ?_)
  obtain ⟨s, hts⟩ : ∃ s : Nat, t + s = 64 := ⟨64 - t, by omega⟩
  have eM : M64 = 2 ^ t * 2 ^ s := by rw [M_eq, ← hts, Int.pow_add]
  refine ⟨x * (2 * o + 1) - 2 ^ s * c, ?_⟩
  rw [ho] at hc
  rw [eM] at hc
  grind
/-- an integer that is not 0 by its twos -/
theorem twos_of {n : Int} (h : n ≠ 0) : ∃ (t : Nat) (o : Int), n = 2 ^ t * (2 * o + 1) := by
  have key : ∀ (k : Nat) (n : Int), n.natAbs ≤ k → n ≠ 0 → ∃ (t : Nat) (o : Int), n = 2 ^ t * (2 * o + 1) := by
    intro k
    induction k with
    | zero => intro n hk hn; omega
    | succ k ih =>
      intro n hk hn
      by_cases z : n % 2 = 0
      · obtain ⟨t, o, e⟩ := ih (n / 2) (by omega) (by omega)
        refine ⟨t + 1, o, ?_⟩
        have e2 : n = 2 * (n / 2) := by omega
        rw [e2, e, Int.pow_succ]
        grind
      · exact ⟨0, n / 2, by rw [Int.pow_zero]; omega⟩
  exact key n.natAbs n (Nat.le_refl _) h
theorem twos_le {n o : Int} {t : Nat} (h : n = 2 ^ t * (2 * o + 1)) (hn : I64 n) : t ≤ 63 := by
  by_cases z : t ≤ 63
  · exact z
  · exfalso
    have hp : (18446744073709551616 : Int) ≤ 2 ^ t := by
      have h := Nat.pow_le_pow_right (show 0 < 2 by decide) (show 64 ≤ t by omega)
      have e : (2 : Nat) ^ 64 = 18446744073709551616 := by decide
      rw [e] at h
      have c : ((2 ^ t : Nat) : Int) = (2 : Int) ^ t := Int.natCast_pow 2 t
      omega
    unfold I64 at hn
    by_cases y : 0 ≤ o
    · have : 2 ^ t * 1 ≤ (2 : Int) ^ t * (2 * o + 1) := Int.mul_le_mul_of_nonneg_left (by omega) (by omega)
      omega
    · have : (2 : Int) ^ t * (2 * o + 1) ≤ 2 ^ t * (-1) := Int.mul_le_mul_of_nonneg_left (by omega) (by omega)
      omega
end Mt

set_option maxHeartbeats 4000000
/-! rounding to 53 bits, half to even, of whole units -/
namespace Fm
/-- bit length -/
def bits (n : Nat) : Nat := if n = 0 then 0 else n.log2 + 1
theorem bits_le {n k : Nat} : bits n ≤ k ↔ n < 2 ^ k := by
  unfold bits
  split
  · rename_i h
    subst h
    exact ⟨fun _ => Nat.two_pow_pos k, fun _ => Nat.zero_le _⟩
  · rename_i h
    rw [← Nat.log2_lt h]
    omega
theorem lt_bits {n k : Nat} : k < bits n ↔ 2 ^ k ≤ n := by
  have := @bits_le n k
  omega
theorem bits_mono {n m : Nat} (h : n ≤ m) : bits n ≤ bits m := bits_le.mpr (Nat.lt_of_le_of_lt h (bits_le.mp (Nat.le_refl _)))
theorem bits_self (n : Nat) : n < 2 ^ bits n := bits_le.mp (Nat.le_refl _)
theorem bits_scale {n : Nat} (h : n ≠ 0) (k : Nat) : bits (2 ^ k * n) = bits n + k := by
  apply Nat.le_antisymm
  · rw [bits_le, Nat.pow_add, Nat.mul_comm]
    exact Nat.mul_lt_mul_of_pos_right (bits_self n) (Nat.two_pow_pos k)
  · have h0 : 0 < bits n := lt_bits.mpr (by rw [Nat.pow_zero]; omega)
    have h1 : 2 ^ (bits n - 1) ≤ n := lt_bits.mp (by omega)
    have h2 : bits n + k - 1 < bits (2 ^ k * n) := lt_bits.mpr (by
      rw [show bits n + k - 1 = k + (bits n - 1) by omega, Nat.pow_add]
      exact Nat.mul_le_mul_left _ h1)
    omega
/-- how far the units are too fine -/
def sh (n : Nat) : Nat := bits n - 53
/-- n / 2^s, to the nearest, half to even -/
def rq (n s : Nat) : Nat := if 2 * (n % 2 ^ s) > 2 ^ s ∨ (2 * (n % 2 ^ s) = 2 ^ s ∧ n / 2 ^ s % 2 = 1) then n / 2 ^ s + 1 else n / 2 ^ s
def rndN (n : Nat) : Nat := rq n (sh n) * 2 ^ sh n
/-- a float, in units -/
def IsF (n : Nat) : Prop := ∃ t e, n = t * 2 ^ e ∧ t < 2 ^ 53
theorem rq_zero (n : Nat) : rq n 0 = n := by
  unfold rq
  simp
  omega
theorem rq_of_dvd {n s : Nat} (h : n % 2 ^ s = 0) : rq n s = n / 2 ^ s := by
  unfold rq
  have := Nat.two_pow_pos s
  rw [h, if_neg (by omega)]
theorem rndN_small {n : Nat} (h : n < 2 ^ 53) : rndN n = n := by
  have : sh n = 0 := by
    unfold sh
    have := bits_le.mpr h
    omega
  unfold rndN
  rw [this, rq_zero, Nat.pow_zero, Nat.mul_one]
theorem isF_small {n : Nat} (h : n < 2 ^ 53) : IsF n := ⟨n, 0, by rw [Nat.pow_zero, Nat.mul_one], h⟩
theorem isF_pow (k : Nat) : IsF (2 ^ k) := ⟨1, k, by rw [Nat.one_mul], by decide⟩
/-- a float is a whole number of its units -/
theorem isF_dvd {n : Nat} (h : IsF n) : n % 2 ^ sh n = 0 := by
  obtain ⟨t, e, rfl, ht⟩ := h
  have : sh (t * 2 ^ e) ≤ e := by
    have hb : bits (t * 2 ^ e) ≤ 53 + e := bits_le.mpr (by rw [Nat.pow_add]; exact Nat.mul_lt_mul_of_pos_right ht (Nat.two_pow_pos e))
    unfold sh
    omega
  exact Nat.mod_eq_zero_of_dvd (Nat.dvd_trans (Nat.pow_dvd_pow 2 this) (Nat.dvd_mul_left _ _))
theorem rndN_fix {n : Nat} (h : IsF n) : rndN n = n := by
  have d := isF_dvd h
  unfold rndN
  rw [rq_of_dvd d]
  exact Nat.div_mul_cancel (Nat.dvd_of_mod_eq_zero d)
/-- the whole part has 53 bits at most, and just 53 where something is cut -/
theorem q_lt (n : Nat) : n / 2 ^ sh n < 2 ^ 53 := by
  rw [Nat.div_lt_iff_lt_mul (Nat.two_pow_pos _), ← Nat.pow_add]
  refine bits_le.mp ?_
  unfold sh
  omega
theorem q_ge {n : Nat} (h : 0 < sh n) : 2 ^ 52 ≤ n / 2 ^ sh n := by
  rw [Nat.le_div_iff_mul_le (Nat.two_pow_pos _), ← Nat.pow_add]
  refine lt_bits.mp ?_
  unfold sh at h ⊢
  omega
theorem rq_or (n s : Nat) : rq n s = n / 2 ^ s ∨ rq n s = n / 2 ^ s + 1 := by
  unfold rq
  split
  · exact .inr rfl
  · exact .inl rfl
theorem rq_le (n : Nat) : rq n (sh n) ≤ 2 ^ 53 := by
  have := q_lt n
  rcases rq_or n (sh n) with e | e <;> omega
theorem isF_rnd (n : Nat) : IsF (rndN n) := by
  unfold rndN
  have h := rq_le n
  by_cases e : rq n (sh n) = 2 ^ 53
  · rw [e, ← Nat.pow_add]
    exact isF_pow _
  · exact ⟨_, _, rfl, by omega⟩
theorem rq_mono {n m s : Nat} (h : n ≤ m) : rq n s ≤ rq m s := by
  have hp := Nat.two_pow_pos s
  have hq : n / 2 ^ s ≤ m / 2 ^ s := Nat.div_le_div_right h
  have en := Nat.div_add_mod n (2 ^ s)
  have em := Nat.div_add_mod m (2 ^ s)
  by_cases e : n / 2 ^ s = m / 2 ^ s
  · have hr : n % 2 ^ s ≤ m % 2 ^ s := by rw [e] at en; omega
    unfold rq
    rw [e]
    split <;> split <;> omega
  · rcases rq_or n s with a | a <;> rcases rq_or m s with b | b <;> omega
theorem rndN_mono {n m : Nat} (h : n ≤ m) : rndN n ≤ rndN m := by
  have hs : sh n ≤ sh m := by have := bits_mono h; unfold sh; omega
  by_cases e : sh n = sh m
  · unfold rndN
    rw [e]
    exact Nat.mul_le_mul_right _ (rq_mono h)
  · have hm : 0 < sh m := by omega
    have g := q_ge hm
    have l : rndN n ≤ 2 ^ 53 * 2 ^ sh n := Nat.mul_le_mul_right _ (rq_le n)
    have u : 2 ^ 52 * 2 ^ sh m ≤ rndN m := Nat.mul_le_mul_right _ (by rcases rq_or m (sh m) with b | b <;> omega)
    have k : 2 ^ 53 * 2 ^ sh n ≤ 2 ^ 52 * 2 ^ sh m := by
      rw [← Nat.pow_add, ← Nat.pow_add]
      exact Nat.pow_le_pow_right (by decide) (by omega)
    omega
theorem rndN_scale (k n : Nat) : rndN (2 ^ k * n) = 2 ^ k * rndN n := by
  by_cases z : n < 2 ^ 53
  · rw [rndN_small z]
    exact rndN_fix ⟨n, k, Nat.mul_comm _ _, z⟩
  · have hb : 53 < bits n := lt_bits.mpr (by omega)
    have hn : n ≠ 0 := by rintro rfl; exact z (by decide)
    have es : sh (2 ^ k * n) = k + sh n := by unfold sh; rw [bits_scale hn]; omega
    have ed : 2 ^ k * n / 2 ^ (k + sh n) = n / 2 ^ sh n := by rw [Nat.pow_add, Nat.mul_div_mul_left _ _ (Nat.two_pow_pos k)]
    have em : 2 ^ k * n % 2 ^ (k + sh n) = 2 ^ k * (n % 2 ^ sh n) := by rw [Nat.pow_add, Nat.mul_mod_mul_left]
    have er : rq (2 ^ k * n) (k + sh n) = rq n (sh n) := by
      unfold rq
      rw [ed, em, Nat.pow_add, show 2 * (2 ^ k * (n % 2 ^ sh n)) = 2 ^ k * (2 * (n % 2 ^ sh n)) by rw [Nat.mul_left_comm]]
      have hp := Nat.two_pow_pos k
      have c1 : (2 ^ k * (2 * (n % 2 ^ sh n)) > 2 ^ k * 2 ^ sh n) ↔ 2 * (n % 2 ^ sh n) > 2 ^ sh n := Nat.mul_lt_mul_left hp
      have c2 : (2 ^ k * (2 * (n % 2 ^ sh n)) = 2 ^ k * 2 ^ sh n) ↔ 2 * (n % 2 ^ sh n) = 2 ^ sh n := Nat.mul_right_inj (by omega)
      simp only [c1, c2]
    unfold rndN
    rw [es, er, Nat.pow_add, Nat.mul_left_comm]
/-- no float is nearer -/
theorem rndN_near (n F : Nat) (hF : IsF F) : (n - rndN n) + (rndN n - n) ≤ (n - F) + (F - n) := by
  have hp := Nat.two_pow_pos (sh n)
  have en := Nat.div_add_mod n (2 ^ sh n)
  have lr := Nat.mod_lt n hp
  by_cases c : n ≤ F
  · -- a float at or above
    have hs : sh n ≤ sh F := by have := bits_mono c; unfold sh; omega
    have dF : F % 2 ^ sh n = 0 := Nat.mod_eq_zero_of_dvd (Nat.dvd_trans (Nat.pow_dvd_pow 2 hs) (Nat.dvd_of_mod_eq_zero (isF_dvd hF)))
    have eF := Nat.div_add_mod F (2 ^ sh n)
    rw [dF] at eF
    have hq : n / 2 ^ sh n ≤ F / 2 ^ sh n := Nat.div_le_div_right c
    have e1 : rndN n = rq n (sh n) * 2 ^ sh n := rfl
    by_cases e : n / 2 ^ sh n = F / 2 ^ sh n
    · -- then it is n
      rw [← e] at eF
      have z : n % 2 ^ sh n = 0 := by omega
      rw [rq_of_dvd z, Nat.mul_comm] at e1
      omega
    · have h2 : (n / 2 ^ sh n + 1) * 2 ^ sh n ≤ F := by
        have : (n / 2 ^ sh n + 1) * 2 ^ sh n ≤ F / 2 ^ sh n * 2 ^ sh n := Nat.mul_le_mul_right _ (by omega)
        rw [Nat.mul_comm (F / _)] at this
        omega
      rw [Nat.add_mul, Nat.one_mul, Nat.mul_comm (n / _)] at h2
      unfold rq at e1
      split at e1
      · rename_i h
        rw [Nat.add_mul, Nat.one_mul, Nat.mul_comm (n / _)] at e1
        omega
      · rename_i h
        rw [Nat.mul_comm (n / _)] at e1
        omega
  · have h2 : F ≤ n / 2 ^ sh n * 2 ^ sh n := by
      by_cases z : sh n = 0
      · rw [z, Nat.pow_zero, Nat.div_one, Nat.mul_one]
        omega
      · by_cases y : F < 2 ^ 52 * 2 ^ sh n
        · have g := Nat.mul_le_mul_right (2 ^ sh n) (q_ge (n := n) (by omega))
          omega
        · have hb : 52 + sh n < bits F := lt_bits.mpr (by rw [Nat.pow_add]; omega)
          have hs : sh n ≤ sh F := by unfold sh at hb ⊢; omega
          have dF : F % 2 ^ sh n = 0 := Nat.mod_eq_zero_of_dvd (Nat.dvd_trans (Nat.pow_dvd_pow 2 hs) (Nat.dvd_of_mod_eq_zero (isF_dvd hF)))
          have eF := Nat.div_add_mod F (2 ^ sh n)
          rw [dF] at eF
          have hq : F / 2 ^ sh n ≤ n / 2 ^ sh n := Nat.div_le_div_right (by omega)
          have := Nat.mul_le_mul_right (2 ^ sh n) hq
          rw [Nat.mul_comm (F / _)] at this
          omega
    rw [Nat.mul_comm (n / _)] at h2
    have e1 : rndN n = rq n (sh n) * 2 ^ sh n := rfl
    unfold rq at e1
    split at e1
    · rename_i h
      rw [Nat.add_mul, Nat.one_mul, Nat.mul_comm (n / _)] at e1
      omega
    · rename_i h
      rw [Nat.mul_comm (n / _)] at e1
      omega
/-- the rounded is a whole number of what divides both n and every cut -/
theorem rndN_le_pow {n k : Nat} (h : n ≤ 2 ^ k) : rndN n ≤ 2 ^ k := by
  have := rndN_mono h
  rw [rndN_fix (isF_pow k)] at this
  exact this
/-! ### with a sign -/
def rnd (v : Int) : Int := if 0 ≤ v then (rndN v.natAbs : Int) else -(rndN v.natAbs : Int)
def IsFi (v : Int) : Prop := IsF v.natAbs
theorem isF_zero : IsF 0 := isF_small (by decide)
theorem rndN_zero : rndN 0 = 0 := rndN_fix isF_zero
theorem rnd_zero : rnd 0 = 0 := by
  unfold rnd
  rw [if_pos (Int.le_refl 0)]
  show ((rndN 0 : Nat) : Int) = 0
  rw [rndN_zero]
  rfl
theorem rnd_neg (v : Int) : rnd (-v) = -rnd v := by
  rcases Int.lt_trichotomy v 0 with h | h | h
  · unfold rnd
    rw [if_pos (by omega), if_neg (by omega), Int.natAbs_neg, Int.neg_neg]
  · rw [h, Int.neg_zero, rnd_zero, Int.neg_zero]
  · unfold rnd
    rw [if_neg (by omega), if_pos (by omega), Int.natAbs_neg]
theorem rnd_abs (v : Int) : (rnd v).natAbs = rndN v.natAbs := by
  unfold rnd
  split <;> omega
theorem rnd_isF (v : Int) : IsFi (rnd v) := by
  unfold IsFi
  rw [rnd_abs]
  exact isF_rnd _
theorem rnd_fix {v : Int} (h : IsFi v) : rnd v = v := by
  unfold rnd
  rw [rndN_fix h]
  split <;> omega
theorem rnd_nonneg {v : Int} (h : 0 ≤ v) : 0 ≤ rnd v := by
  unfold rnd
  rw [if_pos h]
  omega
theorem rnd_mono {v w : Int} (h : v ≤ w) : rnd v ≤ rnd w := by
  unfold rnd
  split <;> split
  · have := rndN_mono (n := v.natAbs) (m := w.natAbs) (by omega)
    omega
  · omega
  · omega
  · have := rndN_mono (n := w.natAbs) (m := v.natAbs) (by omega)
    omega
theorem rnd_scale (k : Nat) (v : Int) : rnd (2 ^ k * v) = 2 ^ k * rnd v := by
  have hp : (0 : Int) < 2 ^ k := by have := Nat.two_pow_pos k; exact_mod_cast this
  have ea : (2 ^ k * v).natAbs = 2 ^ k * v.natAbs := by
    rw [Int.natAbs_mul, Int.natAbs_pow]
    rfl
  have ec : ((2 ^ k * rndN v.natAbs : Nat) : Int) = 2 ^ k * (rndN v.natAbs : Int) := by
    rw [Int.natCast_mul, Int.natCast_pow]
    rfl
  by_cases h : 0 ≤ v
  · have h2 : 0 ≤ 2 ^ k * v := Int.mul_nonneg (by omega) h
    unfold rnd
    rw [if_pos h, if_pos h2, ea, rndN_scale, ec]
  · have h2 : ¬ 0 ≤ 2 ^ k * v := by
      have := Int.mul_neg_of_pos_of_neg hp (show v < 0 by omega)
      omega
    unfold rnd
    rw [if_neg h, if_neg h2, ea, rndN_scale, ec, Int.mul_neg]
theorem rnd_near (v F : Int) (hF : IsFi F) : (v - rnd v).natAbs ≤ (v - F).natAbs := by
  have h1 := rndN_near v.natAbs F.natAbs hF
  have h0 := rndN_near v.natAbs 0 isF_zero
  unfold rnd
  by_cases s : 0 ≤ v <;> by_cases t : 0 ≤ F
  · rw [if_pos s]; omega
  · rw [if_pos s]; omega
  · rw [if_neg s]; omega
  · rw [if_neg s]; omega
theorem rnd_dvd {i : Nat} {v : Int} (h : (2 : Int) ^ i ∣ v) : (2 : Int) ^ i ∣ rnd v := by
  obtain ⟨w, rfl⟩ := h
  rw [rnd_scale]
  exact ⟨_, rfl⟩
theorem isFi_of {i : Nat} {v : Int} (h : (2 : Int) ^ i ∣ v) (l : v.natAbs < 2 ^ 53 * 2 ^ i) : IsFi v := by
  obtain ⟨w, rfl⟩ := h
  have ea : (2 ^ i * w).natAbs = 2 ^ i * w.natAbs := by
    rw [Int.natAbs_mul, Int.natAbs_pow]
    rfl
  rw [ea, Nat.mul_comm] at l
  unfold IsFi
  rw [ea]
  exact ⟨w.natAbs, i, Nat.mul_comm _ _, Nat.lt_of_mul_lt_mul_right l⟩
theorem isFi_unit {v : Int} (h : IsFi v) : ∃ i, (2 : Int) ^ i ∣ v ∧ v.natAbs < 2 ^ 53 * 2 ^ i := by
  obtain ⟨t, e, h1, h2⟩ := h
  refine ⟨e, ?_, ?_⟩
  · have : (2 ^ e : Nat) ∣ v.natAbs := ⟨t, by rw [h1, Nat.mul_comm]⟩
    have q := Int.natAbs_dvd_natAbs (a := (2 : Int) ^ e) (b := v)
    rw [Int.natAbs_pow] at q
    exact q.mp this
  · rw [h1]
    exact Nat.mul_lt_mul_of_pos_right h2 (Nat.two_pow_pos e)
theorem pow_dvd {i j : Nat} (h : i ≤ j) : (2 : Int) ^ i ∣ 2 ^ j := ⟨2 ^ (j - i), by rw [← Int.pow_add, show i + (j - i) = j by omega]⟩
/-- what a sum of two floats lacks is a float -/
theorem err_isF {a b : Int} (ha : IsFi a) (hb : IsFi b) : IsFi (a + b - rnd (a + b)) := by
  obtain ⟨i, d1, l1⟩ := isFi_unit ha
  obtain ⟨j, d2, l2⟩ := isFi_unit hb
  have n1 := rnd_near (a + b) b hb
  have n2 := rnd_near (a + b) a ha
  rw [show a + b - b = a by omega] at n1
  rw [show a + b - a = b by omega] at n2
  by_cases h : i ≤ j
  · have d3 : (2 : Int) ^ i ∣ b := Int.dvd_trans (pow_dvd h) d2
    have d4 := Int.dvd_add d1 d3
    exact isFi_of (Int.dvd_sub d4 (rnd_dvd d4)) (by omega)
  · have d3 : (2 : Int) ^ j ∣ a := Int.dvd_trans (pow_dvd (show j ≤ i by omega)) d1
    have d4 := Int.dvd_add d3 d2
    exact isFi_of (Int.dvd_sub d4 (rnd_dvd d4)) (by omega)
theorem err_le {a b : Int} (hb : IsFi b) : (a + b - rnd (a + b)).natAbs ≤ a.natAbs := by
  have n1 := rnd_near (a + b) b hb
  rw [show a + b - b = a by omega] at n1
  exact n1
theorem rnd_le {v : Int} {k : Nat} (h : v.natAbs ≤ 2 ^ k) : (rnd v).natAbs ≤ 2 ^ k := by
  rw [rnd_abs]
  exact rndN_le_pow h
end Fm

set_option exponentiation.threshold 9000
set_option maxHeartbeats 4000000
/-! floats as whole units of 2^-1074, in normal form; fractions in lowest terms; ranks -/
namespace Fm
/-- the weight of a power -/
def U (p : Int) : Int := 2 ^ (p + 1074).toNat
theorem U_pos (p : Int) : 0 < U p := by
  unfold U
  exact Int.pow_pos (by decide)
def Sgn (s : Int) : Prop := s = 1 ∨ s = -1
structure NF (t p v : Int) : Prop where
  v : v = t * U p
  h : (t = 0 ∧ p = 0) ∨ (0 < t ∧ t % 2 = 1 ∧ t < 9007199254740992 ∧ -1074 ≤ p ∧ (bits t.natAbs : Int) + p ≤ 1024)
/-- what may be made a float -/
def Fit (t p v : Int) : Prop := (t = 0 ∧ v = 0) ∨ (0 < t ∧ -1074 ≤ p ∧ v = t * U p ∧ IsF v.natAbs ∧ v < 2 ^ 2098)
theorem pow_cast (n : Nat) : ((2 ^ n : Nat) : Int) = 2 ^ n := by rw [Int.natCast_pow]; rfl
theorem bits_lt_iff {v : Int} {n : Nat} (h : 0 ≤ v) : bits v.natAbs ≤ n ↔ v < 2 ^ n := by
  rw [bits_le]
  have := pow_cast n
  omega
theorem isF_odd {n t k : Nat} (h : IsF n) (e : n = t * 2 ^ k) (o : t % 2 = 1) : t < 2 ^ 53 := by
  obtain ⟨m, j, e2, hm⟩ := h
  by_cases c : j ≤ k
  · have e3 : m = t * 2 ^ (k - j) := by
      refine Nat.eq_of_mul_eq_mul_right (Nat.two_pow_pos j) ?_
      rw [← e2, e, Nat.mul_assoc, ← Nat.pow_add, show k - j + j = k by omega]
    have := Nat.le_mul_of_pos_right t (Nat.two_pow_pos (k - j))
    omega
  · exfalso
    have e3 : t = m * 2 ^ (j - k) := by
      refine Nat.eq_of_mul_eq_mul_right (Nat.two_pow_pos k) ?_
      rw [← e, e2, Nat.mul_assoc, ← Nat.pow_add, show j - k + k = j by omega]
    rw [show j - k = j - k - 1 + 1 by omega, Nat.pow_succ, ← Nat.mul_assoc] at e3
    omega
theorem U_add {p : Int} (z : Nat) (hp : -1074 ≤ p) : U (p + z) = 2 ^ z * U p := by
  unfold U
  rw [show (p + z + 1074).toNat = z + (p + 1074).toNat by omega, Int.pow_add]
theorem natAbs_mul_U {t : Int} (p : Int) (h : 0 ≤ t) : (t * U p).natAbs = t.natAbs * 2 ^ (p + 1074).toNat := by
  unfold U
  rw [Int.natAbs_mul, Int.natAbs_pow]
  rfl
/-- what reduced and fits find -/
theorem fit_nf {t p v o : Int} {z : Nat} (h : Fit t p v) (e : t = 2 ^ z * (2 * o + 1)) : NF (t / 2 ^ z) (p + z) v := by
  have hz : (0 : Int) < 2 ^ z := Int.pow_pos (by decide)
  have ed : t / 2 ^ z = 2 * o + 1 := by rw [e, Int.mul_ediv_cancel_left _ (by omega)]
  rw [ed]
  rcases h with ⟨h1, h2⟩ | ⟨h1, h2, h3, h4, h5⟩
  · exfalso
    rw [h1] at e
    rcases Int.mul_eq_zero.mp e.symm with q | q <;> omega
  · have ho : 0 < 2 * o + 1 := by
      rw [e] at h1
      exact Int.pos_of_mul_pos_right h1 hz |> fun q => q
    have ev : v = (2 * o + 1) * U (p + z) := by rw [h3, e, U_add z h2]; grind
    have hv : 0 ≤ v := by rw [ev]; exact Int.mul_nonneg (by omega) (Int.le_of_lt (U_pos _))
    have ea : v.natAbs = (2 * o + 1).natAbs * 2 ^ (p + z + 1074).toNat := by rw [ev, natAbs_mul_U _ (by omega)]
    refine ⟨ev, .inr ⟨ho, by omega, ?_, by omega, ?_⟩⟩
    · have := isF_odd h4 ea (by omega)
      omega
    · have hb := (bits_lt_iff (n := 2098) hv).mpr h5
      rw [ea, Nat.mul_comm, bits_scale (by omega)] at hb
      omega
theorem fit_nf0 {p v : Int} (h : Fit 0 p v) : NF 0 0 v := by
  rcases h with ⟨h1, h2⟩ | ⟨h1, _⟩
  · exact ⟨by rw [h2, Int.zero_mul], .inl ⟨rfl, rfl⟩⟩
  · omega
theorem NF.nonneg {t p v : Int} (h : NF t p v) : 0 ≤ t := by
  rcases h.h with ⟨h1, _⟩ | ⟨h1, _⟩ <;> omega
theorem NF.v0 {t p v : Int} (h : NF t p v) : 0 ≤ v := by
  rw [h.v]
  exact Int.mul_nonneg h.nonneg (Int.le_of_lt (U_pos _))
theorem NF.p0 {t p v : Int} (h : NF t p v) : -1074 ≤ p := by
  rcases h.h with ⟨_, h1⟩ | ⟨_, _, _, h1, _⟩ <;> omega
theorem NF.isF {t p v : Int} (h : NF t p v) : IsF v.natAbs := by
  rw [h.v, natAbs_mul_U _ h.nonneg]
  refine ⟨_, _, rfl, ?_⟩
  rcases h.h with ⟨h1, _⟩ | ⟨_, _, h1, _⟩ <;> omega
theorem NF.tlt {t p v : Int} (h : NF t p v) : t < 9007199254740992 := by
  rcases h.h with ⟨h1, _⟩ | ⟨_, _, h1, _⟩ <;> omega
theorem NF.p1 {t p v : Int} (h : NF t p v) : p ≤ 1024 := by
  rcases h.h with ⟨_, h1⟩ | ⟨_, _, _, _, h1⟩ <;> omega
theorem NF.zero {t p v : Int} (h : NF t p v) : t = 0 ↔ v = 0 := by
  rw [h.v]
  constructor
  · intro e; rw [e, Int.zero_mul]
  · intro e
    rcases Int.mul_eq_zero.mp e with q | q
    · exact q
    · have := U_pos p; omega
/-- a float in itself, its place and its value -/
def V3 (s t p v : Int) : Prop := Sgn s ∧ ∃ w, NF t p w ∧ v = s * w
theorem V3.isF {s t p v : Int} (h : V3 s t p v) : IsFi v := by
  obtain ⟨hs, w, n, rfl⟩ := h
  have := n.isF
  unfold IsFi
  rcases hs with rfl | rfl
  · rw [Int.one_mul]; exact this
  · rw [show -1 * w = -w by omega, Int.natAbs_neg]; exact this
theorem V3.zero {s t p v : Int} (h : V3 s t p v) : t = 0 ↔ v = 0 := by
  obtain ⟨hs, w, n, rfl⟩ := h
  rw [n.zero]
  rcases hs with rfl | rfl <;> omega
theorem V3.lt {s t p v : Int} (h : V3 s t p v) : v.natAbs < 2 ^ 2098 := by
  obtain ⟨hs, w, n, rfl⟩ := h
  have e : (s * w).natAbs = w.natAbs := by
    rcases hs with rfl | rfl
    · rw [Int.one_mul]
    · rw [show -1 * w = -w by omega, Int.natAbs_neg]
  rw [e]
  rcases n.h with ⟨h1, _⟩ | ⟨h1, _, _, h2, h3⟩
  · rw [n.zero.mp h1]; exact Nat.two_pow_pos _
  · rw [← bits_le, n.v, natAbs_mul_U _ n.nonneg, Nat.mul_comm, bits_scale (by omega)]
    omega
/-! ### fractions in lowest terms -/
/-- a / b is v units -/
structure Rt (v a b : Int) : Prop where
  b0 : 0 < b
  e : a * 2 ^ 1074 = v * b
/-- in lowest terms -/
structure Lw (v a b : Int) : Prop extends Rt v a b where
  g : Int.gcd a b = 1
theorem dvd_cop {k n m : Int} (h : k ∣ n * m) (g : Int.gcd k n = 1) : k ∣ m := by
  have q : k ∣ m * (Int.gcd k n : Int) := Int.dvd_mul_gcd_iff_dvd_mul.mpr (by rw [Int.mul_comm]; exact h)
  rw [g] at q
  simpa using q
theorem P_pos : (0 : Int) < 2 ^ 1074 := Int.pow_pos (by decide)
theorem Rt.cross {v a b c d : Int} (h : Rt v a b) (k : Rt v c d) : a * d = c * b := by
  have h1 := h.e
  have k1 := k.e
  have : a * d * 2 ^ 1074 = c * b * 2 ^ 1074 := by
    generalize (2 : Int) ^ 1074 = P at *
    grind
  exact Int.eq_of_mul_eq_mul_right (by have := P_pos; omega) this
theorem Lw.uniq {v a b c d : Int} (h : Lw v a b) (k : Lw v c d) : a = c ∧ b = d := by
  have x := h.toRt.cross k.toRt
  have h1 : b ∣ d := by
    have : b ∣ a * d := ⟨c, by rw [x, Int.mul_comm]⟩
    exact dvd_cop this (by rw [Int.gcd_comm]; exact h.g)
  have h2 : d ∣ b := by
    have : d ∣ c * b := ⟨a, by rw [← x, Int.mul_comm]⟩
    exact dvd_cop this (by rw [Int.gcd_comm]; exact k.g)
  have e : b = d := Int.dvd_antisymm (Int.le_of_lt h.b0) (Int.le_of_lt k.b0) h1 h2
  refine ⟨?_, e⟩
  rw [e] at x
  exact Int.eq_of_mul_eq_mul_right (by have := k.b0; omega) x
/-- the sum of two -/
theorem Rt.add {v w a b c d : Int} (h : Rt v a b) (k : Rt w c d) : Rt (v + w) (a * d + c * b) (b * d) := ⟨Int.mul_pos h.b0 k.b0, by
  have h1 := h.e
  have k1 := k.e
  generalize (2 : Int) ^ 1074 = P at *
  grind⟩
/-- lowered -/
theorem Rt.low {v a b : Int} (h : Rt v a b) : Lw v (a / (Int.gcd a b : Int)) (b / (Int.gcd a b : Int)) := by
  have hb := h.b0
  have g0 : 0 < Int.gcd a b := Int.gcd_pos_of_ne_zero_right a (by omega)
  have g1 : (0 : Int) < (Int.gcd a b : Int) := by omega
  have d1 : (Int.gcd a b : Int) ∣ a := Int.gcd_dvd_left ..
  have d2 : (Int.gcd a b : Int) ∣ b := Int.gcd_dvd_right ..
  refine ⟨⟨?_, ?_⟩, ?_⟩
  · exact Int.ediv_pos_of_pos_of_dvd hb (by omega) d2
  · have e1 := Int.ediv_mul_cancel d1
    have e2 := Int.ediv_mul_cancel d2
    have e := h.e
    generalize a / (Int.gcd a b : Int) = x at *
    generalize b / (Int.gcd a b : Int) = y at *
    generalize (Int.gcd a b : Int) = g at *
    have : x * 2 ^ 1074 * g = v * y * g := by
      rw [← e1, ← e2] at e
      generalize (2 : Int) ^ 1074 = P at *
      grind
    exact Int.eq_of_mul_eq_mul_right (by omega) this
  · exact Int.gcd_ediv_gcd_ediv_gcd (by omega)
theorem Lw.bpow {v a b : Int} (h : Lw v a b) : ∃ k : Nat, k ≤ 1074 ∧ b = 2 ^ k := by
  have d : b ∣ 2 ^ 1074 := by
    have : b ∣ a * 2 ^ 1074 := ⟨v, by rw [h.e, Int.mul_comm]⟩
    exact dvd_cop this (by rw [Int.gcd_comm]; exact h.g)
  have d2 : b.natAbs ∣ 2 ^ 1074 := by
    have := Int.natAbs_dvd_natAbs.mpr d
    rw [Int.natAbs_pow] at this
    exact this
  obtain ⟨k, hk, e⟩ := Mt.dvd_pow_two 1074 _ d2
  refine ⟨k, hk, ?_⟩
  have b0 := h.b0
  have := pow_cast k
  omega
theorem Rt.neg {v a b : Int} (h : Rt v a b) : Rt (-v) (0 - a) b := ⟨h.b0, by
  have h1 := h.e
  generalize (2 : Int) ^ 1074 = P at *
  grind⟩
theorem Lw.neg {v a b : Int} (h : Lw v a b) : Lw (-v) (0 - a) b := ⟨h.toRt.neg, by rw [Int.zero_sub, Int.neg_gcd]; exact h.g⟩
/-- the fraction of a float -/
def rtop (s t p : Int) : Int := if p < 0 then s * t else s * (t * 2 ^ p.toNat)
def rbot (p : Int) : Int := if p < 0 then 2 ^ (0 - p).toNat else 1
theorem V3.rt {s t p v : Int} (h : V3 s t p v) : Rt v (rtop s t p) (rbot p) := by
  obtain ⟨hs, w, n, rfl⟩ := h
  have hp := n.p0
  unfold rtop rbot
  split
  · rename_i c
    refine ⟨Int.pow_pos (by decide), ?_⟩
    rw [n.v]
    unfold U
    rw [show (1074 : Nat) = (p + 1074).toNat + (0 - p).toNat by omega, Int.pow_add]
    grind
  · rename_i c
    refine ⟨by decide, ?_⟩
    rw [n.v, Int.mul_one]
    unfold U
    rw [show (p + 1074).toNat = p.toNat + 1074 by omega, Int.pow_add]
    generalize (2 : Int) ^ 1074 = P at *
    grind
theorem odd_gcd_pow {x : Int} (o : x % 2 = 1) (k : Nat) : Int.gcd x (2 ^ k) = 1 := by
  have d : Int.gcd x (2 ^ k) ∣ 2 ^ k := by
    have h := Int.gcd_dvd_natAbs_right x (2 ^ k)
    rw [Int.natAbs_pow] at h
    exact h
  obtain ⟨i, _, e⟩ := Mt.dvd_pow_two k _ d
  cases i with
  | zero => exact e
  | succ i =>
    exfalso
    have d2 : ((Int.gcd x (2 ^ k) : Nat) : Int) ∣ x := Int.gcd_dvd_left ..
    rw [e, Nat.pow_succ] at d2
    have : (2 : Int) ∣ x := Int.dvd_trans ⟨((2 ^ i : Nat) : Int), by rw [Int.natCast_mul, Int.mul_comm]; rfl⟩ d2
    omega
theorem V3.lw {s t p v : Int} (h : V3 s t p v) : Lw v (rtop s t p) (rbot p) := by
  refine ⟨h.rt, ?_⟩
  obtain ⟨hs, w, n, rfl⟩ := h
  unfold rtop rbot
  split
  · rename_i c
    rcases n.h with ⟨_, h1⟩ | ⟨_, h1, _⟩
    · omega
    · refine odd_gcd_pow ?_ _
      rcases hs with rfl | rfl <;> omega
  · exact Int.gcd_one
end Fm

set_option exponentiation.threshold 9000
set_option maxHeartbeats 4000000
namespace Fm
/-! ### nearest -/
theorem near_bits {top : Int} {N k : Nat} (h0 : 0 < top) (h : top * 2 ^ 1074 = (N : Int) * 2 ^ k) : bits top.natAbs + 1074 = bits N + k ∧ N ≠ 0 := by
  have e : 2 ^ 1074 * top.natAbs = 2 ^ k * N := by
    have := congrArg Int.natAbs h
    rw [Int.natAbs_mul, Int.natAbs_mul, Int.natAbs_pow, Int.natAbs_pow, Int.natAbs_natCast, Nat.mul_comm, Nat.mul_comm N] at this
    exact this
  have hN : N ≠ 0 := by
    rintro rfl
    rw [Nat.mul_zero] at e
    have := Nat.mul_pos (Nat.two_pow_pos 1074) (show 0 < top.natAbs by omega)
    omega
  have := congrArg bits e
  rw [bits_scale (by omega), bits_scale hN] at this
  exact ⟨this, hN⟩
theorem dm {a b N q : Int} (hb : 0 < b) (hq : 0 < q) (h : a * q = N * b) : a / b = N / q ∧ a % b * q = N % q * b := by
  constructor
  · rw [← Int.mul_ediv_mul_of_pos_left a b hq, h, Int.mul_comm b q, Int.mul_ediv_mul_of_pos_left N q hb]
  · rw [Int.mul_comm (a % b), ← Int.mul_emod_mul_of_pos a b hq, Int.mul_comm q a, h, Int.mul_comm q b, Int.mul_comm N b, Int.mul_emod_mul_of_pos N q hb, Int.mul_comm]
theorem near_cmp {a b N q : Int} (hb : 0 < b) (hq : 0 < q) (h : a % b * q = N % q * b) : (b < 2 * (a % b) ↔ q < 2 * (N % q)) ∧ (2 * (a % b) = b ↔ 2 * (N % q) = q) := by
  have e : 2 * (a % b) * q = 2 * (N % q) * b := by
    generalize a % b = x at *
    generalize N % q = y at *
    grind
  refine ⟨?_, ?_⟩
  · have c1 := Int.mul_lt_mul_right (b := b) (c := 2 * (a % b)) hq
    have c2 := Int.mul_lt_mul_right (b := q) (c := 2 * (N % q)) hb
    rw [← c1, ← c2, e, Int.mul_comm b q]
  · constructor
    · intro z
      rw [z, Int.mul_comm b q] at e
      exact (Int.eq_of_mul_eq_mul_right (by omega) e).symm
    · intro z
      rw [z, Int.mul_comm q b] at e
      exact Int.eq_of_mul_eq_mul_right (by omega) e
theorem rq_int (N S : Nat) : ((rq N S : Nat) : Int) = if (2 ^ S : Int) < 2 * ((N : Int) % 2 ^ S) ∨ (2 * ((N : Int) % 2 ^ S) = 2 ^ S ∧ (N : Int) / 2 ^ S % 2 = 1) then (N : Int) / 2 ^ S + 1 else (N : Int) / 2 ^ S := by
  have e1 : (N : Int) % 2 ^ S = ((N % 2 ^ S : Nat) : Int) := by rw [← pow_cast]; rfl
  have e2 : (N : Int) / 2 ^ S = ((N / 2 ^ S : Nat) : Int) := by rw [← pow_cast]; rfl
  rw [e1, e2, ← pow_cast]
  unfold rq
  by_cases c : 2 * (N % 2 ^ S) > 2 ^ S ∨ (2 * (N % 2 ^ S) = 2 ^ S ∧ N / 2 ^ S % 2 = 1)
  · rw [if_pos c, if_pos (by omega)]
    rfl
  · rw [if_neg c, if_neg (by omega)]
/-- the whole of nearest: a / b with b a power of two is N / 2^S -/
theorem near_rq {a b : Int} {N S : Nat} (hb : 0 < b) (h : a * 2 ^ S = (N : Int) * b) :
    a / b = (N : Int) / 2 ^ S ∧ (if b < 2 * (a % b) ∨ (2 * (a % b) = b ∧ a / b % 2 = 1) then a / b + 1 else a / b) = ((rq N S : Nat) : Int) := by
  have hq : (0 : Int) < 2 ^ S := Int.pow_pos (by decide)
  obtain ⟨h1, h2⟩ := dm hb hq h
  obtain ⟨c1, c2⟩ := near_cmp hb hq h2
  refine ⟨h1, ?_⟩
  rw [rq_int, h1]
  by_cases c : b < 2 * (a % b) ∨ (2 * (a % b) = b ∧ (N : Int) / 2 ^ S % 2 = 1)
  · rw [if_pos c, if_pos (by rw [← c1, ← c2]; exact c)]
  · rw [if_neg c, if_neg (by rw [← c1, ← c2]; exact c)]
theorem rq_bits {N : Nat} (h : N ≤ 2 ^ 2097) : (bits (rq N (sh N)) : Int) + ((sh N : Int) - 1074) ≤ 1024 := by
  have h1 : rndN N ≤ 2 ^ 2097 := rndN_le_pow h
  have h2 : rndN N < 2 ^ 2098 := Nat.lt_of_le_of_lt h1 (Nat.pow_lt_pow_right (by decide) (by decide))
  by_cases z : rq N (sh N) = 0
  · rw [z]
    have hs : bits N ≤ 2098 := bits_le.mpr (Nat.lt_of_le_of_lt h (Nat.pow_lt_pow_right (by decide) (by decide)))
    have : bits 0 = 0 := rfl
    unfold sh
    omega
  · have hb := bits_le.mpr h2
    unfold rndN at hb
    rw [Nat.mul_comm, bits_scale z] at hb
    omega
theorem near_fit {N : Nat} (h : N ≤ 2 ^ 2097) (h0 : N ≠ 0) : Fit ((rq N (sh N) : Nat) : Int) ((sh N : Int) - 1074) (rndN N : Nat) := by
  refine .inr ⟨?_, by omega, ?_, isF_rnd N, ?_⟩
  · have : rq N (sh N) ≠ 0 := by
      intro z
      have e : rndN N = 0 := by unfold rndN; rw [z, Nat.zero_mul]
      by_cases c : N < 2 ^ 53
      · rw [rndN_small c] at e; omega
      · have g := q_ge (n := N) (by have := lt_bits.mpr (show 2 ^ 53 ≤ N by omega); unfold sh; omega)
        rcases rq_or N (sh N) with q | q <;> omega
    omega
  · unfold U rndN
    rw [show ((sh N : Int) - 1074 + 1074).toNat = sh N by omega, Int.natCast_mul, pow_cast]
  · have h1 : rndN N ≤ 2 ^ 2097 := rndN_le_pow h
    have h2 : rndN N < 2 ^ 2098 := Nat.lt_of_le_of_lt h1 (Nat.pow_lt_pow_right (by decide) (by decide))
    have := pow_cast 2098
    omega
theorem sgn_rnd {s V : Int} (h : s = if V < 0 then -1 else 1) : s * (rndN V.natAbs : Nat) = rnd V := by
  unfold rnd
  rw [h]
  by_cases c : V < 0
  · rw [if_pos c, if_neg (by omega)]; omega
  · rw [if_neg c, if_pos (by omega)]; omega
/-! ### ranks -/
def rkN (n : Nat) : Nat := n / 2 ^ sh n + sh n * 2 ^ 52
def unrk (r : Nat) : Nat := (r - (r / 2 ^ 52 - 1) * 2 ^ 52) * 2 ^ (r / 2 ^ 52 - 1)
theorem rkN_mono {n m : Nat} (h : n ≤ m) : rkN n ≤ rkN m := by
  have hs : sh n ≤ sh m := by have := bits_mono h; unfold sh; omega
  unfold rkN
  by_cases e : sh n = sh m
  · rw [e]
    have := Nat.div_le_div_right (c := 2 ^ sh m) h
    omega
  · have g := q_ge (n := m) (by omega)
    have l := q_lt n
    omega
theorem unrk_rkN {n : Nat} (h : IsF n) : unrk (rkN n) = n := by
  have d := isF_dvd h
  by_cases z : sh n = 0
  · have hn : n < 2 ^ 53 := by
      refine bits_le.mp ?_
      unfold sh at z
      omega
    have e : rkN n = n := by unfold rkN; rw [z]; simp
    rw [e]
    unfold unrk
    rw [show n / 2 ^ 52 - 1 = 0 by omega]
    simp
  · have g := q_ge (n := n) (by omega)
    have l := q_lt n
    have e : rkN n / 2 ^ 52 - 1 = sh n := by unfold rkN; omega
    unfold unrk
    rw [e]
    have e2 : rkN n - sh n * 2 ^ 52 = n / 2 ^ sh n := by unfold rkN; omega
    rw [e2]
    exact Nat.div_mul_cancel (Nat.dvd_of_mod_eq_zero d)
theorem unrk_top (r : Nat) : r - (r / 2 ^ 52 - 1) * 2 ^ 52 < 2 ^ 53 := by omega
theorem unrk_isF (r : Nat) : IsF (unrk r) := ⟨_, _, rfl, unrk_top r⟩
theorem unrk_mono {r q : Nat} (h : r ≤ q) : unrk r ≤ unrk q := by
  by_cases e : r / 2 ^ 52 - 1 = q / 2 ^ 52 - 1
  · unfold unrk
    rw [e]
    exact Nat.mul_le_mul_right _ (by omega)
  · have hl : r / 2 ^ 52 - 1 < q / 2 ^ 52 - 1 := by omega
    have l : unrk r ≤ 2 ^ 53 * 2 ^ (r / 2 ^ 52 - 1) := Nat.mul_le_mul_right _ (Nat.le_of_lt (unrk_top r))
    have u : 2 ^ 52 * 2 ^ (q / 2 ^ 52 - 1) ≤ unrk q := Nat.mul_le_mul_right _ (by omega)
    have k : 2 ^ 53 * 2 ^ (r / 2 ^ 52 - 1) ≤ 2 ^ 52 * 2 ^ (q / 2 ^ 52 - 1) := by
      rw [← Nat.pow_add, ← Nat.pow_add]
      exact Nat.pow_le_pow_right (by decide) (by omega)
    omega
def rk (v : Int) : Int := if 0 ≤ v then (rkN v.natAbs : Int) else -(rkN v.natAbs : Int)
def urk (r : Int) : Int := if 0 ≤ r then (unrk r.natAbs : Int) else -(unrk r.natAbs : Int)
theorem rkN_zero : rkN 0 = 0 := by decide
theorem unrk_zero : unrk 0 = 0 := by decide
theorem rk_mono {v w : Int} (h : v ≤ w) : rk v ≤ rk w := by
  unfold rk
  split <;> split
  · have := rkN_mono (n := v.natAbs) (m := w.natAbs) (by omega)
    omega
  · omega
  · omega
  · have := rkN_mono (n := w.natAbs) (m := v.natAbs) (by omega)
    omega
theorem urk_mono {v w : Int} (h : v ≤ w) : urk v ≤ urk w := by
  unfold urk
  split <;> split
  · have := unrk_mono (r := v.natAbs) (q := w.natAbs) (by omega)
    omega
  · omega
  · omega
  · have := unrk_mono (r := w.natAbs) (q := v.natAbs) (by omega)
    omega
theorem rk_pos {n : Nat} (h : n ≠ 0) : rkN n ≠ 0 := by
  unfold rkN
  by_cases z : sh n = 0
  · rw [z]; simp; exact h
  · generalize n / 2 ^ sh n = x
    omega
theorem urk_rk {v : Int} (h : IsFi v) : urk (rk v) = v := by
  have e := unrk_rkN h
  unfold rk
  by_cases c : 0 ≤ v
  · rw [if_pos c]
    unfold urk
    rw [if_pos (by omega), Int.natAbs_natCast, e]
    omega
  · rw [if_neg c]
    have := rk_pos (n := v.natAbs) (by omega)
    unfold urk
    rw [if_neg (by omega), Int.natAbs_neg, Int.natAbs_natCast, e]
    omega
theorem rkN_pow {m : Nat} (h : 53 ≤ m) : rkN (2 ^ m) = (m - 51) * 2 ^ 52 := by
  have hb : bits (2 ^ m) = m + 1 := by
    have := bits_scale (n := 1) (by decide) m
    rw [Nat.mul_one] at this
    rw [this]
    have : bits 1 = 1 := by decide
    omega
  unfold rkN
  have hs : sh (2 ^ m) = m - 52 := by unfold sh; omega
  rw [hs, Nat.pow_div (by omega) (by decide), show m - (m - 52) = 52 by omega]
  omega
theorem urk_abs (r : Int) : (urk r).natAbs = unrk r.natAbs := by
  unfold urk
  generalize unrk r.natAbs = x
  split <;> omega
theorem rk_abs (v : Int) : (rk v).natAbs = rkN v.natAbs := by
  unfold rk
  generalize rkN v.natAbs = x
  split <;> omega
theorem rk_bound {v : Int} {m : Nat} (hm : 53 ≤ m) (h : v.natAbs ≤ 2 ^ m) (d : Int) (hd : d = 1 ∨ d = -1) : (rk v + d).natAbs ≤ (m + 1 - 51) * 2 ^ 52 ∧ (urk (rk v + d)).natAbs ≤ 2 ^ (m + 1) := by
  have h1 := rkN_mono h
  rw [rkN_pow hm] at h1
  have hr := rk_abs v
  have h2 : (rk v + d).natAbs ≤ (m + 1 - 51) * 2 ^ 52 := by omega
  refine ⟨h2, ?_⟩
  have hu := urk_abs (rk v + d)
  rw [hu, ← unrk_rkN (isF_pow (m + 1)), rkN_pow (by omega)]
  exact unrk_mono h2
theorem rank_eq {t p w : Int} (h : NF t p w) (h0 : t ≠ 0) {m : Int} (hm : m = if p + 1074 < 53 - bits t.natAbs then p + 1074 else 53 - bits t.natAbs) :
    0 ≤ m ∧ t * 2 ^ m.toNat + (p - m + 1074) * 4503599627370496 = (rkN w.natAbs : Int) := by
  rcases h.h with ⟨h1, _⟩ | ⟨h1, h2, h3, h4, h5⟩
  · exact absurd h1 h0
  · have hb : bits t.natAbs ≤ 53 := bits_le.mpr (by omega)
    have hm0 : 0 ≤ m := by rw [hm]; split <;> omega
    refine ⟨hm0, ?_⟩
    have ew : w.natAbs = t.natAbs * 2 ^ (p + 1074).toNat := by rw [h.v, natAbs_mul_U _ (by omega)]
    have eb : bits w.natAbs = bits t.natAbs + (p + 1074).toNat := by rw [ew, Nat.mul_comm, bits_scale (by omega)]
    have es : (sh w.natAbs : Int) = p - m + 1074 := by
      unfold sh
      rw [hm]
      split <;> omega
    have eq : w.natAbs / 2 ^ sh w.natAbs = t.natAbs * 2 ^ m.toNat := by
      have e7 : t.natAbs * 2 ^ (p + 1074).toNat = t.natAbs * 2 ^ m.toNat * 2 ^ sh w.natAbs := by rw [show (p + 1074).toNat = m.toNat + sh w.natAbs by omega, Nat.pow_add, ← Nat.mul_assoc]
      generalize sh w.natAbs = S at *
      rw [ew, e7]
      exact Nat.mul_div_cancel _ (Nat.two_pow_pos _)
    unfold rkN
    rw [eq, Int.natCast_add, Int.natCast_mul, Int.natCast_mul, pow_cast, es]
    have : (t.natAbs : Int) = t := by omega
    rw [this]
    have e52 : ((2 ^ 52 : Nat) : Int) = 4503599627370496 := by decide
    rw [e52]
theorem rank_sgn {s t p v : Int} (h : V3 s t p v) (h0 : t ≠ 0) : ∃ w, NF t p w ∧ s * (rkN w.natAbs : Int) = rk v := by
  obtain ⟨hs, w, n, rfl⟩ := h
  refine ⟨w, n, ?_⟩
  have w0 := n.v0
  have wz := n.zero
  have hw : 0 < w := by omega
  unfold rk
  rcases hs with rfl | rfl
  · rw [if_pos (by omega), Int.one_mul, Int.one_mul]
  · rw [if_neg (by omega), show -1 * w = -w by omega, Int.natAbs_neg]; omega
theorem of_rank_fit {r : Int} (h : r.natAbs < 2047 * 2 ^ 52) : ∃ P : Nat, P = r.natAbs / 2 ^ 52 - 1 ∧ Fit ((r.natAbs : Int) - P * 4503599627370496) ((P : Int) - 1074) (unrk r.natAbs) ∧ P ≤ 2046 := by
  refine ⟨_, rfl, ?_, by omega⟩
  by_cases z : r.natAbs = 0
  · rw [z]
    exact .inl ⟨by decide, by decide⟩
  · refine .inr ⟨by omega, by omega, ?_, unrk_isF _, ?_⟩
    · unfold U unrk
      rw [show (((r.natAbs / 2 ^ 52 - 1 : Nat) : Int) - 1074 + 1074).toNat = r.natAbs / 2 ^ 52 - 1 by omega, Int.natCast_mul, pow_cast, Int.natCast_sub (by omega)]
      rfl
    · have h1 : unrk r.natAbs < 2 ^ 53 * 2 ^ (r.natAbs / 2 ^ 52 - 1) := Nat.mul_lt_mul_of_pos_right (unrk_top _) (Nat.two_pow_pos _)
      have h2 : 2 ^ 53 * 2 ^ (r.natAbs / 2 ^ 52 - 1) ≤ 2 ^ 2098 := by
        rw [← Nat.pow_add]
        exact Nat.pow_le_pow_right (by decide) (by omega)
      have := pow_cast 2098
      omega
/-! ### sums -/
theorem sum_abs {vs : List Int} {B : Nat} (h : ∀ v ∈ vs, v.natAbs ≤ B) : vs.sum.natAbs ≤ vs.length * B := by
  induction vs with
  | nil => simp
  | cons v vs ih =>
    have h1 := h v (List.mem_cons_self ..)
    have h2 := ih fun w hw => h w (List.mem_cons_of_mem _ hw)
    rw [List.sum_cons, List.length_cons, Nat.add_mul]
    omega
theorem sum_map_neg (vs : List Int) : (vs.map fun v => -v).sum = -vs.sum := by
  induction vs with
  | nil => rfl
  | cons v vs ih => rw [List.map_cons, List.sum_cons, List.sum_cons, ih]; omega
theorem sum_map_mul (vs : List Int) (c : Int) : (vs.map fun v => c * v).sum = c * vs.sum := by
  induction vs with
  | nil => simp
  | cons v vs ih => rw [List.map_cons, List.sum_cons, List.sum_cons, ih, Int.mul_add]
theorem sum_set {vs : List Int} {i : Nat} {v : Int} (h : vs[i]? = some v) (w : Int) : (vs.take i ++ [w] ++ vs.drop (i + 1)).sum = vs.sum + (w - v) := by
  induction vs generalizing i with
  | nil => simp at h
  | cons x vs ih =>
    cases i with
    | zero =>
      simp at h
      rw [h]
      simp
      omega
    | succ i =>
      have := ih (i := i) (by simpa using h)
      simp only [List.take_succ_cons, List.cons_append, List.drop_succ_cons, List.sum_cons]
      rw [this]
      omega
theorem dvd_sum {d : Int} {vs : List Int} (h : ∀ v ∈ vs, d ∣ v) : d ∣ vs.sum := by
  induction vs with
  | nil => exact Int.dvd_zero _
  | cons v vs ih => rw [List.sum_cons]; exact Int.dvd_add (h v (List.mem_cons_self ..)) (ih fun w hw => h w (List.mem_cons_of_mem _ hw))
/-- a float times a power of two, written with the greater power -/
theorem NF_units {t p w : Int} (h : NF t p w) (h0 : t ≠ 0) {k : Nat} (d : (2 : Int) ^ k ∣ w) : (k : Int) ≤ p + 1074 := by
  rcases h.h with ⟨h1, _⟩ | ⟨h1, h2, h3, h4, h5⟩
  · exact absurd h1 h0
  · by_cases c : (k : Int) ≤ p + 1074
    · exact c
    · exfalso
      have e := h.v
      unfold U at e
      obtain ⟨c', e2⟩ := d
      have e3 : (2 : Int) ^ k = 2 ^ (p + 1074).toNat * (2 * 2 ^ (k - (p + 1074).toNat - 1)) := by
        rw [← Int.pow_succ', ← Int.pow_add]
        congr 1
        omega
      rw [e2, e3] at e
      have hp : (2 : Int) ^ (p + 1074).toNat ≠ 0 := by have := U_pos p; unfold U at this; omega
      have e4 : (2 * 2 ^ (k - (p + 1074).toNat - 1)) * c' = t := by
        refine Int.eq_of_mul_eq_mul_left hp ?_
        rw [← Int.mul_assoc, e, Int.mul_comm]
      rw [Int.mul_assoc] at e4
      omega
end Fm

set_option exponentiation.threshold 9000
set_option maxHeartbeats 4000000
/-! own instances: fields, methods, making; the Float of this program -/
namespace WK
open PySem PySem.Spec PyProof.Rows L2 Fm
/-! ### an attribute as a target -/
def gFldT (K : PySem.W.Frag) (ta : TE) (f : Str) : TG := fun v σ H Q => ta σ H fun x H1 => ∃ a C dx fs, x = .ref a ∧ H1 a = some (.ins C dx fs) ∧ Cls K C ∧ NoAttr K C f ∧ fs.length < 1000 ∧ Q σ (upd H1 a (.ins C dx (putF f v fs)))
theorem pg_fld {X : Cx} {o : Expr} {f : Str} {pos : Pos} {ta : TE} (ho : PE X o ta) : PG X (.Attribute o f pos) (gFldT X.K ta f) := by
  refine ⟨fun pins s σ H v u Q I r h => ?_⟩
  rw [arm_assign_Attribute]
  refine wpAny_bind (wpAny_holding (thn (ho.run pins s σ H _ I h) fun ov s1 ⟨x, H1, I1, r1, a, C, dx, fs, ex, ea, c, n, l, q⟩ => ?_))
  subst ex
  obtain rfl : ov = Value.ref a := r1
  refine wpAny_bind (wpAny_standAt (wpAny_bind (wpAny_holding (setattr_ok I1 ea c n l r fun s3 I3 => ?_))))
  exact wpAny_release ⟨σ, _, I3, q⟩
theorem pe_fldK {X : Cx} (K : PySem.W.Frag) {e : Expr} {f : Str} {pos : Pos} {ta : TE} (he : PE X e ta) (h : X.K = K := by rfl) (hb : attributeBase e f X.env (eval e X.env) = eval e X.env := by rfl) : PE X (.Attribute e f pos) (tFld K ta f) := by
  subst h
  exact pe_fld he hb
/-! ### lists of unlike lengths -/
def rNeLen (K : PySem.W.Frag) : R2 := fun x y H Q => ∃ a b xs ys, x = .ref a ∧ y = .ref b ∧ SqL K H a xs ∧ SqL K H b ys ∧ xs.length ≠ ys.length ∧ Q (.bl true) H
theorem op_neLen {X : Cx} (K : PySem.W.Frag) (hu : X.A.units < cLine) (h : X.K = K := by rfl) : OpR X (compareOp .NotEq) (rNeLen K) := by
  subst h
  intro pins s σ H x y v u Q I rx ry ⟨a, b, xs, ys, hx, hy, ha, hb, hn, q⟩
  subst hx
  subst hy
  cases rx
  cases ry
  obtain ⟨its, rv, hl, _⟩ := I.list ha
  obtain ⟨its2, rv2, hl2, _⟩ := I.list hb
  refine SeqAt.RcNeAt.lists_lengths hl.isList hl2.isList ?_ hu X.prog X.w X.xe _ ⟨.bl true, H, I, rfl, q⟩
  have h1 := rv.length
  have h2 := rv2.length
  simp only [List.size_toArray, bne_iff_ne, ne_eq]
  omega
theorem g_neLen {K : PySem.W.Frag} {H : Hp} {Q : VK} {a b : Addr} {xs ys : List V} (h1 : SqL K H a xs) (h2 : SqL K H b ys) (hn : xs.length ≠ ys.length) (q : Q (.bl true) H) : rNeLen K (.ref a) (.ref b) H Q := ⟨a, b, xs, ys, rfl, rfl, h1, h2, hn, q⟩
/-! ### methods, making -/
structure KnM (P : Program) (w : World) (K : PySem.W.Frag) (mg : Str → Option Value) (base : Heap) (k : Nat) (C : Addr) (m : Str) (ps : List Str) (sp : Sp) : Prop where
  ex : ∃ (f : Addr) (fd : FuncData), FnOk P w K mg base CX0 k f fd ps sp ∧ Meth K C m f ∧ Binds K fd ps []
structure KnC (P : Program) (w : World) (K : PySem.W.Frag) (mg : Str → Option Value) (base : Heap) (k : Nat) (x : Str) (ps : List Str) (sp : Sp) : Prop where
  ex : ∃ (f : Addr) (fd : FuncData), FnOk P w K mg base CX0 k f fd ps sp ∧ Mk K (He.ga K x) f ∧ mg x = some (.ref (He.ga K x)) ∧ Binds K fd ps []
section
variable {X : Cx} {k : Nat} {sp : Sp} {ps : List Str} {x m : Str} {p pos apos : Pos} {o e : Expr} {es : List Expr} {t : TA} {ta : TE} {C : Addr}
theorem pcM {K : PySem.W.Frag} (F : KnC X.prog X.w K X.mg X.base k x ps sp) (hr : Room (k + 1) X.A) (ha : PA X (e :: es) t) (hg : Gl X x := by rfl) (hK : X.K = K := by rfl)
    (hdb : (x == ("__debug__" : Str)) = false := by decide) (he : starEach (e :: es) X.env = (false, eval e X.env) :: starEach es X.env := by rfl) (hpl : (backTo pos (starEach es X.env)).any (·.1) = false := by rfl) :
    PE X (.Call (.Name x p) (e :: es) [] pos) (tMake (He.ga K x) sp [] E0 t) := by
  subst hK
  obtain ⟨f, fd, F, hM, hm, hb⟩ := F.ex
  exact pe_make hM F hr hg hm hb .nil pass0 ha hdb he hpl
theorem pcm0 {K : PySem.W.Frag} {pl : Sem Bool} (c : Cls K C) (F : KnM X.prog X.w K X.mg X.base k C m ps sp) (hr : Room k X.A) (he : PE X o ta) (hK : X.K = K := by rfl)
    (ht : eval (.Call (.Attribute o m apos) [] [] pos) X.env = (do
      let ov ← eval o X.env
      standAt apos.atName
      let (f, first) ← holding [ov] (getMethod ov m pl)
      callWith pos f first (backTo pos (starEach [] X.env)) (backToKw pos (keywordEach [] X.env))) := by rfl) :
    PE X (.Call (.Attribute o m apos) [] [] pos) (tMeth C m sp [] E0 ta tNil) := by
  subst hK
  obtain ⟨f, fd, F, hm, hb⟩ := F.ex
  exact pe_meth0 he c hm F hr hb .nil pass0 ht
end
section
variable {P : Program} {w : World} {K : PySem.W.Frag} {mg : Str → Option Value} {base : Heap}
theorem fn_mk {x qual : Str} {params : Arguments} {body : List Stmt} {scope : Scope} {f : Addr} {fd : FuncData} {N ps : List Str} {k : Nat} {sp : Sp} (F : FunD K x qual params body scope [] [] f fd) (S : FnScope N ps scope)
    (len : ∀ vs H Q E, sp vs H Q E → vs.length = ps.length)
    (hbody : ∀ (cdv : Value) (A : Around) (outer : List Env) (s : Shared) (H : Hp) (vs : List V) (Q : VK) (E : XK), Room k (A.deeper (envOfC qual scope s.heap.objs.size f cdv)) → sp vs H Q E →
      ∃ t, PSs (cxOf CX0 P w K mg base N qual scope f cdv A outer s H E).nox body t ∧ t { nx := fun _ H' => Q .non H', rt := Q } (start N vs) H) : FnOk P w K mg base CX0 (k + 1) f fd ps sp :=
  F.ok S len fun cdv A outer s H vs Q E hr h => by
    obtain ⟨t, ht, q⟩ := hbody cdv A outer s H vs Q E hr h
    exact ⟨t, ht.nox, q⟩
end
/-- the readings -/
def GFld (K : PySem.W.Frag) (f : Str) (x : V) (H : Hp) (Q : VK) : Prop := ∃ a C dx fs v, x = .ref a ∧ H a = some (.ins C dx fs) ∧ Cls K C ∧ NoAttr K C f ∧ fs.lookup f = some v ∧ Q v H
def MethG (C : Addr) (m : Str) (sp : Sp) (x : V) (H : Hp) (Q : VK) : Prop := ∃ a dx fs, x = .ref a ∧ H a = some (.ins C dx fs) ∧ fs.lookup m = none ∧ sp [x] H Q E0
def SetG (K : PySem.W.Frag) (f : Str) (x v : V) (H : Hp) (R : Hp → Prop) : Prop := ∃ a C dx fs, x = .ref a ∧ H a = some (.ins C dx fs) ∧ Cls K C ∧ NoAttr K C f ∧ fs.length < 1000 ∧ R (upd H a (.ins C dx (putF f v fs)))
def MakeG (C : Addr) (sp : Sp) (vs : List V) (H : Hp) (Q : VK) : Prop := ∀ x dx, H x = none → H dx = none → dx ≠ x → sp (.ref x :: vs) (upd (upd H dx (.own x)) x (.ins C dx [])) (fun v H2 => v = .non ∧ Q (.ref x) H2) E0
section
variable {K : PySem.W.Frag} {f m : Str} {ta : TE} {ar : TA} {σ : Sg} {H : Hp} {Q : VK} {QS : Sg → Hp → Prop} {C : Addr} {sp : Sp} {v : V}
theorem x_fld : tFld K ta f σ H Q = ta σ H fun x H1 => GFld K f x H1 Q := rfl
theorem x_fldT : gFldT K ta f v σ H QS = ta σ H fun x H1 => SetG K f x v H1 fun H2 => QS σ H2 := rfl
theorem x_meth0 : tMeth C m sp [] E0 ta tNil σ H Q = ta σ H fun x H1 => MethG C m sp x H1 Q := rfl
theorem x_make : tMake C sp [] E0 ar σ H Q = ar σ H fun vs H1 => MakeG C sp vs H1 Q := by
  unfold tMake MakeG
  congr 1
  funext vs H1
  rw [List.append_nil]
theorem x_sfld {D : Ends} {tv : TE} : sFld K ta tv f D σ H = tv σ H fun y H1 => ta σ H1 fun x H2 => SetG K f x y H2 fun H3 => D.nx σ H3 := rfl
end
/-- all but what stands at a is as it was -/
def Sa (a : Addr) (H H' : Hp) : Prop := ∀ b o, H b = some o → b ≠ a → H' b = some o
theorem Sa.refl (a : Addr) (H : Hp) : Sa a H H := fun _ _ h _ => h
theorem Sa.trans {a : Addr} {H H1 H2 : Hp} (s : Sa a H H1) (t : Sa a H1 H2) : Sa a H H2 := fun b o h n => t b o (s b o h n) n
theorem Sa.of {a : Addr} {H H' : Hp} (s : Same H H') : Sa a H H' := fun b o h _ => s b o h
theorem sa_upd {a : Addr} {H : Hp} {o : HO} : Sa a H (upd H a o) := fun b u h n => by rw [upd_ne n]; exact h
theorem cdw_all {i x : Int} (h : ∀ i, CDivW i x) : CDivW i x := h i
theorem gcd_step {x y : Int} (hx : 0 ≤ x) (hy : 0 ≤ y) : Int.gcd y (x % y) = Int.gcd x y := by
  rw [Int.gcd_comm x y]
  show Nat.gcd y.natAbs (x % y).natAbs = Nat.gcd y.natAbs x.natAbs
  rw [Int.natAbs_emod_of_nonneg hx, Nat.gcd_comm, ← Nat.gcd_rec]
theorem ib_eq (t : Int) : Builtin.Int.intBits t = Fm.bits t.natAbs := by
  unfold Builtin.Int.intBits Fm.bits
  by_cases c : t = 0
  · rw [if_pos (by simpa using c), if_pos (by omega)]
  · rw [if_neg (by simpa using c), if_neg (by omega)]
/-! ### this program's Float -/
abbrev FC (K : PySem.W.Frag) : Addr := He.ga K "Float"
structure CF (K : PySem.W.Frag) : Prop where
  cls : Cls K (FC K)
  n1 : NoAttr K (FC K) "sign"
  n2 : NoAttr K (FC K) "top"
  n3 : NoAttr K (FC K) "power"
  ha : PySem.W.findIn K (.ref (FC K)) "__class__" = some (some (.builtin "object.__class__"))
  hn : PySem.W.specialIn K (.builtin "object.__class__") "__get__" = some (some (.builtin "getset_descriptor.__get__"))
  htk : PySem.W.takesIn K (.builtin "object.__class__") = some true
  hm : PySem.W.mroIn K (FC K) (.type "object") = some true
def FO (K : PySem.W.Frag) (H : Hp) (r : Addr) (s t p : Int) : Prop := ∃ dx, H r = some (.ins (FC K) dx [("sign", .int s), ("top", .int t), ("power", .int p)])
def FV (K : PySem.W.Frag) (H : Hp) (r : Addr) (v : Int) : Prop := ∃ s t p, FO K H r s t p ∧ V3 s t p v
section
variable {K : PySem.W.Frag} {H H' : Hp} {Q : VK} {r : Addr} {s t p v : Int}
theorem FO.same (h : FO K H r s t p) (e : Same H H') : FO K H' r s t p := by
  obtain ⟨dx, h⟩ := h
  exact ⟨dx, e _ _ h⟩
theorem FV.same (h : FV K H r v) (e : Same H H') : FV K H' r v := by
  obtain ⟨s, t, p, h, k⟩ := h
  exact ⟨s, t, p, h.same e, k⟩
theorem g_sign (C : CF K) (h : FO K H r s t p) (q : Q (.int s) H) : GFld K "sign" (.ref r) H Q := by
  obtain ⟨dx, h⟩ := h
  exact ⟨r, _, dx, _, _, rfl, h, C.cls, C.n1, rfl, q⟩
theorem g_top (C : CF K) (h : FO K H r s t p) (q : Q (.int t) H) : GFld K "top" (.ref r) H Q := by
  obtain ⟨dx, h⟩ := h
  exact ⟨r, _, dx, _, _, rfl, h, C.cls, C.n2, rfl, q⟩
theorem g_power (C : CF K) (h : FO K H r s t p) (q : Q (.int p) H) : GFld K "power" (.ref r) H Q := by
  obtain ⟨dx, h⟩ := h
  exact ⟨r, _, dx, _, _, rfl, h, C.cls, C.n3, rfl, q⟩
theorem g_methF {m : Str} {sp : Sp} (h : FO K H r s t p) (hm : ([("sign", V.int s), ("top", V.int t), ("power", V.int p)] : List (Str × V)).lookup m = none) (q : sp [.ref r] H Q E0) : MethG (FC K) m sp (.ref r) H Q := by
  obtain ⟨dx, h⟩ := h
  exact ⟨r, dx, _, rfl, h, hm, q⟩
theorem g_ini1 {H0 : Hp} {dx : Addr} {R : Hp → Prop} (C : CF K) (h : H r = some (.ins (FC K) dx [])) (a : Sa r H0 H)
    (q : upd H r (.ins (FC K) dx [("sign", .int s)]) r = some (.ins (FC K) dx [("sign", .int s)]) → Sa r H0 (upd H r (.ins (FC K) dx [("sign", .int s)])) → R (upd H r (.ins (FC K) dx [("sign", .int s)]))) :
    SetG K "sign" (.ref r) (.int s) H R := ⟨r, _, dx, _, rfl, h, C.cls, C.n1, Nat.lt_of_lt_of_le (Nat.zero_lt_succ 5) (by decide), q upd_same (a.trans sa_upd)⟩
theorem g_ini2 {H0 : Hp} {dx : Addr} {R : Hp → Prop} (C : CF K) (h : H r = some (.ins (FC K) dx [("sign", .int s)])) (a : Sa r H0 H)
    (q : upd H r (.ins (FC K) dx [("sign", .int s), ("top", .int t)]) r = some (.ins (FC K) dx [("sign", .int s), ("top", .int t)]) → Sa r H0 (upd H r (.ins (FC K) dx [("sign", .int s), ("top", .int t)])) → R (upd H r (.ins (FC K) dx [("sign", .int s), ("top", .int t)]))) :
    SetG K "top" (.ref r) (.int t) H R := ⟨r, _, dx, _, rfl, h, C.cls, C.n2, (by decide : (1 : Nat) < 1000), q upd_same (a.trans sa_upd)⟩
theorem g_ini3 {H0 : Hp} {dx : Addr} {R : Hp → Prop} (C : CF K) (h : H r = some (.ins (FC K) dx [("sign", .int s), ("top", .int t)])) (a : Sa r H0 H)
    (q : FO K (upd H r (.ins (FC K) dx [("sign", .int s), ("top", .int t), ("power", .int p)])) r s t p → Sa r H0 (upd H r (.ins (FC K) dx [("sign", .int s), ("top", .int t), ("power", .int p)])) → R (upd H r (.ins (FC K) dx [("sign", .int s), ("top", .int t), ("power", .int p)]))) :
    SetG K "power" (.ref r) (.int p) H R := ⟨r, _, dx, _, rfl, h, C.cls, C.n3, (by decide : (2 : Nat) < 1000), q ⟨dx, upd_same⟩ (a.trans sa_upd)⟩
theorem isi_F (C : CF K) (h : FO K H r s t p) (q : Q (.bl true) H) : rIsi K [.ref r, .ref (FC K)] H Q := by
  obtain ⟨dx, h⟩ := h
  refine ⟨.ref r, .ref (FC K), .ref (FC K), .ref (FC K), true, rfl, .own _, .base (.ins h C.cls C.ha C.hn C.htk C.hm), ?_, q⟩
  unfold PySem.W.kitOne
  rw [if_pos (beq_self_eq_true _)]
theorem isi_ll {xs : List V} (h : SqL K H r xs) (q : Q (.bl true) H) : rIsi K [.ref r, .ty "list"] H Q := by
  refine isi_ty (a := "list") ?_ (by decide +kernel) q
  rcases h with (h | ⟨o, h⟩) | h
  · exact .base (.lst h)
  · exact .base (.frz h)
  · obtain ⟨o, its, n, e, c, _⟩ := h
    exact .kList e c
theorem x_eqIS {a : Int} {b : Str} : rEq (.int a) (.str b) H Q = Q (.bl false) H := propext ⟨fun ⟨_, h⟩ => by
  have e : decide (V.int a = V.str b) = false := by simp
  rw [e] at h; exact h, fun h => ⟨rfl, by
  have e : decide (V.int a = V.str b) = false := by simp
  rw [e]; exact h⟩⟩
theorem x_neIS {a : Int} {b : Str} : rNe (.int a) (.str b) H Q = Q (.bl true) H := propext ⟨fun ⟨_, h⟩ => by
  have e : decide (V.int a = V.str b) = false := by simp
  rw [e] at h; exact h, fun h => ⟨rfl, by
  have e : decide (V.int a = V.str b) = false := by simp
  rw [e]; exact h⟩⟩
theorem inV_iS {a : Int} {x y : Str} : inV (.int a) [.str x, .str y] = false := rfl
end
/-! ### comprehensions over lists, told by what each element becomes -/
section
variable {K : PySem.W.Frag} {H : Hp} {Q : VK} {σ : Sg} {g : TG} {te : TE} {vs : List Nat} {a W : Addr}
theorem lcL_const {b : Bool} (xs : List V) (h : SqL K H a xs) (hl : xs.length < 16777216)
    (step : ∀ x H' (N : VK), x ∈ xs → Same H H' → (∀ H4, Same H' H4 → N (.bl b) H4) → g x (wipe σ vs) H' fun σ2 H2 => wipe σ2 vs = wipe σ vs ∧ te σ2 H2 N)
    (done : ∀ D H', Same H H' → H D = none → H' D = some (.lst ((List.replicate xs.length b).map V.bl)) → Q (.ref D) H') : LcL K g tYes te vs σ Q (.ref a) H := by
  refine mk_lcL xs (fun D i H' => Same H H' ∧ H' D = some (.lst ((List.replicate i b).map V.bl))) (fun D hD => ⟨same_new hD, upd_same⟩) (fun D hD i H' _ I => I.1.seq h) h (fun D hD i x H' hx I => ?_) (fun D hD H' I => done D H' I.1 hD I.2)
  obtain ⟨s1, h1⟩ := I
  have hi := (List.getElem?_eq_some_iff.mp hx).1
  simp only [x_yes, if_true]
  refine step x H' _ (List.mem_of_getElem? hx) s1 fun H4 s4 => ?_
  refine ⟨_, s4 _ _ h1, rep_len (by omega), same_mut (s1.trans s4) hD, ?_⟩
  rw [upd_same, rep_snoc]
theorem lcL_bls (xs : List V) (h : SqL K H a xs) (hl : xs.length < 16777216)
    (step : ∀ x H' (N : VK), x ∈ xs → Same H H' → (∀ H4 b, Same H' H4 → N (.bl b) H4) → g x (wipe σ vs) H' fun σ2 H2 => wipe σ2 vs = wipe σ vs ∧ te σ2 H2 N)
    (done : ∀ D H' (bs : List Bool), Same H H' → H D = none → H' D = some (.lst (bs.map V.bl)) → Q (.ref D) H') : LcL K g tYes te vs σ Q (.ref a) H := by
  refine mk_lcL xs (fun D i H' => Same H H' ∧ ∃ bs : List Bool, bs.length = i ∧ H' D = some (.lst (bs.map V.bl))) (fun D hD => ⟨same_new hD, [], rfl, upd_same⟩) (fun D hD i H' _ I => I.1.seq h) h (fun D hD i x H' hx I => ?_) (fun D hD H' ⟨s1, bs, _, h1⟩ => done D H' bs s1 hD h1)
  obtain ⟨s1, bs, l1, h1⟩ := I
  have hi := (List.getElem?_eq_some_iff.mp hx).1
  simp only [x_yes, if_true]
  refine step x H' _ (List.mem_of_getElem? hx) s1 fun H4 b s4 => ?_
  refine ⟨_, s4 _ _ h1, ?_, same_mut (s1.trans s4) hD, bs ++ [b], by rw [List.length_append, l1]; rfl, ?_⟩
  · rw [List.length_map, l1]
    exact Nat.lt_of_lt_of_le (show i < 16777216 by omega) (by decide)
  · rw [upd_same, List.map_append]; rfl
theorem g_anyF {p : Addr} (n : Nat) (h : H p = some (.lst ((List.replicate n false).map V.bl))) (k : Q (.bl false) H) : rAny K [.ref p] H Q := ⟨p, List.replicate n false, rfl, .inl (.inl h), by
  have e : (List.replicate n false).any id = false := by rw [List.any_eq_false]; intro x hx; rw [(List.mem_replicate.mp hx).2]; exact Bool.false_ne_true
  rw [e]; exact k⟩
theorem x_set1' {α : Type} {a b x : α} : [a, b].set 1 x = [a, x] := rfl
/-- a list of floats: where, and their values -/
abbrev vls (ps : List (Addr × Int)) : List Int := ps.map fun q => q.2
abbrev rfs (ps : List (Addr × Int)) : List V := ps.map fun q => V.ref q.1
def FL (K : PySem.W.Frag) (H : Hp) (ps : List (Addr × Int)) : Prop := ∀ q, q ∈ ps → FV K H q.1 q.2
theorem FL.same {H' : Hp} {ps : List (Addr × Int)} (h : FL K H ps) (e : Same H H') : FL K H' ps := fun q hq => (h q hq).same e
theorem FO.upd {D r : Addr} {s t p : Int} {xs : List V} {o : HO} (h : FO K H r s t p) (hD : H D = some (.lst xs)) : FO K (upd H D o) r s t p := by
  obtain ⟨dx, h⟩ := h
  exact ⟨dx, by rw [upd_ne (fun e => by rw [e, hD] at h; cases h)]; exact h⟩
theorem FV.upd {D r : Addr} {v : Int} {xs : List V} {o : HO} (h : FV K H r v) (hD : H D = some (.lst xs)) : FV K (upd H D o) r v := by
  obtain ⟨s, t, p, f, z⟩ := h
  exact ⟨s, t, p, f.upd hD, z⟩
theorem FL.upd {D : Addr} {ps : List (Addr × Int)} {xs : List V} {o : HO} (h : FL K H ps) (hD : H D = some (.lst xs)) : FL K (L2.upd H D o) ps := fun q hq => (h q hq).upd hD
theorem FL.nil : FL K H [] := fun q hq => by cases hq
theorem FL.snoc {ps : List (Addr × Int)} {r : Addr} {v : Int} (h : FL K H ps) (k : FV K H r v) : FL K H (ps ++ [(r, v)]) := fun q hq => by
  rcases List.mem_append.mp hq with z | z
  · exact h q z
  · rw [List.mem_singleton.mp z]; exact k
theorem FL.app {ps qs : List (Addr × Int)} (h : FL K H ps) (k : FL K H qs) : FL K H (ps ++ qs) := fun q hq => by
  rcases List.mem_append.mp hq with z | z
  · exact h q z
  · exact k q z
theorem rfs_mem {ps : List (Addr × Int)} {x : V} (h : x ∈ rfs ps) : ∃ q, q ∈ ps ∧ x = .ref q.1 := by
  obtain ⟨q, hq, e⟩ := List.mem_map.mp h
  exact ⟨q, hq, e.symm⟩
theorem rfs_at {ps : List (Addr × Int)} {i : Nat} {x : V} (h : (rfs ps)[i]? = some x) : ∃ q, ps[i]? = some q ∧ x = .ref q.1 := by
  rw [List.getElem?_map] at h
  cases e : ps[i]? with
  | none => rw [e] at h; cases h
  | some q => rw [e] at h; exact ⟨q, rfl, (Option.some.inj h).symm⟩
theorem lcL_flts (f : Int → Int) (ps : List (Addr × Int)) (h : SqL K H a (rfs ps)) (hl : ps.length < 16777216)
    (step : ∀ q H' (N : VK), q ∈ ps → Same H H' → (∀ H4 r, Same H' H4 → FV K H4 r (f q.2) → N (.ref r) H4) → g (.ref q.1) (wipe σ vs) H' fun σ2 H2 => wipe σ2 vs = wipe σ vs ∧ te σ2 H2 N)
    (done : ∀ D H' qs, Same H H' → H D = none → H' D = some (.lst (rfs qs)) → qs.map (·.2) = (ps.map (·.2)).map f → FL K H' qs → Q (.ref D) H') : LcL K g tYes te vs σ Q (.ref a) H := by
  refine mk_lcL (rfs ps) (fun D i H' => Same H H' ∧ ∃ qs, H' D = some (.lst (rfs qs)) ∧ qs.map (·.2) = ((ps.take i).map (·.2)).map f ∧ FL K H' qs) (fun D hD => ⟨same_new hD, [], upd_same, by simp, FL.nil⟩) (fun D hD i H' _ I => I.1.seq h) h (fun D hD i x H' hx I => ?_) (fun D hD H' I => ?_)
  · obtain ⟨s1, qs, h1, m1, l1⟩ := I
    obtain ⟨q, hq, rfl⟩ := rfs_at hx
    have hi := (List.getElem?_eq_some_iff.mp hq).1
    simp only [x_yes, if_true]
    refine step q H' _ (List.mem_of_getElem? hq) s1 fun H4 r s4 hr => ?_
    have h4 := s4 _ _ h1
    refine ⟨_, h4, ?_, same_mut (s1.trans s4) hD, qs ++ [(r, f q.2)], ?_, ?_, ?_⟩
    · have e := congrArg List.length m1
      simp only [List.length_map, List.length_take] at e
      rw [List.length_map]
      exact Nat.lt_of_lt_of_le (show qs.length < 16777216 by omega) (by decide)
    · rw [upd_same]
      unfold rfs
      rw [List.map_append]; rfl
    · rw [List.map_append, m1, List.take_add_one, hq, List.map_append, List.map_append]; rfl
    · exact ((l1.same s4).upd h4).snoc (hr.upd h4)
  · obtain ⟨s1, qs, h1, m1, l1⟩ := I
    refine done D H' qs s1 hD h1 ?_ l1
    rw [m1, List.length_map, List.take_length]
/-- a new float of a value; a new tuple of two floats -/
abbrev RetV (K : PySem.W.Frag) (v : Int) (H : Hp) (Q : VK) : Prop := ∀ H' r, Same H H' → H r = none → FV K H' r v → Q (.ref r) H'
end
end WK

set_option maxHeartbeats 4000000
set_option exponentiation.threshold 9000
namespace W85
open PySem PySem.Spec PyProof.Rows L2 WK Fm
abbrev PG : Program := PySem.Challenge.pw_walkmade_k85_whole_sums_through_their_pa
def top (i : Nat) : Stmt := PG.main.body.getD i (.Pass ⟨0, 0, 0, 0⟩)
abbrev s_Float___init__ : Stmt := inClass (top 8) 0
theorem sc_Float___init__ : FnScope ["self", "sign", "top", "power"] ["self", "sign", "top", "power"] (defScope s_Float___init__) := ⟨rfl, rfl, rfl, by decide +kernel, rfl, by decide +kernel, by decide +kernel⟩
abbrev s_Float___eq__ : Stmt := inClass (top 8) 2
theorem sc_Float___eq__ : FnScope ["self", "other"] ["self", "other"] (defScope s_Float___eq__) := ⟨rfl, rfl, rfl, by decide +kernel, rfl, by decide +kernel, by decide +kernel⟩
abbrev s_Float_is_finite : Stmt := inClass (top 8) 4
theorem sc_Float_is_finite : FnScope ["self"] ["self"] (defScope s_Float_is_finite) := ⟨rfl, rfl, rfl, by decide +kernel, rfl, by decide +kernel, by decide +kernel⟩
abbrev s_Float_ratio : Stmt := inClass (top 8) 5
theorem sc_Float_ratio : FnScope ["self"] ["self"] (defScope s_Float_ratio) := ⟨rfl, rfl, rfl, by decide +kernel, rfl, by decide +kernel, by decide +kernel⟩
abbrev s_is_plain : Stmt := top 9
theorem sc_is_plain : FnScope ["number"] ["number"] (defScope s_is_plain) := ⟨rfl, rfl, rfl, by decide +kernel, rfl, by decide +kernel, by decide +kernel⟩
abbrev s_reduced : Stmt := top 10
theorem sc_reduced : FnScope ["top", "power", "less"] ["top", "power"] (defScope s_reduced) := ⟨rfl, rfl, rfl, by decide +kernel, rfl, by decide +kernel, by decide +kernel⟩
abbrev s_fits : Stmt := top 11
theorem sc_fits : FnScope ["top", "power"] ["top", "power"] (defScope s_fits) := ⟨rfl, rfl, rfl, by decide +kernel, rfl, by decide +kernel, by decide +kernel⟩
abbrev s_sign_of : Stmt := top 12
theorem sc_sign_of : FnScope ["is_negative"] ["is_negative"] (defScope s_sign_of) := ⟨rfl, rfl, rfl, by decide +kernel, rfl, by decide +kernel, by decide +kernel⟩
abbrev s_nearest : Stmt := top 15
theorem sc_nearest : FnScope ["sign", "top", "bottom", "power", "whole", "rest"] ["sign", "top", "bottom"] (defScope s_nearest) := ⟨rfl, rfl, rfl, by decide +kernel, rfl, by decide +kernel, by decide +kernel⟩
abbrev s_is_number : Stmt := top 16
theorem sc_is_number : FnScope ["thing"] ["thing"] (defScope s_is_number) := ⟨rfl, rfl, rfl, by decide +kernel, rfl, by decide +kernel, by decide +kernel⟩
abbrev s_added : Stmt := top 17
theorem sc_added : FnScope ["one", "other", "first", "second", "top"] ["one", "other"] (defScope s_added) := ⟨rfl, rfl, rfl, by decide +kernel, rfl, by decide +kernel, by decide +kernel⟩
abbrev s_is_finite_float : Stmt := top 21
theorem sc_is_finite_float : FnScope ["thing"] ["thing"] (defScope s_is_finite_float) := ⟨rfl, rfl, rfl, by decide +kernel, rfl, by decide +kernel, by decide +kernel⟩
abbrev s_check_finite : Stmt := top 22
theorem sc_check_finite : FnScope ["number", "part"] ["number", "part"] (defScope s_check_finite) := ⟨rfl, rfl, rfl, by decide +kernel, rfl, by decide +kernel, by decide +kernel⟩
abbrev s_spread_out : Stmt := top 23
theorem sc_spread_out : FnScope ["number", "more"] ["number"] (defScope s_spread_out) := ⟨rfl, rfl, rfl, by decide +kernel, rfl, by decide +kernel, by decide +kernel⟩
abbrev s_rank_of : Stmt := top 24
theorem sc_rank_of : FnScope ["number", "top", "power"] ["number"] (defScope s_rank_of) := ⟨rfl, rfl, rfl, by decide +kernel, rfl, by decide +kernel, by decide +kernel⟩
abbrev s_of_rank : Stmt := top 25
theorem sc_of_rank : FnScope ["rank", "power"] ["rank"] (defScope s_of_rank) := ⟨rfl, rfl, rfl, by decide +kernel, rfl, by decide +kernel, by decide +kernel⟩
abbrev s_next_up : Stmt := top 26
theorem sc_next_up : FnScope ["number"] ["number"] (defScope s_next_up) := ⟨rfl, rfl, rfl, by decide +kernel, rfl, by decide +kernel, by decide +kernel⟩
abbrev s_next_down : Stmt := top 27
theorem sc_next_down : FnScope ["number"] ["number"] (defScope s_next_down) := ⟨rfl, rfl, rfl, by decide +kernel, rfl, by decide +kernel, by decide +kernel⟩
abbrev s_lowered : Stmt := top 28
theorem sc_lowered : FnScope ["top", "bottom", "one", "other"] ["top", "bottom"] (defScope s_lowered) := ⟨rfl, rfl, rfl, by decide +kernel, rfl, by decide +kernel, by decide +kernel⟩
abbrev s_as_fraction : Stmt := top 29
theorem sc_as_fraction : FnScope ["number"] ["number"] (defScope s_as_fraction) := ⟨rfl, rfl, rfl, by decide +kernel, rfl, by decide +kernel, by decide +kernel⟩
abbrev s_exact_sum : Stmt := top 30
theorem sc_exact_sum : FnScope ["numbers", "number", "top", "bottom", "more", "are_below"] ["numbers"] (defScope s_exact_sum) := ⟨rfl, rfl, rfl, by decide +kernel, rfl, by decide +kernel, by decide +kernel⟩
abbrev s_float_of : Stmt := top 31
theorem sc_float_of : FnScope ["top", "bottom", "found", "told"] ["top", "bottom"] (defScope s_float_of) := ⟨rfl, rfl, rfl, by decide +kernel, rfl, by decide +kernel, by decide +kernel⟩
abbrev s_split_by : Stmt := top 32
theorem sc_split_by : FnScope ["whole", "one", "other", "is_product", "first", "second", "third", "top", "bottom", "rest"] ["whole", "one", "other", "is_product"] (defScope s_split_by) := ⟨rfl, rfl, rfl, by decide +kernel, rfl, by decide +kernel, by decide +kernel⟩
abbrev s_split_sum : Stmt := top 33
theorem sc_split_sum : FnScope ["one", "other"] ["one", "other"] (defScope s_split_sum) := ⟨rfl, rfl, rfl, by decide +kernel, rfl, by decide +kernel, by decide +kernel⟩
abbrev s__law_well : Stmt := top 35
theorem sc__law_well : FnScope ["cell"] ["cell"] (defScope s__law_well) := ⟨rfl, rfl, rfl, by decide +kernel, rfl, by decide +kernel, by decide +kernel⟩
abbrev s__law_draw : Stmt := top 36
theorem sc__law_draw : FnScope ["well", "many", "digit", "number"] ["well", "many"] (defScope s__law_draw) := ⟨rfl, rfl, rfl, by decide +kernel, rfl, by decide +kernel, by decide +kernel⟩
abbrev s__law_one : Stmt := top 37
theorem sc__law_one : FnScope ["well", "some"] ["well", "some"] (defScope s__law_one) := ⟨rfl, rfl, rfl, by decide +kernel, rfl, by decide +kernel, by decide +kernel⟩
abbrev s__law_wells : Stmt := top 38
theorem sc__law_wells : FnScope ["script", "many", "cell"] ["script", "many"] (defScope s__law_wells) := ⟨rfl, rfl, rfl, by decide +kernel, rfl, by decide +kernel, by decide +kernel⟩
abbrev s__law_low : Stmt := top 41
theorem sc__law_low : FnScope ["top", "bottom", "one", "other"] ["top", "bottom"] (defScope s__law_low) := ⟨rfl, rfl, rfl, by decide +kernel, rfl, by decide +kernel, by decide +kernel⟩
abbrev s__law_numbers : Stmt := top 43
theorem sc__law_numbers : FnScope ["well", "found", "low", "turn", "top"] ["well"] (defScope s__law_numbers) := ⟨rfl, rfl, rfl, by decide +kernel, rfl, by decide +kernel, by decide +kernel⟩
abbrev s__law_exact : Stmt := top 44
theorem sc__law_exact : FnScope ["numbers", "found", "number", "more"] ["numbers"] (defScope s__law_exact) := ⟨rfl, rfl, rfl, by decide +kernel, rfl, by decide +kernel, by decide +kernel⟩
abbrev s__law_swept : Stmt := top 45
theorem sc__law_swept : FnScope ["numbers", "here", "parts", "number", "lack"] ["numbers"] (defScope s__law_swept) := ⟨rfl, rfl, rfl, by decide +kernel, rfl, by decide +kernel, by decide +kernel⟩
abbrev s__law_times : Stmt := top 46
theorem sc__law_times : FnScope ["number", "power"] ["number", "power"] (defScope s__law_times) := ⟨rfl, rfl, rfl, by decide +kernel, rfl, by decide +kernel, by decide +kernel⟩
abbrev s__law_is_right : Stmt := top 47
theorem sc__law_is_right : FnScope ["well", "numbers", "told", "row", "turn", "opposite", "ratio", "power", "moved", "at", "less", "more", "number"] ["well", "numbers"] (defScope s__law_is_right) := ⟨rfl, rfl, rfl, by decide +kernel, rfl, by decide +kernel, by decide +kernel⟩
abbrev s__law_raised : Stmt := top 48
theorem sc__law_raised : FnScope ["number", "many", "turn"] ["number", "many"] (defScope s__law_raised) := ⟨rfl, rfl, rfl, by decide +kernel, rfl, by decide +kernel, by decide +kernel⟩
abbrev s__law_ratio : Stmt := top 49
theorem sc__law_ratio : FnScope ["number", "top"] ["number"] (defScope s__law_ratio) := ⟨rfl, rfl, rfl, by decide +kernel, rfl, by decide +kernel, by decide +kernel⟩
abbrev s_law : Stmt := top 50
theorem sc_law : FnScope ["script", "well", "turn", "one", "small"] ["script"] (defScope s_law) := ⟨rfl, rfl, rfl, by decide +kernel, rfl, by decide +kernel, by decide +kernel⟩
structure Tx (K : PySem.W.Frag) (mg : Str → Option Value) : Prop where
  d_Float___init__ : ∃ fd, FunD K "__init__" "Float.__init__" (defArgs s_Float___init__) (defBody s_Float___init__) (defScope s_Float___init__) [] [] (He.ma K (He.ga K "Float") "__init__") fd
  k_Float : Mk K (He.ga K "Float") (He.ma K (He.ga K "Float") "__init__")
  d_Float___eq__ : ∃ fd, FunD K "__eq__" "Float.__eq__" (defArgs s_Float___eq__) (defBody s_Float___eq__) (defScope s_Float___eq__) [] [] (He.ma K (He.ga K "Float") "__eq__") fd
  m_Float___eq__ : Meth K (He.ga K "Float") "__eq__" (He.ma K (He.ga K "Float") "__eq__")
  d_Float_is_finite : ∃ fd, FunD K "is_finite" "Float.is_finite" (defArgs s_Float_is_finite) (defBody s_Float_is_finite) (defScope s_Float_is_finite) [] [] (He.ma K (He.ga K "Float") "is_finite") fd
  m_Float_is_finite : Meth K (He.ga K "Float") "is_finite" (He.ma K (He.ga K "Float") "is_finite")
  d_Float_ratio : ∃ fd, FunD K "ratio" "Float.ratio" (defArgs s_Float_ratio) (defBody s_Float_ratio) (defScope s_Float_ratio) [] [] (He.ma K (He.ga K "Float") "ratio") fd
  m_Float_ratio : Meth K (He.ga K "Float") "ratio" (He.ma K (He.ga K "Float") "ratio")
  g_is_plain : mg "is_plain" = some (.ref (He.ga K "is_plain"))
  d_is_plain : ∃ fd, FunD K "is_plain" "is_plain" (defArgs s_is_plain) (defBody s_is_plain) (defScope s_is_plain) [] [] (He.ga K "is_plain") fd
  g_reduced : mg "reduced" = some (.ref (He.ga K "reduced"))
  d_reduced : ∃ fd, FunD K "reduced" "reduced" (defArgs s_reduced) (defBody s_reduced) (defScope s_reduced) [] [] (He.ga K "reduced") fd
  g_fits : mg "fits" = some (.ref (He.ga K "fits"))
  d_fits : ∃ fd, FunD K "fits" "fits" (defArgs s_fits) (defBody s_fits) (defScope s_fits) [] [] (He.ga K "fits") fd
  g_sign_of : mg "sign_of" = some (.ref (He.ga K "sign_of"))
  d_sign_of : ∃ fd, FunD K "sign_of" "sign_of" (defArgs s_sign_of) (defBody s_sign_of) (defScope s_sign_of) [] [] (He.ga K "sign_of") fd
  g_nearest : mg "nearest" = some (.ref (He.ga K "nearest"))
  d_nearest : ∃ fd, FunD K "nearest" "nearest" (defArgs s_nearest) (defBody s_nearest) (defScope s_nearest) [] [] (He.ga K "nearest") fd
  g_is_number : mg "is_number" = some (.ref (He.ga K "is_number"))
  d_is_number : ∃ fd, FunD K "is_number" "is_number" (defArgs s_is_number) (defBody s_is_number) (defScope s_is_number) [] [] (He.ga K "is_number") fd
  g_added : mg "added" = some (.ref (He.ga K "added"))
  d_added : ∃ fd, FunD K "added" "added" (defArgs s_added) (defBody s_added) (defScope s_added) [] [] (He.ga K "added") fd
  g_is_finite_float : mg "is_finite_float" = some (.ref (He.ga K "is_finite_float"))
  d_is_finite_float : ∃ fd, FunD K "is_finite_float" "is_finite_float" (defArgs s_is_finite_float) (defBody s_is_finite_float) (defScope s_is_finite_float) [] [] (He.ga K "is_finite_float") fd
  g_check_finite : mg "check_finite" = some (.ref (He.ga K "check_finite"))
  d_check_finite : ∃ fd, FunD K "check_finite" "check_finite" (defArgs s_check_finite) (defBody s_check_finite) (defScope s_check_finite) [] [] (He.ga K "check_finite") fd
  g_spread_out : mg "spread_out" = some (.ref (He.ga K "spread_out"))
  d_spread_out : ∃ fd, FunD K "spread_out" "spread_out" (defArgs s_spread_out) (defBody s_spread_out) (defScope s_spread_out) [] [] (He.ga K "spread_out") fd
  g_rank_of : mg "rank_of" = some (.ref (He.ga K "rank_of"))
  d_rank_of : ∃ fd, FunD K "rank_of" "rank_of" (defArgs s_rank_of) (defBody s_rank_of) (defScope s_rank_of) [] [] (He.ga K "rank_of") fd
  g_of_rank : mg "of_rank" = some (.ref (He.ga K "of_rank"))
  d_of_rank : ∃ fd, FunD K "of_rank" "of_rank" (defArgs s_of_rank) (defBody s_of_rank) (defScope s_of_rank) [] [] (He.ga K "of_rank") fd
  g_next_up : mg "next_up" = some (.ref (He.ga K "next_up"))
  d_next_up : ∃ fd, FunD K "next_up" "next_up" (defArgs s_next_up) (defBody s_next_up) (defScope s_next_up) [] [] (He.ga K "next_up") fd
  g_next_down : mg "next_down" = some (.ref (He.ga K "next_down"))
  d_next_down : ∃ fd, FunD K "next_down" "next_down" (defArgs s_next_down) (defBody s_next_down) (defScope s_next_down) [] [] (He.ga K "next_down") fd
  g_lowered : mg "lowered" = some (.ref (He.ga K "lowered"))
  d_lowered : ∃ fd, FunD K "lowered" "lowered" (defArgs s_lowered) (defBody s_lowered) (defScope s_lowered) [] [] (He.ga K "lowered") fd
  g_as_fraction : mg "as_fraction" = some (.ref (He.ga K "as_fraction"))
  d_as_fraction : ∃ fd, FunD K "as_fraction" "as_fraction" (defArgs s_as_fraction) (defBody s_as_fraction) (defScope s_as_fraction) [] [] (He.ga K "as_fraction") fd
  g_exact_sum : mg "exact_sum" = some (.ref (He.ga K "exact_sum"))
  d_exact_sum : ∃ fd, FunD K "exact_sum" "exact_sum" (defArgs s_exact_sum) (defBody s_exact_sum) (defScope s_exact_sum) [] [] (He.ga K "exact_sum") fd
  g_float_of : mg "float_of" = some (.ref (He.ga K "float_of"))
  d_float_of : ∃ fd, FunD K "float_of" "float_of" (defArgs s_float_of) (defBody s_float_of) (defScope s_float_of) [] [] (He.ga K "float_of") fd
  g_split_by : mg "split_by" = some (.ref (He.ga K "split_by"))
  d_split_by : ∃ fd, FunD K "split_by" "split_by" (defArgs s_split_by) (defBody s_split_by) (defScope s_split_by) [] [] (He.ga K "split_by") fd
  g_split_sum : mg "split_sum" = some (.ref (He.ga K "split_sum"))
  d_split_sum : ∃ fd, FunD K "split_sum" "split_sum" (defArgs s_split_sum) (defBody s_split_sum) (defScope s_split_sum) [] [] (He.ga K "split_sum") fd
  g__law_well : mg "_law_well" = some (.ref (He.ga K "_law_well"))
  d__law_well : ∃ fd, FunD K "_law_well" "_law_well" (defArgs s__law_well) (defBody s__law_well) (defScope s__law_well) [] [] (He.ga K "_law_well") fd
  g__law_draw : mg "_law_draw" = some (.ref (He.ga K "_law_draw"))
  d__law_draw : ∃ fd, FunD K "_law_draw" "_law_draw" (defArgs s__law_draw) (defBody s__law_draw) (defScope s__law_draw) [] [] (He.ga K "_law_draw") fd
  g__law_one : mg "_law_one" = some (.ref (He.ga K "_law_one"))
  d__law_one : ∃ fd, FunD K "_law_one" "_law_one" (defArgs s__law_one) (defBody s__law_one) (defScope s__law_one) [] [] (He.ga K "_law_one") fd
  g__law_wells : mg "_law_wells" = some (.ref (He.ga K "_law_wells"))
  d__law_wells : ∃ fd, FunD K "_law_wells" "_law_wells" (defArgs s__law_wells) (defBody s__law_wells) (defScope s__law_wells) [] [] (He.ga K "_law_wells") fd
  g__law_low : mg "_law_low" = some (.ref (He.ga K "_law_low"))
  d__law_low : ∃ fd, FunD K "_law_low" "_law_low" (defArgs s__law_low) (defBody s__law_low) (defScope s__law_low) [] [] (He.ga K "_law_low") fd
  g__law_numbers : mg "_law_numbers" = some (.ref (He.ga K "_law_numbers"))
  d__law_numbers : ∃ fd, FunD K "_law_numbers" "_law_numbers" (defArgs s__law_numbers) (defBody s__law_numbers) (defScope s__law_numbers) [] [] (He.ga K "_law_numbers") fd
  g__law_exact : mg "_law_exact" = some (.ref (He.ga K "_law_exact"))
  d__law_exact : ∃ fd, FunD K "_law_exact" "_law_exact" (defArgs s__law_exact) (defBody s__law_exact) (defScope s__law_exact) [] [] (He.ga K "_law_exact") fd
  g__law_swept : mg "_law_swept" = some (.ref (He.ga K "_law_swept"))
  d__law_swept : ∃ fd, FunD K "_law_swept" "_law_swept" (defArgs s__law_swept) (defBody s__law_swept) (defScope s__law_swept) [] [] (He.ga K "_law_swept") fd
  g__law_times : mg "_law_times" = some (.ref (He.ga K "_law_times"))
  d__law_times : ∃ fd, FunD K "_law_times" "_law_times" (defArgs s__law_times) (defBody s__law_times) (defScope s__law_times) [] [] (He.ga K "_law_times") fd
  g__law_is_right : mg "_law_is_right" = some (.ref (He.ga K "_law_is_right"))
  d__law_is_right : ∃ fd, FunD K "_law_is_right" "_law_is_right" (defArgs s__law_is_right) (defBody s__law_is_right) (defScope s__law_is_right) [] [] (He.ga K "_law_is_right") fd
  g__law_raised : mg "_law_raised" = some (.ref (He.ga K "_law_raised"))
  d__law_raised : ∃ fd, FunD K "_law_raised" "_law_raised" (defArgs s__law_raised) (defBody s__law_raised) (defScope s__law_raised) [] [] (He.ga K "_law_raised") fd
  g__law_ratio : mg "_law_ratio" = some (.ref (He.ga K "_law_ratio"))
  d__law_ratio : ∃ fd, FunD K "_law_ratio" "_law_ratio" (defArgs s__law_ratio) (defBody s__law_ratio) (defScope s__law_ratio) [] [] (He.ga K "_law_ratio") fd
  g_law : mg "law" = some (.ref (He.ga K "law"))
  d_law : ∃ fd, FunD K "law" "law" (defArgs s_law) (defBody s_law) (defScope s_law) [] [] (He.ga K "law") fd
  g_infinity : mg "infinity" = some (.ref (He.ga K "infinity"))
  g_nan : mg "nan" = some (.ref (He.ga K "nan"))
  g_Float : mg "Float" = some (.ref (He.ga K "Float"))
  g_InvalidArgument : mg "InvalidArgument" = some (.ref (He.ga K "InvalidArgument"))
  c_GREATEST_RANK : ∃ t, mg "GREATEST_RANK" = some (.int (9218868437227405312) t)
  c_HALF_ROOM : ∃ t, mg "HALF_ROOM" = some (.int (4503599627370496) t)
  c_LOWEST : ∃ t, mg "LOWEST" = some (.int (-1074) t)
  c_ROOM : ∃ t, mg "ROOM" = some (.int (9007199254740992) t)
  c_TOO_GREAT : ∃ t, mg "TOO_GREAT" = some (.int (1024) t)
  n_NotImplemented : mg "NotImplemented" = none
  n_abs : mg "abs" = none
  n_all : mg "all" = none
  n_any : mg "any" = none
  n_bool : mg "bool" = none
  n_divmod : mg "divmod" = none
  n_int : mg "int" = none
  n_isinstance : mg "isinstance" = none
  n_len : mg "len" = none
  n_list : mg "list" = none
  n_max : mg "max" = none
  n_min : mg "min" = none
  n_range : mg "range" = none
  n_str : mg "str" = none
  cf_Float : CF K
  f_Float : PySem.W.kitOne K (.type "int") (.ref (He.ga K "Float")) = some false
  e_Float : PySem.W.findIn K (.ref (FC K)) "__eq__" = some (some (.ref (He.ma K (FC K) "__eq__")))
local macro_rules | `(tactic| wtm_at "hp") => `(tactic| first
  | with_reducible assumption
  | with_reducible exact upd_same
  | with_reducible exact sqt_of upd_same
  | with_reducible exact sql_of upd_same
  | with_reducible exact sqt_s1 (by assumption) (by wtm_at "sm")
  | with_reducible exact sqt_s2 (by assumption) (by wtm_at "sm")
  | with_reducible exact FO.same (by assumption) (by wtm_at "sm")
  | with_reducible exact sqt_all (by assumption)
  | with_reducible exact sql_s1 (by assumption) (by wtm_at "sm")
  | with_reducible exact sql_s2 (by assumption) (by wtm_at "sm")
  | with_reducible exact at_s1 (by assumption) (by wtm_at "sm"))
local macro_rules | `(tactic| wtm_at "sd") => `(tactic| first
  | exact cdw_all (by assumption)
  | exact wide_mul (by assumption) (by assumption) (by decide) (by decide) (Nat.le_of_ble_eq_true rfl)
  | exact Or.inl ⟨by omega, by omega⟩
  | exact Or.inr ⟨by omega, by omega⟩
  | exact ⟨by omega, by decide⟩
  | exact cdw_of (by omega) (by omega)
  | exact cpow_of (by omega) (by omega) (by omega)
  | (dsimp only; omega)
  | (show (0 : Int) < _; omega)
  | (show (0 : Int) ≤ _; omega))
local macro_rules | `(tactic| wtm_at "sx") => `(tactic| simp only [x_seq, x_next, x_brk, x_cont, x_never, x_drop, x_asg, x_name, x_sub, x_ret, x_retN, x_ifS, x_parD, x_par3D, x_c, x_op, x_un, x_test, x_tB, x_yes, x_not, x_and, x_or, x_andV, x_orV, x_notV, x_ifE, x_chain, x_nil, x_cons, x_tupD, x_lstD, x_call, x_callX, x_cb, x_forR1, x_forR2, x_forL, x_forT, x_bits, x_part, x_nopart, x_sl, x_bm0, x_bm, x_lcL, x_lcT, x_lcR1, x_aug, x_ipI, x_ib, x_bi, x_onelB, x_two, x_onel, x_disp, x_pairs0, x_pairsS, x_dget2, x_fld, x_fldT, x_meth0, x_make, x_sfld, x_eqIS, x_neIS,
  x_var0, x_var1, x_var2, x_var3, x_var4, x_var5, x_var6, x_var7, x_var8, x_var9, x_var10, x_var11, x_var12, x_var13, x_var14, x_var15, List.set_cons_zero, x_set1, x_set2, x_set3, x_set4, x_set5, x_set6, x_set7, x_set8, x_set9, x_set10, x_set11, x_set12, x_set13, x_set14, x_set15, x_i0, x_iC, x_uI, x_bl, x_eqI, x_neI, x_eqS, x_neS, x_par, x_par3, x_gnil, x_gcons, x_one, x_rt, x_nx, x_bk, x_ct, cx_K, cx_K1, List.append_nil, List.cons_append, List.nil_append, if_true, if_false, ite_not, decide_true, decide_false, Bool.not_true, Bool.not_false, Bool.false_eq_true, decide_eq_true_eq, Bool.not_eq_true', Bool.not_eq_false', decide_eq_false_iff_not, true_and, and_true, reduceCtorEq, Int.reduceLT, Int.reduceLE, Int.reduceToNat, false_and, exists_false, or_false, false_or, wipe, List.map_cons, List.map_nil])
local macro_rules | `(tactic| wtm_at "g1") => `(tactic| first
  | with_reducible refine g_i0 ?_
  | with_reducible refine g_sign (by assumption) (by wtm_at "hp") ?_
  | with_reducible refine g_top (by assumption) (by wtm_at "hp") ?_
  | with_reducible refine g_power (by assumption) (by wtm_at "hp") ?_
  | with_reducible refine isi_F (by assumption) (by wtm_at "hp") ?_
  | with_reducible refine isi_ll (by wtm_at "hp") ?_
  | with_reducible refine g_inT (bb := false) (by wtm_at "hp") rfl rfl inV_iS ?_
  | with_reducible refine g_notInT (bb := false) (by wtm_at "hp") rfl rfl inV_iS ?_
  | with_reducible refine g_iC (by k_dflt (wtm_at "sd")) ?_
  | with_reducible refine g_ixT (by wtm_at "hp") rfl ?_
  | with_reducible refine g_pY (by k_dflt (wtm_at "cd")) ?_
  | with_reducible refine g_pX (by k_dflt (wtm_at "cd")) ?_
  | with_reducible refine g_size (by k_dflt exact (Nat.le_of_ble_eq_true rfl)) ?_
  | with_reducible refine isi_ii ?_
  | with_reducible refine isi_ib ?_
  | with_reducible refine isi_ss ?_
  | with_reducible refine isi_tt (by wtm_at "hp") ?_
  | with_reducible refine isi_bb ?_
  | with_reducible refine isi_is ?_
  | with_reducible refine g_inT (bb := true) (by wtm_at "hp") rfl rfl (by decide +kernel) ?_
  | with_reducible refine g_inT (bb := false) (by wtm_at "hp") rfl rfl (by decide +kernel) ?_
  | with_reducible refine g_notInT (bb := true) (by wtm_at "hp") rfl rfl (by decide +kernel) ?_
  | with_reducible refine g_notInT (bb := false) (by wtm_at "hp") rfl rfl (by decide +kernel) ?_
  | with_reducible refine g_ixL (by wtm_at "hp") rfl ?_
  | with_reducible refine g_tup (by wtm_at "hp") rfl ?_
  | with_reducible refine g_bl ?_
  | with_reducible refine g_eqI ?_
  | with_reducible refine g_neI ?_
  | with_reducible refine g_lenT (by wtm_at "hp") ?_
  | with_reducible refine g_lenL (by wtm_at "hp") ?_
  | with_reducible refine g_tl4 (by wtm_at "hp") ?_
  | with_reducible refine g_tl3 (by wtm_at "hp") ?_
  | with_reducible refine g_slL (by wtm_at "hp") ?_
  | with_reducible refine g_listL (by wtm_at "hp") ?_
  | with_reducible refine g_setL (by wtm_at "hp") rfl ?_
  | (with_reducible refine g_newT ?_; intro p np hp)
  | (with_reducible refine g_newL ?_; intro p np hp)
  | (with_reducible refine g_all ?_; intro p np)
  | with_reducible refine ⟨by k_dflt (wtm_at "sd"), ?_⟩
  | wtm_at "u1")
local macro_rules | `(tactic| wtm_at "cd") => `(tactic| first | omega | decide +kernel)
local macro_rules | `(tactic| wtm_at "go") => `(tactic| ((try wtm_at "sx"); repeat (wtm_at "g1"; try wtm_at "sx")))
local macro_rules | `(tactic| wtm_at "sm") => `(tactic| first
  | with_reducible assumption
  | with_reducible exact Same.refl _
  | with_reducible exact same_new (by assumption)
  | (with_reducible refine Same.trans ?_ (same_new (by assumption)); wtm_at "sm")
  | (with_reducible refine same_mut ?_ (by wtm_at "fr"); wtm_at "sm")
  | (with_reducible refine Same.trans ?_ (by assumption); wtm_at "sm"))
local macro_rules | `(tactic| wtm_at "fr") => `(tactic| first
  | with_reducible assumption
  | with_reducible exact free2 (by assumption) (by wtm_at "sm"))

section
variable {P : Program} {w : World} {K : PySem.W.Frag} {mg : Str → Option Value} {base : Heap}
def sp_is_plain : Sp := fun vs H Q _ => ∃ n : Int, vs = [.int n] ∧ Ret (.bl true) H Q
theorem kn_is_plain (T : Tx K mg) : Kn P w K mg base 1 "is_plain" ["number"] (sp_is_plain) := by
  obtain ⟨fd, F⟩ := T.d_is_plain
  refine kn_mk F T.g_is_plain sc_is_plain (fun _ _ _ _ _ _ us hl => match us, hl with | [_], _ => rfl) (fun vs H Q E h => ?_) (fun cdv A outer s H vs Q E hr h => ?_)
  · obtain ⟨n, rfl, _⟩ := h
    rfl
  · obtain ⟨n, rfl, k⟩ := h
    refine ⟨_, (pss_one (ps_ret (pe_and (pe_callB (call_isiK1 K) (by rfl) T.n_isinstance (by decide +kernel) (pa_cons (pv 0) (pa_cons (pe_bltn (v := .ty "int") rfl T.n_int (by decide +kernel) rfl) pa_nil))) (pe_one (pe_not (pe_callB (call_isiK1 K) (by rfl) T.n_isinstance (by decide +kernel) (pa_cons (pv 0) (pa_cons (pe_bltn (v := .ty "bool") rfl T.n_bool (by decide +kernel) rfl) pa_nil)))))))), st_as (σ' := [some _]) rfl ?_⟩
    wtm_at "go"
    exact k _ (Same.refl _)
theorem use_is_plain {H : Hp} {Q : VK} {E : XK} {n : Int} (k : Ret (.bl true) H Q) : sp_is_plain [.int n] H Q E := ⟨n, rfl, k⟩
local macro_rules | `(tactic| wtm_at "u1") => `(tactic| (with_reducible refine use_is_plain ?_; intro H1 s1))
def sp_sign_of : Sp := fun vs H Q _ => ∃ b : Bool, vs = [.bl b] ∧ Ret (.int (if b then -1 else 1)) H Q
theorem kn_sign_of (T : Tx K mg) : Kn P w K mg base 1 "sign_of" ["is_negative"] (sp_sign_of) := by
  obtain ⟨fd, F⟩ := T.d_sign_of
  refine kn_mk F T.g_sign_of sc_sign_of (fun _ _ _ _ _ _ us hl => match us, hl with | [_], _ => rfl) (fun vs H Q E h => ?_) (fun cdv A outer s H vs Q E hr h => ?_)
  · obtain ⟨n, rfl, _⟩ := h
    rfl
  · obtain ⟨b, rfl, k⟩ := h
    refine ⟨_, (pss_one (ps_ret (pe_ifExp (pt_val (pv 0)) (pe_un un_neg pe_int) pe_int))), st_as (σ' := [some _]) rfl ?_⟩
    cases b
    · wtm_at "go"
      exact k _ (Same.refl _)
    · wtm_at "go"
      exact k _ (Same.refl _)
theorem use_sign_of {H : Hp} {Q : VK} {E : XK} {b : Bool} (k : Ret (.int (if b then -1 else 1)) H Q) : sp_sign_of [.bl b] H Q E := ⟨b, rfl, k⟩
local macro_rules | `(tactic| wtm_at "u1") => `(tactic| (with_reducible refine use_sign_of ?_; intro H1 s1))
def Red (t p t' p' : Int) : Prop := (t = 0 ∧ t' = 0 ∧ p' = 0) ∨ ∃ (z : Nat) (o : Int), t = 2 ^ z * (2 * o + 1) ∧ t' = t / 2 ^ z ∧ p' = p + z
def sp_reduced : Sp := fun vs H Q _ => ∃ t p t' p' : Int, vs = [.int t, .int p] ∧ Red t p t' p' ∧ RetT [.int t', .int p'] H Q
theorem kn_reduced (T : Tx K mg) : Kn P w K mg base 1 "reduced" ["top", "power"] (sp_reduced) := by
  obtain ⟨fd, F⟩ := T.d_reduced
  refine kn_mk F T.g_reduced sc_reduced (fun _ _ _ _ _ _ us hl => match us, hl with | [_, _], _ => rfl) (fun vs H Q E h => ?_) (fun cdv A outer s H vs Q E hr h => ?_)
  · obtain ⟨t, p, t', p', rfl, _⟩ := h
    rfl
  · obtain ⟨t, p, t', p', rfl, hR, k⟩ := h
    refine ⟨_, (pss_cons (ps_if (PW.pt (pw_or (pt_cmpR (op_inK K) (pv 0) (pe_tup (pa_cons pe_str (pa_cons pe_str pa_nil))) (by first | rfl | exact nomark _ | with_unfolding_all rfl)) (pw_or1 (pt_cmpR op_eq (pv 0) pe_int (nomark _))))) (pss_one (ps_ret (pe_tup (pa_cons (pv 0) (pa_cons pe_int pa_nil))))) pss_nil)
      (pss_cons (ps_set (i := 2) sc_reduced.nd rfl (Or.inl rfl) (pe_op op_sub (pe_bits (pe_op op_and (pv 0) (pe_op op_sub pe_int (pv 0)))) pe_int))
      (pss_one (ps_ret (pe_tup (pa_cons (pe_op op_shr (pv 0) (pv 2)) (pa_cons (pe_op op_add (pv 1) (pv 2)) pa_nil))))))), st_as (σ' := [some _, some _, none]) rfl ?_⟩
    rcases hR with ⟨rfl, rfl, rfl⟩ | ⟨z, o, h1, rfl, rfl⟩
    · wtm_at "go"
      exact k _ _ (by wtm_at "sm") (by wtm_at "fr") (by wtm_at "hp")
    · have h0 : t ≠ 0 := by
        have hz : (0 : Int) < 2 ^ z := Int.pow_pos (by decide)
        rw [h1]
        intro q
        rcases Int.mul_eq_zero.mp q with q | q <;> omega
      have eb : Builtin.bitAnd t (0 - t) = 2 ^ z := by rw [h1, Int.zero_sub]; exact PySem.W.kbt_low z o
      have e1 : ((Builtin.Int.intBits (Builtin.bitAnd t (0 - t)) : Nat) : Int) - 1 = (z : Int) := by rw [eb, bl_pow]; omega
      wtm_at "go"
      rw [e1, Int.toNat_natCast]
      exact k _ _ (by wtm_at "sm") (by wtm_at "fr") (by wtm_at "hp")
theorem use_reduced {H : Hp} {Q : VK} {E : XK} {t p t' p' : Int} (hR : Red t p t' p') (k : RetT [.int t', .int p'] H Q) : sp_reduced [.int t, .int p] H Q E := ⟨t, p, t', p', rfl, hR, k⟩
local macro_rules | `(tactic| wtm_at "u1") => `(tactic| (with_reducible refine use_reduced (by assumption) ?_; intro H1 p1 s1 n1 h1))
def sp_fits : Sp := fun vs H Q _ => ∃ t p v : Int, vs = [.int t, .int p] ∧ NF t p v ∧ Ret (.bl true) H Q
theorem kn_fits (T : Tx K mg) : Kn P w K mg base 1 "fits" ["top", "power"] (sp_fits) := by
  obtain ⟨fd, F⟩ := T.d_fits
  refine kn_mk F T.g_fits sc_fits (fun _ _ _ _ _ _ us hl => match us, hl with | [_, _], _ => rfl) (fun vs H Q E h => ?_) (fun cdv A outer s H vs Q E hr h => ?_)
  · obtain ⟨t, p, v, rfl, _⟩ := h
    rfl
  · obtain ⟨t, p, v, rfl, hN, k⟩ := h
    refine ⟨_, (pss_one (ps_ret (pe_or (pe_and (pe_cmpR op_lt (pv 0) (pe_gi T.c_ROOM) (nomark _)) (pe_and (pe_cmpR op_ge (pv 1) (pe_gi T.c_LOWEST) (nomark _)) (pe_one (pe_cmpR op_le (pe_op op_add (pe_bits (pv 0)) (pv 1)) (pe_gi T.c_TOO_GREAT) (nomark _))))) (pe_one (pe_cmpR op_eq (pv 0) pe_int (nomark _)))))), st_as (σ' := [some _, some _]) rfl ?_⟩
    have e0 : Builtin.Int.intBits 0 = 0 := rfl
    have eb := ib_eq t
    rcases hN.h with ⟨rfl, rfl⟩ | ⟨h1, h2, h3, h4, h5⟩
    · wtm_at "go"
      exact k _ (Same.refl _)
    · wtm_at "go"
      exact k _ (Same.refl _)
theorem use_fits {H : Hp} {Q : VK} {E : XK} {t p v : Int} (hN : NF t p v) (k : Ret (.bl true) H Q) : sp_fits [.int t, .int p] H Q E := ⟨t, p, v, rfl, hN, k⟩
local macro_rules | `(tactic| wtm_at "u1") => `(tactic| (with_reducible refine use_fits (by assumption) ?_; intro H1 s1))
theorem fit_red {t p v : Int} (h : Fit t p v) : ∃ t' p', Red t p t' p' ∧ NF t' p' v := by
  by_cases c : t = 0
  · subst c
    exact ⟨0, 0, .inl ⟨rfl, rfl, rfl⟩, fit_nf0 h⟩
  · obtain ⟨z, o, e⟩ := Mt.twos_of c
    exact ⟨_, _, .inr ⟨z, o, e, rfl, rfl⟩, fit_nf h e⟩
theorem fit_nn {t p v : Int} (h : Fit t p v) : 0 ≤ t := by
  rcases h with ⟨h, _⟩ | ⟨h, _⟩ <;> omega
def sp_Float___init__ (K : PySem.W.Frag) : Sp := fun vs H Q _ => ∃ (r : Addr) (s t p v : Int), vs = [.ref r, .int s, .int t, .int p] ∧ Sgn s ∧ Fit t p v ∧ (∃ dx, H r = some (.ins (FC K) dx [])) ∧ ∀ H' t' p', Sa r H H' → FO K H' r s t' p' → V3 s t' p' (s * v) → Q .non H'
theorem kn_Float (T : Tx K mg) : KnC P w K mg base 2 "Float" ["self", "sign", "top", "power"] (sp_Float___init__ K) := by
  obtain ⟨fd, F⟩ := T.d_Float___init__
  refine ⟨_, fd, fn_mk F sc_Float___init__ (fun vs H Q E h => ?_) (fun cdv A outer s H vs Q E hr h => ?_), T.k_Float, T.g_Float, F.bindsN (fun _ _ _ _ _ _ us hl => match us, hl with | [_, _, _, _], _ => rfl)⟩
  · obtain ⟨r, s0, t, p, v, rfl, _⟩ := h
    rfl
  · obtain ⟨r, s0, t, p, v, rfl, hs, hF, ⟨dx, hr0⟩, k⟩ := h
    refine ⟨_, (pss_cons (ps_if (PW.pt (pw_or (pt_not (pt_val (pc (kn_is_plain T) (hr.mono (by decide)) (pa_cons (pv 1) pa_nil)))) (pw_or1 (pt_cmpR (op_notInK K) (pv 1) (pe_tup (pa_cons pe_int (pa_cons (pe_un un_neg pe_int) pa_nil))) (by first | rfl | exact nomark _ | with_unfolding_all rfl))))) pss_never pss_nil)
      (pss_cons (ps_if (PW.pt (pw_and (pt_val (pe_callB (call_isiK1 K) (by rfl) T.n_isinstance (by decide +kernel) (pa_cons (pv 2) (pa_cons (pe_bltn (v := .ty "str") rfl T.n_str (by decide +kernel) rfl) pa_nil)))) (pw_and1 (pt_cmpR (op_inK K) (pv 2) (pe_tup (pa_cons pe_str (pa_cons pe_str pa_nil))) (by first | rfl | exact nomark _ | with_unfolding_all rfl))))) (pss_cons (ps_if (PW.pt (pw_and (pt_cmpR op_eq (pv 2) pe_str (nomark _)) (pw_and1 (pt_cmpR op_eq (pv 1) (pe_un un_neg pe_int) (nomark _))))) pss_never pss_nil)
      (pss_one (ps_if (PW.pt (pw_or (pt_not (pt_val (pc (kn_is_plain T) (hr.mono (by decide)) (pa_cons (pv 3) pa_nil)))) (pw_or1 (pt_cmpR op_ne (pv 3) pe_int (nomark _))))) pss_never pss_nil))) (pss_one (ps_if (PW.pt (pw_or (pt_not (pt_val (pc (kn_is_plain T) (hr.mono (by decide)) (pa_cons (pv 2) pa_nil)))) (pw_or1 (pt_cmpR op_lt (pv 2) pe_int (nomark _))))) pss_never (pss_one (ps_if (pt_not (pt_val (pc (kn_is_plain T) (hr.mono (by decide)) (pa_cons (pv 3) pa_nil)))) pss_never pss_nil)))))
      (pss_cons (ps_fld (pv 0) (pv 1) rfl)
      (pss_cons (ps_asg (pc (kn_reduced T) (hr.mono (by decide)) (pa_cons (pv 2) (pa_cons (pv 3) pa_nil))) (pg_tup (by rfl) (pgs_cons (pg_fld (pv 0)) (pgs_cons (pg_fld (pv 0)) pgs_nil))))
      (pss_one (ps_if (PW.pt (pw_and (pt_cmpR (op_notInK K) (pe_fldK K (pv 0)) (pe_tup (pa_cons pe_str (pa_cons pe_str pa_nil))) (by first | rfl | exact nomark _ | with_unfolding_all rfl)) (pw_and1 (pt_not (pt_val (pc (kn_fits T) (hr.mono (by decide)) (pa_cons (pe_fldK K (pv 0)) (pa_cons (pe_fldK K (pv 0)) pa_nil)))))))) pss_never pss_nil)))))), st_as (σ' := [some _, some _, some _, some _]) rfl ?_⟩
    obtain ⟨t', p', hR, hN⟩ := fit_red hF
    have ht := fit_nn hF
    have CFK := T.cf_Float
    have hv : V3 s0 t' p' (s0 * v) := ⟨hs, v, hN, rfl⟩
    rcases hs with rfl | rfl
    all_goals
      wtm_at "go"
      rename_i G1 t1 q1 m1 e1 G2 t2 G3 t3
      have hr1 : G3 r = some (.ins (FC K) dx []) := by wtm_at "hp"
      refine g_ini1 CFK hr1 (Sa.of (by wtm_at "sm") : Sa r H G3) fun hr2 a1 => ?_
      wtm_at "go"
      rename_i G4 q4 t4 m4 e4
      refine g_ini2 CFK (t4 _ _ hr2) (a1.trans (Sa.of t4)) fun hr4 a2 => ?_
      wtm_at "go"
      refine g_ini3 CFK hr4 a2 fun hFO a3 => ?_
      wtm_at "go"
      rename_i G5 t5
      exact k _ _ _ (a3.trans (Sa.of (by wtm_at "sm"))) (by wtm_at "hp") hv
theorem use_Float {H : Hp} {Q : VK} {s t p v : Int} (hs : Sgn s) (hF : Fit t p v) (k : ∀ H' r t' p', Same H H' → H r = none → FO K H' r s t' p' → V3 s t' p' (s * v) → Q (.ref r) H') : MakeG (FC K) (sp_Float___init__ K) [.int s, .int t, .int p] H Q := by
  intro x dx nx ndx ne
  refine ⟨x, s, t, p, v, rfl, hs, hF, ⟨dx, upd_same⟩, fun H' t' p' a f z => ⟨rfl, k H' x t' p' (fun b o e => ?_) nx f z⟩⟩
  have nb : b ≠ x := ne_of_none e nx
  exact a b o (by rw [upd_ne nb, upd_ne (ne_of_none e ndx)]; exact e) nb
local macro_rules | `(tactic| wtm_at "u1") => `(tactic| (with_reducible refine use_Float (by assumption) (by assumption) ?_; intro H1 r1 t1 p1 s1 n1 f1 v1))
theorem u_le : (2 : Nat) ^ 53 ≤ 2 ^ 9000 := Nat.pow_le_pow_right (by decide) (by decide)
def sp_Float_is_finite (K : PySem.W.Frag) : Sp := fun vs H Q _ => ∃ (r : Addr) (s t p : Int), vs = [.ref r] ∧ FO K H r s t p ∧ Ret (.bl true) H Q
theorem kn_Float_is_finite (T : Tx K mg) : KnM P w K mg base 1 (He.ga K "Float") "is_finite" ["self"] (sp_Float_is_finite K) := by
  obtain ⟨fd, F⟩ := T.d_Float_is_finite
  refine ⟨_, fd, fn_mk F sc_Float_is_finite (fun vs H Q E h => ?_) (fun cdv A outer s H vs Q E hr h => ?_), T.m_Float_is_finite, F.bindsN (fun _ _ _ _ _ _ us hl => match us, hl with | [_], _ => rfl)⟩
  · obtain ⟨r, s0, t, p, rfl, _⟩ := h
    rfl
  · obtain ⟨r, s0, t, p, rfl, hf, k⟩ := h
    refine ⟨_, (pss_one (ps_ret (pe_callB (call_isiK1 K) (by rfl) T.n_isinstance (by decide +kernel) (pa_cons (pe_fldK K (pv 0)) (pa_cons (pe_bltn (v := .ty "int") rfl T.n_int (by decide +kernel) rfl) pa_nil))))), st_as (σ' := [some _]) rfl ?_⟩
    have CFK := T.cf_Float
    wtm_at "go"
    exact k _ (Same.refl _)
theorem use_Float_is_finite {H : Hp} {Q : VK} {r : Addr} {s t p : Int} (hf : FO K H r s t p) (k : Ret (.bl true) H Q) : MethG (FC K) "is_finite" (sp_Float_is_finite K) (.ref r) H Q := g_methF hf rfl ⟨r, s, t, p, rfl, hf, k⟩
local macro_rules | `(tactic| wtm_at "u1") => `(tactic| (with_reducible refine use_Float_is_finite (by wtm_at "hp") ?_; intro H1 s1))
theorem V3.small {s t p v : Int} (h : V3 s t p v) : (s = 1 ∨ s = -1) ∧ 0 ≤ t ∧ t < 9007199254740992 ∧ -1074 ≤ p ∧ p ≤ 1024 := by
  obtain ⟨hs, w, n, _⟩ := h
  exact ⟨hs, n.nonneg, n.tlt, n.p0, n.p1⟩
theorem shl_c {i j : Int} {b : Nat} (h : i.natAbs < 2 ^ b) (h0 : 0 ≤ j) (h1 : (b : Int) + j ≤ 100000) : CShl i j := by
  have := shl_ok (i := i) (j := j.toNat) (n := b) h (by omega)
  rwa [Int.toNat_of_nonneg h0] at this
theorem lt53 {t : Int} (h0 : 0 ≤ t) (h1 : t < 9007199254740992) : t.natAbs < 2 ^ 53 := by
  have e : (2 : Nat) ^ 53 = 9007199254740992 := by decide
  omega
theorem s_mul {s x : Int} {b : Nat} (hs : s = 1 ∨ s = -1) (h : x.natAbs < 2 ^ b) (hb : b ≤ 100000) : CMulW s x := by
  refine wide_mul (a := 1) (b := b + 1) (by rcases hs with rfl | rfl <;> decide) (Nat.lt_of_lt_of_le h (Nat.pow_le_pow_right (by decide) (by omega))) (by decide) (by omega) (by omega)
def sp_Float_ratio (K : PySem.W.Frag) : Sp := fun vs H Q _ => ∃ (r : Addr) (s t p v : Int), vs = [.ref r] ∧ FO K H r s t p ∧ V3 s t p v ∧ RetT [.int (rtop s t p), .int (rbot p)] H Q
theorem kn_Float_ratio (T : Tx K mg) : KnM P w K mg base 1 (He.ga K "Float") "ratio" ["self"] (sp_Float_ratio K) := by
  obtain ⟨fd, F⟩ := T.d_Float_ratio
  refine ⟨_, fd, fn_mk F sc_Float_ratio (fun vs H Q E h => ?_) (fun cdv A outer s H vs Q E hr h => ?_), T.m_Float_ratio, F.bindsN (fun _ _ _ _ _ _ us hl => match us, hl with | [_], _ => rfl)⟩
  · obtain ⟨r, s0, t, p, v, rfl, _⟩ := h
    rfl
  · obtain ⟨r, s0, t, p, v, rfl, hf, hv, k⟩ := h
    refine ⟨_, (pss_cons (ps_if (pt_cmpR op_lt (pe_fldK K (pv 0)) pe_int (nomark _)) (pss_one (ps_ret (pe_tup (pa_cons (pe_op op_mul (pe_fldK K (pv 0)) (pe_fldK K (pv 0))) (pa_cons (pe_op op_shl pe_int (pe_op op_sub pe_int (pe_fldK K (pv 0)))) pa_nil))))) pss_nil)
      (pss_one (ps_ret (pe_tup (pa_cons (pe_op op_mul (pe_fldK K (pv 0)) (pe_op op_shl (pe_fldK K (pv 0)) (pe_fldK K (pv 0)))) (pa_cons pe_int pa_nil)))))), st_as (σ' := [some _]) rfl ?_⟩
    have CFK := T.cf_Float
    obtain ⟨hs, t0, t1, p0, p1⟩ := V3.small hv
    have l53 := lt53 t0 t1
    unfold rtop rbot at k
    wtm_at "go"
    by_cases c : p < 0
    · rw [if_pos c, if_pos c] at k
      wtm_at "go"
      rw [Int.one_mul]
      exact k _ _ (by wtm_at "sm") (by wtm_at "fr") (by wtm_at "hp")
    · rw [if_neg c, if_neg c] at k
      wtm_at "go"
      exact k _ _ (by wtm_at "sm") (by wtm_at "fr") (by wtm_at "hp")
theorem use_Float_ratio {H : Hp} {Q : VK} {r : Addr} {s t p v : Int} (hf : FO K H r s t p) (hv : V3 s t p v) (k : RetT [.int (rtop s t p), .int (rbot p)] H Q) : MethG (FC K) "ratio" (sp_Float_ratio K) (.ref r) H Q := g_methF hf rfl ⟨r, s, t, p, v, rfl, hf, hv, k⟩
local macro_rules | `(tactic| wtm_at "u1") => `(tactic| (with_reducible refine use_Float_ratio (by wtm_at "hp") (by assumption) ?_; intro H1 p1 s1 n1 h1))
end
end W85

set_option maxHeartbeats 4000000
set_option exponentiation.threshold 9000
namespace W85
open PySem PySem.Spec PyProof.Rows L2 WK Fm
local macro_rules | `(tactic| wtm_at "hp") => `(tactic| first
  | with_reducible assumption
  | with_reducible exact upd_same
  | with_reducible exact sqt_of upd_same
  | with_reducible exact sql_of upd_same
  | with_reducible exact sqt_s1 (by assumption) (by wtm_at "sm")
  | with_reducible exact sqt_s2 (by assumption) (by wtm_at "sm")
  | with_reducible exact FO.same (by assumption) (by wtm_at "sm")
  | with_reducible exact sqt_all (by assumption)
  | with_reducible exact sql_s1 (by assumption) (by wtm_at "sm")
  | with_reducible exact sql_s2 (by assumption) (by wtm_at "sm")
  | with_reducible exact at_s1 (by assumption) (by wtm_at "sm"))
local macro_rules | `(tactic| wtm_at "sd") => `(tactic| first
  | exact cdw_all (by assumption)
  | exact wide_mul (by assumption) (by assumption) (by decide) (by decide) (Nat.le_of_ble_eq_true rfl)
  | exact Or.inl ⟨by omega, by omega⟩
  | exact Or.inr ⟨by omega, by omega⟩
  | exact ⟨by omega, by decide⟩
  | exact cdw_of (by omega) (by omega)
  | exact cpow_of (by omega) (by omega) (by omega)
  | (dsimp only; omega)
  | (show (0 : Int) < _; omega)
  | (show (0 : Int) ≤ _; omega))
local macro_rules | `(tactic| wtm_at "sx") => `(tactic| simp only [x_seq, x_next, x_brk, x_cont, x_never, x_drop, x_asg, x_name, x_sub, x_ret, x_retN, x_ifS, x_parD, x_par3D, x_c, x_op, x_un, x_test, x_tB, x_yes, x_not, x_and, x_or, x_andV, x_orV, x_notV, x_ifE, x_chain, x_nil, x_cons, x_tupD, x_lstD, x_call, x_callX, x_cb, x_forR1, x_forR2, x_forL, x_forT, x_bits, x_part, x_nopart, x_sl, x_bm0, x_bm, x_lcL, x_lcT, x_lcR1, x_aug, x_ipI, x_ib, x_bi, x_onelB, x_two, x_onel, x_disp, x_pairs0, x_pairsS, x_dget2, x_fld, x_fldT, x_meth0, x_make, x_sfld, x_eqIS, x_neIS,
  x_var0, x_var1, x_var2, x_var3, x_var4, x_var5, x_var6, x_var7, x_var8, x_var9, x_var10, x_var11, x_var12, x_var13, x_var14, x_var15, List.set_cons_zero, x_set1, x_set2, x_set3, x_set4, x_set5, x_set6, x_set7, x_set8, x_set9, x_set10, x_set11, x_set12, x_set13, x_set14, x_set15, x_i0, x_iC, x_uI, x_bl, x_eqI, x_neI, x_eqS, x_neS, x_par, x_par3, x_gnil, x_gcons, x_one, x_rt, x_nx, x_bk, x_ct, cx_K, cx_K1, List.append_nil, List.cons_append, List.nil_append, if_true, if_false, ite_not, decide_true, decide_false, Bool.not_true, Bool.not_false, Bool.false_eq_true, decide_eq_true_eq, Bool.not_eq_true', Bool.not_eq_false', decide_eq_false_iff_not, true_and, and_true, reduceCtorEq, Int.reduceLT, Int.reduceLE, Int.reduceToNat, false_and, exists_false, or_false, false_or, wipe, List.map_cons, List.map_nil])
local macro_rules | `(tactic| wtm_at "g1") => `(tactic| first
  | with_reducible refine g_i0 ?_
  | with_reducible refine g_sign (by assumption) (by wtm_at "hp") ?_
  | with_reducible refine g_top (by assumption) (by wtm_at "hp") ?_
  | with_reducible refine g_power (by assumption) (by wtm_at "hp") ?_
  | with_reducible refine isi_F (by assumption) (by wtm_at "hp") ?_
  | with_reducible refine isi_ll (by wtm_at "hp") ?_
  | with_reducible refine g_inT (bb := false) (by wtm_at "hp") rfl rfl inV_iS ?_
  | with_reducible refine g_notInT (bb := false) (by wtm_at "hp") rfl rfl inV_iS ?_
  | with_reducible refine g_iC (by k_dflt (wtm_at "sd")) ?_
  | with_reducible refine g_ixT (by wtm_at "hp") rfl ?_
  | with_reducible refine g_pY (by k_dflt (wtm_at "cd")) ?_
  | with_reducible refine g_pX (by k_dflt (wtm_at "cd")) ?_
  | with_reducible refine g_size (by k_dflt exact (Nat.le_of_ble_eq_true rfl)) ?_
  | with_reducible refine isi_ii ?_
  | with_reducible refine isi_ib ?_
  | with_reducible refine isi_ss ?_
  | with_reducible refine isi_tt (by wtm_at "hp") ?_
  | with_reducible refine isi_bb ?_
  | with_reducible refine isi_is ?_
  | with_reducible refine g_inT (bb := true) (by wtm_at "hp") rfl rfl (by decide +kernel) ?_
  | with_reducible refine g_inT (bb := false) (by wtm_at "hp") rfl rfl (by decide +kernel) ?_
  | with_reducible refine g_notInT (bb := true) (by wtm_at "hp") rfl rfl (by decide +kernel) ?_
  | with_reducible refine g_notInT (bb := false) (by wtm_at "hp") rfl rfl (by decide +kernel) ?_
  | with_reducible refine g_ixL (by wtm_at "hp") rfl ?_
  | with_reducible refine g_tup (by wtm_at "hp") rfl ?_
  | with_reducible refine g_bl ?_
  | with_reducible refine g_eqI ?_
  | with_reducible refine g_neI ?_
  | with_reducible refine g_lenT (by wtm_at "hp") ?_
  | with_reducible refine g_lenL (by wtm_at "hp") ?_
  | with_reducible refine g_tl4 (by wtm_at "hp") ?_
  | with_reducible refine g_tl3 (by wtm_at "hp") ?_
  | with_reducible refine g_slL (by wtm_at "hp") ?_
  | with_reducible refine g_listL (by wtm_at "hp") ?_
  | with_reducible refine g_setL (by wtm_at "hp") rfl ?_
  | (with_reducible refine g_newT ?_; intro p np hp)
  | (with_reducible refine g_newL ?_; intro p np hp)
  | (with_reducible refine g_all ?_; intro p np)
  | with_reducible refine ⟨by k_dflt (wtm_at "sd"), ?_⟩
  | wtm_at "u1")
local macro_rules | `(tactic| wtm_at "cd") => `(tactic| first | omega | decide +kernel)
local macro_rules | `(tactic| wtm_at "go") => `(tactic| ((try wtm_at "sx"); repeat (wtm_at "g1"; try wtm_at "sx")))
local macro_rules | `(tactic| wtm_at "sm") => `(tactic| first
  | with_reducible assumption
  | with_reducible exact Same.refl _
  | with_reducible exact same_new (by assumption)
  | (with_reducible refine Same.trans ?_ (same_new (by assumption)); wtm_at "sm")
  | (with_reducible refine same_mut ?_ (by wtm_at "fr"); wtm_at "sm")
  | (with_reducible refine Same.trans ?_ (by assumption); wtm_at "sm"))
local macro_rules | `(tactic| wtm_at "fr") => `(tactic| first
  | with_reducible assumption
  | with_reducible exact free2 (by assumption) (by wtm_at "sm"))

local macro_rules | `(tactic| wtm_at "u1") => `(tactic| (with_reducible refine use_is_plain ?_; intro H1 s1))
local macro_rules | `(tactic| wtm_at "u1") => `(tactic| (with_reducible refine use_sign_of ?_; intro H1 s1))
local macro_rules | `(tactic| wtm_at "u1") => `(tactic| (with_reducible refine use_reduced (by assumption) ?_; intro H1 p1 s1 n1 h1))
local macro_rules | `(tactic| wtm_at "u1") => `(tactic| (with_reducible refine use_fits (by assumption) ?_; intro H1 s1))
local macro_rules | `(tactic| wtm_at "u1") => `(tactic| (with_reducible refine use_Float (by assumption) (by assumption) ?_; intro H1 r1 t1 p1 s1 n1 f1 v1))
local macro_rules | `(tactic| wtm_at "u1") => `(tactic| (with_reducible refine use_Float_is_finite (by wtm_at "hp") ?_; intro H1 s1))
local macro_rules | `(tactic| wtm_at "u1") => `(tactic| (with_reducible refine use_Float_ratio (by wtm_at "hp") (by assumption) ?_; intro H1 p1 s1 n1 h1))
section
variable {P : Program} {w : World} {K : PySem.W.Frag} {mg : Str → Option Value} {base : Heap}
def sp_is_number (K : PySem.W.Frag) : Sp := fun vs H Q _ => ∃ (r : Addr) (s t p : Int), vs = [.ref r] ∧ FO K H r s t p ∧ Ret (.bl true) H Q
theorem kn_is_number (T : Tx K mg) : Kn P w K mg base 2 "is_number" ["thing"] (sp_is_number K) := by
  obtain ⟨fd, F⟩ := T.d_is_number
  refine kn_mk F T.g_is_number sc_is_number (fun _ _ _ _ _ _ us hl => match us, hl with | [_], _ => rfl) (fun vs H Q E h => ?_) (fun cdv A outer s H vs Q E hr h => ?_)
  · obtain ⟨r, s0, t, p, rfl, _⟩ := h
    rfl
  · obtain ⟨r, s0, t, p, rfl, hf, k⟩ := h
    refine ⟨_, (pss_one (ps_ret (pe_or (pe_callB (call_isiK1 K) (by rfl) T.n_isinstance (by decide +kernel) (pa_cons (pv 0) (pa_cons (pe_gr T.g_Float) pa_nil))) (pe_one (pc (kn_is_plain T) (hr.mono (by decide)) (pa_cons (pv 0) pa_nil)))))), st_as (σ' := [some _]) rfl ?_⟩
    have CFK := T.cf_Float
    wtm_at "go"
    exact k _ (by wtm_at "sm")
theorem use_is_number {H : Hp} {Q : VK} {E : XK} {r : Addr} {s t p : Int} (hf : FO K H r s t p) (k : Ret (.bl true) H Q) : sp_is_number K [.ref r] H Q E := ⟨r, s, t, p, rfl, hf, k⟩
local macro_rules | `(tactic| wtm_at "u1") => `(tactic| (with_reducible refine use_is_number (by wtm_at "hp") ?_; intro H1 s1))
def sp_is_finite_float (K : PySem.W.Frag) : Sp := fun vs H Q _ => ∃ (r : Addr) (s t p : Int), vs = [.ref r] ∧ FO K H r s t p ∧ Ret (.bl true) H Q
theorem kn_is_finite_float (T : Tx K mg) : Kn P w K mg base 2 "is_finite_float" ["thing"] (sp_is_finite_float K) := by
  obtain ⟨fd, F⟩ := T.d_is_finite_float
  refine kn_mk F T.g_is_finite_float sc_is_finite_float (fun _ _ _ _ _ _ us hl => match us, hl with | [_], _ => rfl) (fun vs H Q E h => ?_) (fun cdv A outer s H vs Q E hr h => ?_)
  · obtain ⟨r, s0, t, p, rfl, _⟩ := h
    rfl
  · obtain ⟨r, s0, t, p, rfl, hf, k⟩ := h
    refine ⟨_, (pss_one (ps_ret (pe_and (pe_callB (call_isiK1 K) (by rfl) T.n_isinstance (by decide +kernel) (pa_cons (pv 0) (pa_cons (pe_gr T.g_Float) pa_nil))) (pe_one (pcm0 T.cf_Float.cls (kn_Float_is_finite T) (hr.mono (by decide)) (pv 0)))))), st_as (σ' := [some _]) rfl ?_⟩
    have CFK := T.cf_Float
    wtm_at "go"
    exact k _ (by wtm_at "sm")
theorem use_is_finite_float {H : Hp} {Q : VK} {E : XK} {r : Addr} {s t p : Int} (hf : FO K H r s t p) (k : Ret (.bl true) H Q) : sp_is_finite_float K [.ref r] H Q E := ⟨r, s, t, p, rfl, hf, k⟩
local macro_rules | `(tactic| wtm_at "u1") => `(tactic| (with_reducible refine use_is_finite_float (by wtm_at "hp") ?_; intro H1 s1))
def sp_check_finite (K : PySem.W.Frag) : Sp := fun vs H Q _ => ∃ (r : Addr) (z : Str) (s t p : Int), vs = [.ref r, .str z] ∧ FO K H r s t p ∧ Ret .non H Q
theorem kn_check_finite (T : Tx K mg) : Kn P w K mg base 3 "check_finite" ["number", "part"] (sp_check_finite K) := by
  obtain ⟨fd, F⟩ := T.d_check_finite
  refine kn_mk F T.g_check_finite sc_check_finite (fun _ _ _ _ _ _ us hl => match us, hl with | [_, _], _ => rfl) (fun vs H Q E h => ?_) (fun cdv A outer s H vs Q E hr h => ?_)
  · obtain ⟨r, z, s0, t, p, rfl, _⟩ := h
    rfl
  · obtain ⟨r, z, s0, t, p, rfl, hf, k⟩ := h
    refine ⟨_, (pss_one (ps_if (pt_not (pt_val (pc (kn_is_finite_float T) (hr.mono (by decide)) (pa_cons (pv 0) pa_nil)))) pss_never pss_nil)), st_as (σ' := [some _, some _]) rfl ?_⟩
    have CFK := T.cf_Float
    wtm_at "go"
    exact k _ (by wtm_at "sm")
theorem use_check_finite {H : Hp} {Q : VK} {E : XK} {r : Addr} {z : Str} {s t p : Int} (hf : FO K H r s t p) (k : Ret .non H Q) : sp_check_finite K [.ref r, .str z] H Q E := ⟨r, z, s, t, p, rfl, hf, k⟩
def sp_as_fraction (K : PySem.W.Frag) : Sp := fun vs H Q _ => ∃ (r : Addr) (s t p v : Int), vs = [.ref r] ∧ FO K H r s t p ∧ V3 s t p v ∧ RetT [.int (rtop s t p), .int (rbot p)] H Q
theorem kn_as_fraction (T : Tx K mg) : Kn P w K mg base 2 "as_fraction" ["number"] (sp_as_fraction K) := by
  obtain ⟨fd, F⟩ := T.d_as_fraction
  refine kn_mk F T.g_as_fraction sc_as_fraction (fun _ _ _ _ _ _ us hl => match us, hl with | [_], _ => rfl) (fun vs H Q E h => ?_) (fun cdv A outer s H vs Q E hr h => ?_)
  · obtain ⟨r, s0, t, p, v, rfl, _⟩ := h
    rfl
  · obtain ⟨r, s0, t, p, v, rfl, hf, hv, k⟩ := h
    refine ⟨_, (pss_one (ps_ret (pe_ifExp (pt_val (pe_callB (call_isiK1 K) (by rfl) T.n_isinstance (by decide +kernel) (pa_cons (pv 0) (pa_cons (pe_gr T.g_Float) pa_nil)))) (pcm0 T.cf_Float.cls (kn_Float_ratio T) (hr.mono (by decide)) (pv 0)) (pe_tup (pa_cons (pv 0) (pa_cons pe_int pa_nil)))))), st_as (σ' := [some _]) rfl ?_⟩
    have CFK := T.cf_Float
    wtm_at "go"
    exact k _ _ (by wtm_at "sm") (by wtm_at "fr") (by wtm_at "hp")
theorem use_as_fraction {H : Hp} {Q : VK} {E : XK} {r : Addr} {s t p v : Int} (hf : FO K H r s t p) (hv : V3 s t p v) (k : RetT [.int (rtop s t p), .int (rbot p)] H Q) : sp_as_fraction K [.ref r] H Q E := ⟨r, s, t, p, v, rfl, hf, hv, k⟩
/-- a new float of a value -/
abbrev RetF (K : PySem.W.Frag) (s v : Int) (H : Hp) (Q : VK) : Prop := ∀ H' r t p, Same H H' → H r = none → FO K H' r s t p → V3 s t p v → Q (.ref r) H'
def sp_nearest (K : PySem.W.Frag) : Sp := fun vs H Q _ => ∃ (s a b : Int) (k N : Nat), vs = [.int s, .int a, .int b] ∧ Sgn s ∧ 0 ≤ a ∧ b = 2 ^ k ∧ k ≤ 4000 ∧ a * 2 ^ 1074 = (N : Int) * 2 ^ k ∧ N ≤ 2 ^ 2097 ∧ RetF K s (s * (rndN N : Nat)) H Q
theorem kn_nearest (T : Tx K mg) : Kn P w K mg base 5 "nearest" ["sign", "top", "bottom"] (sp_nearest K) := by
  obtain ⟨fd, F⟩ := T.d_nearest
  refine kn_mk F T.g_nearest sc_nearest (fun _ _ _ _ _ _ us hl => match us, hl with | [_, _, _], _ => rfl) (fun vs H Q E h => ?_) (fun cdv A outer s H vs Q E hr h => ?_)
  · obtain ⟨s0, a, b, k, N, rfl, _⟩ := h
    rfl
  · obtain ⟨s0, a, b, k, N, rfl, hs, ha, rfl, hk, hN, hM, q⟩ := h
    refine ⟨_, (pss_cons (ps_if (pt_cmpR op_eq (pv 1) pe_int (nomark _)) (pss_one (ps_ret (pcM (kn_Float T) (hr.mono (by decide)) (pa_cons (pv 0) (pa_cons pe_int (pa_cons pe_int pa_nil)))))) pss_nil)
      (pss_cons (ps_set (i := 3) sc_nearest.nd rfl (Or.inl rfl) (pe_callB (call_max2 rfl) (by rfl) T.n_max (by decide +kernel) (pa_cons (pe_op op_sub (pe_op op_sub (pe_bits (pv 1)) (pe_bits (pv 2))) pe_int) (pa_cons (pe_gi T.c_LOWEST) pa_nil))))
      (pss_cons (ps_if (pt_cmpR op_lt (pv 3) pe_int (nomark _)) (pss_one (ps_set (i := 1) sc_nearest.nd rfl (Or.inl rfl) (pe_op op_shlW (pv 1) (pe_op op_sub pe_int (pv 3))))) (pss_one (ps_set (i := 2) sc_nearest.nd rfl (Or.inl rfl) (pe_op op_shlW (pv 2) (pv 3)))))
      (pss_cons (ps_if (pt_cmpR op_ge (pe_op op_fdivW (pv 1) (pv 2)) (pe_gi T.c_ROOM) (nomark _)) (pss_cons (ps_set (i := 2) sc_nearest.nd rfl (Or.inl rfl) (pe_op op_shlW (pv 2) pe_int))
      (pss_one (ps_set (i := 3) sc_nearest.nd rfl (Or.inl rfl) (pe_op op_add (pv 3) pe_int)))) pss_nil)
      (pss_cons (ps_asg (pe_callB call_divmodW (by rfl) T.n_divmod (by decide +kernel) (pa_cons (pv 1) (pa_cons (pv 2) pa_nil))) (pg_tup (by rfl) (pgs_cons (pg_name (i := 4) sc_nearest.nd rfl (Or.inl rfl)) (pgs_cons (pg_name (i := 5) sc_nearest.nd rfl (Or.inl rfl)) pgs_nil))))
      (pss_cons (ps_if (PW.pt (pw_or (pt_cmpR op_gt (pe_op op_mulW pe_int (pv 5)) (pv 2) (nomark _)) (pw_or1 (PW.pt (pw_and (pt_cmpR op_eq (pe_op op_mulW pe_int (pv 5)) (pv 2) (nomark _)) (pw_and1 (pt_cmpR op_eq (pe_op op_and (pv 4) pe_int) pe_int (nomark _)))))))) (pss_one (ps_set (i := 4) sc_nearest.nd rfl (Or.inl rfl) (pe_op op_add (pv 4) pe_int))) pss_nil)
      (pss_cons (ps_if (pt_cmpR op_gt (pe_op op_add (pe_bits (pv 4)) (pv 3)) (pe_gi T.c_TOO_GREAT) (nomark _)) pss_never pss_nil)
      (pss_one (ps_ret (pcM (kn_Float T) (hr.mono (by decide)) (pa_cons (pv 0) (pa_cons (pv 4) (pa_cons (pv 3) pa_nil))))))))))))), st_as (σ' := [some _, some _, some _, none, none, none]) rfl ?_⟩
    have CFK := T.cf_Float
    have F0 : Fit 0 0 0 := .inl ⟨rfl, rfl⟩
    have ea := ib_eq a
    have eb := bl_pow k
    by_cases c : a = 0
    · subst c
      have N0 : N = 0 := by
        have z : (N : Int) * 2 ^ k = 0 := by rw [← hN, Int.zero_mul]
        rcases Int.mul_eq_zero.mp z with z | z
        · omega
        · have : (0 : Int) < 2 ^ k := Int.pow_pos (by decide)
          omega
      subst N0
      wtm_at "go"
      exact q _ _ _ _ (by wtm_at "sm") (by wtm_at "fr") (by wtm_at "hp") (by rw [rndN_zero]; assumption)
    · obtain ⟨hb, hN0⟩ := near_bits (by omega) hN
      wtm_at "go"
      have eP : (if (-1074 : Int) > (Builtin.Int.intBits a : Int) - (Builtin.Int.intBits (2 ^ k) : Int) - 53 then -1074 else (Builtin.Int.intBits a : Int) - (Builtin.Int.intBits (2 ^ k) : Int) - 53) = ((bits N - 54 : Nat) : Int) - 1074 := by
        split <;> omega
      rw [eP]
      have bN : bits N ≤ 2098 := bits_le.mpr (Nat.lt_of_le_of_lt hM (Nat.pow_lt_pow_right (by decide) (by decide)))
      have mid : ∃ (a1 : Int) (k1 : Nat), k1 ≤ 6000 ∧ 0 < a1 ∧ a1 * 2 ^ (bits N - 54) = (N : Int) * 2 ^ k1 ∧
          ((((bits N - 54 : Nat) : Int) - 1074 < 0 ∧ a1 = a * 2 ^ (0 - (((bits N - 54 : Nat) : Int) - 1074)).toNat ∧ (2 : Int) ^ k1 = 2 ^ k) ∨ (¬ ((bits N - 54 : Nat) : Int) - 1074 < 0 ∧ a1 = a ∧ (2 : Int) ^ k1 = 2 ^ k * 2 ^ (((bits N - 54 : Nat) : Int) - 1074).toNat)) := by
        by_cases c2 : ((bits N - 54 : Nat) : Int) - 1074 < 0
        · refine ⟨_, k, by omega, Int.mul_pos (show 0 < a by omega) (Int.pow_pos (by decide)), ?_, .inl ⟨c2, rfl, rfl⟩⟩
          rw [Int.mul_assoc, ← Int.pow_add, show (0 - (((bits N - 54 : Nat) : Int) - 1074)).toNat + (bits N - 54) = 1074 by omega]
          exact hN
        · refine ⟨a, k + (((bits N - 54 : Nat) : Int) - 1074).toNat, by omega, by omega, ?_, .inr ⟨c2, rfl, by rw [Int.pow_add]⟩⟩
          rw [Int.pow_add, ← Int.mul_assoc, ← hN, Int.mul_assoc, ← Int.pow_add]
          congr 2
          omega
      obtain ⟨a1, k1, hk1, ha1, hA, hc⟩ := mid
      have la : a.natAbs < 2 ^ bits a.natAbs := bits_self _
      have lk : ((2 : Int) ^ k).natAbs < 2 ^ (k + 1) := by
        rw [Int.natAbs_pow]
        exact Nat.pow_lt_pow_right (by decide) (by omega)
      have lk1 : ((2 : Int) ^ k1).natAbs < 2 ^ (k1 + 1) := by
        rw [Int.natAbs_pow]
        exact Nat.pow_lt_pow_right (by decide) (by omega)
      have hb1 : (0 : Int) < 2 ^ k1 := Int.pow_pos (by decide)
      have hq : (0 : Int) < 2 ^ (bits N - 54) := Int.pow_pos (by decide)
      have w1 : CDivW a1 (2 ^ k1) := wide_div hb1 lk1 (by omega) (by omega)
      have w2 : CShl (2 ^ k1) 1 := shl_c (b := k1 + 1) lk1 (by omega) (by omega)
      obtain ⟨hd, _⟩ := dm hb1 hq hA
      have hs2 : ∃ k2, (if 9007199254740992 ≤ a1 / 2 ^ k1 then (2 : Int) ^ k1 * 2 ^ 1 else 2 ^ k1) = 2 ^ k2 ∧ k2 ≤ 7000 ∧ a1 * 2 ^ sh N = (N : Int) * 2 ^ k2 ∧
          (if 9007199254740992 ≤ a1 / 2 ^ k1 then ((bits N - 54 : Nat) : Int) - 1074 + 1 else ((bits N - 54 : Nat) : Int) - 1074) = (sh N : Int) - 1074 := by
        have eN : (N : Int) / 2 ^ (bits N - 54) = ((N / 2 ^ (bits N - 54) : Nat) : Int) := by rw [← pow_cast]; rfl
        by_cases c3 : 9007199254740992 ≤ a1 / 2 ^ k1
        · have hbig : 54 ≤ bits N := by
            by_cases z : 54 ≤ bits N
            · exact z
            · exfalso
              have : bits N ≤ 53 := by omega
              have l := bits_le.mp this
              rw [hd, eN, show bits N - 54 = 0 by omega, Nat.pow_zero, Nat.div_one] at c3
              omega
          have es : sh N = bits N - 54 + 1 := by unfold sh; omega
          refine ⟨k1 + 1, by rw [if_pos c3, ← Int.pow_add], by omega, ?_, by rw [if_pos c3]; omega⟩
          rw [es, Int.pow_succ, Int.pow_succ, ← Int.mul_assoc, ← Int.mul_assoc, hA]
        · have hsm : bits N ≤ 53 := by
            by_cases z : 54 ≤ bits N
            · exfalso
              have l : 2 ^ (bits N - 1) ≤ N := lt_bits.mp (by omega)
              have l2 : 2 ^ 53 ≤ N / 2 ^ (bits N - 54) := by
                rw [Nat.le_div_iff_mul_le (Nat.two_pow_pos _), ← Nat.pow_add, show 53 + (bits N - 54) = bits N - 1 by omega]
                exact l
              rw [hd, eN] at c3
              omega
            · omega
          have es : sh N = bits N - 54 := by unfold sh; omega
          refine ⟨k1, by rw [if_neg c3], by omega, ?_, by rw [if_neg c3]; omega⟩
          rw [es, hA]
      obtain ⟨k2, hk2, hk3, hA2, hP2⟩ := hs2
      have hb2 : (0 : Int) < 2 ^ k2 := Int.pow_pos (by decide)
      have lk2 : ((2 : Int) ^ k2).natAbs < 2 ^ (k2 + 1) := by
        rw [Int.natAbs_pow]
        exact Nat.pow_lt_pow_right (by decide) (by omega)
      obtain ⟨hd2, hrq⟩ := near_rq hb2 hA2
      have ba : bits a1.natAbs + sh N = bits N + k2 := by
        have e : 2 ^ sh N * a1.natAbs = 2 ^ k2 * N := by
          have := congrArg Int.natAbs hA2
          rw [Int.natAbs_mul, Int.natAbs_mul, Int.natAbs_pow, Int.natAbs_pow, Int.natAbs_natCast, Nat.mul_comm, Nat.mul_comm N] at this
          exact this
        have := congrArg bits e
        rw [bits_scale (by omega), bits_scale hN0] at this
        exact this
      have w3 : CDivP a1 (2 ^ k2) := by
        refine divp_ok hb2 ?_
        rw [ib_eq a1, bl_pow]
        unfold sh at ba
        omega
      have w4 : ∀ x : Int, CMulW 2 (x % 2 ^ k2) := fun x => by
        have h0 := Int.emod_nonneg x (show (2 : Int) ^ k2 ≠ 0 by omega)
        have h1 := Int.emod_lt_of_pos x hb2
        exact wide_mul (a := 2) (b := k2 + 1) (by decide) (Nat.lt_of_le_of_lt (by omega) lk2) (by decide) (by omega) (by omega)
      have hfit := near_fit hM hN0
      have hrb := rq_bits hM
      have hib := ib_eq ((rq N (sh N) : Nat) : Int)
      rw [Int.natAbs_natCast] at hib
      have fin : ∀ H' p, Same H H' → H' p = none → upd H' p (.tup [.int (a1 / 2 ^ k2), .int (a1 % 2 ^ k2)]) p = some (.tup [.int (a1 / 2 ^ k2), .int (a1 % 2 ^ k2)]) → gTup K 2 (gCons (gName 4) (gCons (gName 5) gNil)) (V.ref p) [some (V.int s0), some (V.int a1), some (V.int (2 ^ k2)), some (V.int ((sh N : Int) - 1074)), none, none]
          (upd H' p (.tup [.int (a1 / 2 ^ k2), .int (a1 % 2 ^ k2)])) (tSeq (tIfS (tOr (tTest (tOp (rI0 fun i j => V.bl (decide (j < i))) (tOp (rI CMulW fun i j => V.int (i * j)) (tC (V.int 2)) (tVar 5)) (tVar 2))) (tAnd (tTest (tOp rEq (tOp (rI CMulW fun i j => V.int (i * j)) (tC (V.int 2)) (tVar 5)) (tVar 2))) (tTest (tOp rEq (tOp (rI0 fun i j => V.int (Builtin.bitAnd i j)) (tVar 4) (tC (V.int 1))) (tC (V.int 1)))))) (tAsg (tOp (rI0 fun i j => V.int (i + j)) (tVar 4) (tC (V.int 1))) (gName 4)) tNext)
            (tSeq (tIfS (tTest (tOp (rI0 fun i j => V.bl (decide (j < i))) (tOp (rI0 fun i j => V.int (i + j)) (tBits (tVar 4)) (tVar 3)) (tC (V.int 1024)))) tNever tNext) (tRet (tMake (He.ga K (Str.ofString "Float")) (sp_Float___init__ K) [] E0 (tCons (tVar 0) (tCons (tVar 4) (tCons (tVar 3) tNil)))))) { nx := fun x H' => Q V.non H', rt := Q }) := by
        intro H' p sH np hp
        wtm_at "go"
        refine ⟨w4 _, ?_⟩
        by_cases d1 : (2 : Int) ^ k2 < 2 * (a1 % 2 ^ k2)
        · rw [if_pos (Or.inl d1)] at hrq
          rw [if_pos d1, hrq]
          wtm_at "go"
          exact q _ _ _ _ (by wtm_at "sm") (by wtm_at "fr") (by wtm_at "hp") (by assumption)
        · rw [if_neg d1]
          refine ⟨w4 _, ?_⟩
          by_cases d2 : 2 * (a1 % 2 ^ k2) = 2 ^ k2
          · rw [if_pos d2]
            by_cases d3 : a1 / 2 ^ k2 % 2 = 1
            · rw [if_pos (Or.inr ⟨d2, d3⟩)] at hrq
              rw [bitAnd_m1, if_pos d3, hrq]
              wtm_at "go"
              exact q _ _ _ _ (by wtm_at "sm") (by wtm_at "fr") (by wtm_at "hp") (by assumption)
            · rw [if_neg (by rintro (z | ⟨_, z⟩); exact d1 z; exact d3 z)] at hrq
              rw [bitAnd_m1, if_neg d3, hrq]
              wtm_at "go"
              exact q _ _ _ _ (by wtm_at "sm") (by wtm_at "fr") (by wtm_at "hp") (by assumption)
          · rw [if_neg (by rintro (z | ⟨z, _⟩); exact d1 z; exact d2 z)] at hrq
            rw [if_neg d2, hrq]
            wtm_at "go"
            exact q _ _ _ _ (by wtm_at "sm") (by wtm_at "fr") (by wtm_at "hp") (by assumption)
      have fin2 : ∀ H' p, Same H H' → H' p = none → _ := fun H' p a b => fin H' p a b upd_same
      rcases hc with ⟨c2, e1, e2⟩ | ⟨c2, e1, e2⟩
      · rw [if_pos c2, ← e1, ← e2]
        refine ⟨shl_c la (by omega) (by omega), w1, ?_⟩
        by_cases c3 : 9007199254740992 ≤ a1 / 2 ^ k1
        · rw [if_pos c3] at hk2 hP2
          rw [if_pos c3, hk2, hP2]
          exact ⟨w2, w3, fun p np => fin2 H p (Same.refl _) np⟩
        · rw [if_neg c3] at hk2 hP2
          rw [if_neg c3, hk2, hP2]
          exact ⟨w3, fun p np => fin2 H p (Same.refl _) np⟩
      · subst e1
        rw [if_neg c2, ← e2]
        refine ⟨shl_c lk (by omega) (by omega), w1, ?_⟩
        by_cases c3 : 9007199254740992 ≤ a1 / 2 ^ k1
        · rw [if_pos c3] at hk2 hP2
          rw [if_pos c3, hk2, hP2]
          exact ⟨w2, w3, fun p np => fin2 H p (Same.refl _) np⟩
        · rw [if_neg c3] at hk2 hP2
          rw [if_neg c3, hk2, hP2]
          exact ⟨w3, fun p np => fin2 H p (Same.refl _) np⟩
end
end W85

set_option maxHeartbeats 4000000
set_option exponentiation.threshold 9000
namespace W85
open PySem PySem.Spec PyProof.Rows L2 WK Fm
local macro_rules | `(tactic| wtm_at "hp") => `(tactic| first
  | with_reducible assumption
  | with_reducible exact upd_same
  | with_reducible exact sqt_of upd_same
  | with_reducible exact sql_of upd_same
  | with_reducible exact sqt_s1 (by assumption) (by wtm_at "sm")
  | with_reducible exact sqt_s2 (by assumption) (by wtm_at "sm")
  | with_reducible exact FO.same (by assumption) (by wtm_at "sm")
  | with_reducible exact sqt_all (by assumption)
  | with_reducible exact sql_s1 (by assumption) (by wtm_at "sm")
  | with_reducible exact sql_s2 (by assumption) (by wtm_at "sm")
  | with_reducible exact at_s1 (by assumption) (by wtm_at "sm"))
local macro_rules | `(tactic| wtm_at "sd") => `(tactic| first
  | exact cdw_all (by assumption)
  | exact wide_mul (by assumption) (by assumption) (by decide) (by decide) (Nat.le_of_ble_eq_true rfl)
  | exact Or.inl ⟨by omega, by omega⟩
  | exact Or.inr ⟨by omega, by omega⟩
  | exact ⟨by omega, by decide⟩
  | exact cdw_of (by omega) (by omega)
  | exact cpow_of (by omega) (by omega) (by omega)
  | (dsimp only; omega)
  | (show (0 : Int) < _; omega)
  | (show (0 : Int) ≤ _; omega))
local macro_rules | `(tactic| wtm_at "sx") => `(tactic| simp only [x_seq, x_next, x_brk, x_cont, x_never, x_drop, x_asg, x_name, x_sub, x_ret, x_retN, x_ifS, x_parD, x_par3D, x_c, x_op, x_un, x_test, x_tB, x_yes, x_not, x_and, x_or, x_andV, x_orV, x_notV, x_ifE, x_chain, x_nil, x_cons, x_tupD, x_lstD, x_call, x_callX, x_cb, x_forR1, x_forR2, x_forL, x_forT, x_bits, x_part, x_nopart, x_sl, x_bm0, x_bm, x_lcL, x_lcT, x_lcR1, x_aug, x_ipI, x_ib, x_bi, x_onelB, x_two, x_onel, x_disp, x_pairs0, x_pairsS, x_dget2, x_fld, x_fldT, x_meth0, x_make, x_sfld, x_eqIS, x_neIS,
  x_var0, x_var1, x_var2, x_var3, x_var4, x_var5, x_var6, x_var7, x_var8, x_var9, x_var10, x_var11, x_var12, x_var13, x_var14, x_var15, List.set_cons_zero, x_set1, x_set2, x_set3, x_set4, x_set5, x_set6, x_set7, x_set8, x_set9, x_set10, x_set11, x_set12, x_set13, x_set14, x_set15, x_i0, x_iC, x_uI, x_bl, x_eqI, x_neI, x_eqS, x_neS, x_par, x_par3, x_gnil, x_gcons, x_one, x_rt, x_nx, x_bk, x_ct, cx_K, cx_K1, List.append_nil, List.cons_append, List.nil_append, if_true, if_false, ite_not, decide_true, decide_false, Bool.not_true, Bool.not_false, Bool.false_eq_true, decide_eq_true_eq, Bool.not_eq_true', Bool.not_eq_false', decide_eq_false_iff_not, true_and, and_true, reduceCtorEq, Int.reduceLT, Int.reduceLE, Int.reduceToNat, false_and, exists_false, or_false, false_or, wipe, List.map_cons, List.map_nil])
local macro_rules | `(tactic| wtm_at "g1") => `(tactic| first
  | with_reducible refine g_i0 ?_
  | with_reducible refine g_sign (by assumption) (by wtm_at "hp") ?_
  | with_reducible refine g_top (by assumption) (by wtm_at "hp") ?_
  | with_reducible refine g_power (by assumption) (by wtm_at "hp") ?_
  | with_reducible refine isi_F (by assumption) (by wtm_at "hp") ?_
  | with_reducible refine isi_ll (by wtm_at "hp") ?_
  | with_reducible refine g_inT (bb := false) (by wtm_at "hp") rfl rfl inV_iS ?_
  | with_reducible refine g_notInT (bb := false) (by wtm_at "hp") rfl rfl inV_iS ?_
  | with_reducible refine g_iC (by k_dflt (wtm_at "sd")) ?_
  | with_reducible refine g_ixT (by wtm_at "hp") rfl ?_
  | with_reducible refine g_pY (by k_dflt (wtm_at "cd")) ?_
  | with_reducible refine g_pX (by k_dflt (wtm_at "cd")) ?_
  | with_reducible refine g_size (by k_dflt exact (Nat.le_of_ble_eq_true rfl)) ?_
  | with_reducible refine isi_ii ?_
  | with_reducible refine isi_ib ?_
  | with_reducible refine isi_ss ?_
  | with_reducible refine isi_tt (by wtm_at "hp") ?_
  | with_reducible refine isi_bb ?_
  | with_reducible refine isi_is ?_
  | with_reducible refine g_inT (bb := true) (by wtm_at "hp") rfl rfl (by decide +kernel) ?_
  | with_reducible refine g_inT (bb := false) (by wtm_at "hp") rfl rfl (by decide +kernel) ?_
  | with_reducible refine g_notInT (bb := true) (by wtm_at "hp") rfl rfl (by decide +kernel) ?_
  | with_reducible refine g_notInT (bb := false) (by wtm_at "hp") rfl rfl (by decide +kernel) ?_
  | with_reducible refine g_ixL (by wtm_at "hp") rfl ?_
  | with_reducible refine g_tup (by wtm_at "hp") rfl ?_
  | with_reducible refine g_bl ?_
  | with_reducible refine g_eqI ?_
  | with_reducible refine g_neI ?_
  | with_reducible refine g_lenT (by wtm_at "hp") ?_
  | with_reducible refine g_lenL (by wtm_at "hp") ?_
  | with_reducible refine g_tl4 (by wtm_at "hp") ?_
  | with_reducible refine g_tl3 (by wtm_at "hp") ?_
  | with_reducible refine g_slL (by wtm_at "hp") ?_
  | with_reducible refine g_listL (by wtm_at "hp") ?_
  | with_reducible refine g_setL (by wtm_at "hp") rfl ?_
  | (with_reducible refine g_newT ?_; intro p np hp)
  | (with_reducible refine g_newL ?_; intro p np hp)
  | (with_reducible refine g_all ?_; intro p np)
  | with_reducible refine ⟨by k_dflt (wtm_at "sd"), ?_⟩
  | wtm_at "u1")
local macro_rules | `(tactic| wtm_at "cd") => `(tactic| first | omega | decide +kernel)
local macro_rules | `(tactic| wtm_at "go") => `(tactic| ((try wtm_at "sx"); repeat (wtm_at "g1"; try wtm_at "sx")))
local macro_rules | `(tactic| wtm_at "sm") => `(tactic| first
  | with_reducible assumption
  | with_reducible exact Same.refl _
  | with_reducible exact same_new (by assumption)
  | (with_reducible refine Same.trans ?_ (same_new (by assumption)); wtm_at "sm")
  | (with_reducible refine same_mut ?_ (by wtm_at "fr"); wtm_at "sm")
  | (with_reducible refine Same.trans ?_ (by assumption); wtm_at "sm"))
local macro_rules | `(tactic| wtm_at "fr") => `(tactic| first
  | with_reducible assumption
  | with_reducible exact free2 (by assumption) (by wtm_at "sm"))

local macro_rules | `(tactic| wtm_at "u1") => `(tactic| (with_reducible refine use_is_plain ?_; intro H1 s1))
local macro_rules | `(tactic| wtm_at "u1") => `(tactic| (with_reducible refine use_sign_of ?_; intro H1 s1))
local macro_rules | `(tactic| wtm_at "u1") => `(tactic| (with_reducible refine use_reduced (by assumption) ?_; intro H1 p1 s1 n1 h1))
local macro_rules | `(tactic| wtm_at "u1") => `(tactic| (with_reducible refine use_fits (by assumption) ?_; intro H1 s1))
local macro_rules | `(tactic| wtm_at "u1") => `(tactic| (with_reducible refine use_Float (by assumption) (by assumption) ?_; intro H1 r1 t1 p1 s1 n1 f1 v1))
local macro_rules | `(tactic| wtm_at "u1") => `(tactic| (with_reducible refine use_Float_is_finite (by wtm_at "hp") ?_; intro H1 s1))
local macro_rules | `(tactic| wtm_at "u1") => `(tactic| (with_reducible refine use_Float_ratio (by wtm_at "hp") (by assumption) ?_; intro H1 p1 s1 n1 h1))
local macro_rules | `(tactic| wtm_at "u1") => `(tactic| (with_reducible refine use_is_number (by wtm_at "hp") ?_; intro H1 s1))
local macro_rules | `(tactic| wtm_at "u1") => `(tactic| (with_reducible refine use_is_finite_float (by wtm_at "hp") ?_; intro H1 s1))
/-! ### sizes -/
theorem lt_le {x : Int} {a b : Nat} (h : x.natAbs < 2 ^ a) (k : a ≤ b) : x.natAbs < 2 ^ b := Nat.lt_of_lt_of_le h (Nat.pow_le_pow_right (by decide) k)
theorem rbot_pow {p : Int} (h : -1074 ≤ p) : ∃ k : Nat, k ≤ 1074 ∧ rbot p = 2 ^ k := by
  unfold rbot
  split
  · exact ⟨(0 - p).toNat, by omega, rfl⟩
  · exact ⟨0, by omega, rfl⟩
theorem pow_lt (k : Nat) : ((2 : Int) ^ k).natAbs < 2 ^ (k + 1) := by
  rw [Int.natAbs_pow]
  exact Nat.pow_lt_pow_right (by decide) (by omega)
theorem rt_size {V a b : Int} {n k : Nat} (h : Rt V a b) (hb : b = 2 ^ k) (hV : V.natAbs < 2 ^ n) : a.natAbs < 2 ^ (n + k) := by
  have e := congrArg Int.natAbs h.e
  rw [hb, Int.natAbs_mul, Int.natAbs_mul, Int.natAbs_pow, Int.natAbs_pow] at e
  have h1 : V.natAbs * (2 : Int).natAbs ^ k < 2 ^ n * 2 ^ k := Nat.mul_lt_mul_of_pos_right hV (Nat.two_pow_pos k)
  have h2 : a.natAbs * 1 ≤ a.natAbs * (2 : Int).natAbs ^ 1074 := Nat.mul_le_mul_left _ (Nat.two_pow_pos 1074)
  rw [Nat.pow_add]
  omega
theorem rt_sizes {s t p v : Int} (h : V3 s t p v) : (rtop s t p).natAbs < 2 ^ 3200 ∧ (rbot p).natAbs < 2 ^ 1100 ∧ ∃ k : Nat, k ≤ 1074 ∧ rbot p = 2 ^ k := by
  obtain ⟨_, _, _, p0, p1⟩ := V3.small h
  obtain ⟨k, hk, e⟩ := rbot_pow p0
  refine ⟨lt_le (rt_size h.rt e h.lt) (by omega), ?_, k, hk, e⟩
  rw [e]
  exact lt_le (pow_lt k) (by omega)
theorem mul_lt {i j : Int} {a b c : Nat} (ha : i.natAbs < 2 ^ a) (hb : j.natAbs < 2 ^ b) (h : a + b ≤ c) : (i * j).natAbs < 2 ^ c := lt_le (wide_lt ha hb) h
section
variable {P : Program} {w : World} {K : PySem.W.Frag} {mg : Str → Option Value} {base : Heap}
theorem use_near {H : Hp} {Q : VK} {E : XK} {V a b : Int} (h : Rt V a b) (hb : ∃ k : Nat, k ≤ 4000 ∧ b = 2 ^ k) (hV : V.natAbs ≤ 2 ^ 2097) (q : RetV K (rnd V) H Q) :
    sp_nearest K [.int (if a < 0 then -1 else 1), .int (if a < 0 then -a else a), .int b] H Q E := by
  obtain ⟨k, hk, rfl⟩ := hb
  have hp : (0 : Int) < 2 ^ k := Int.pow_pos (by decide)
  have hP := P_pos
  have sg : (a < 0 ↔ V < 0) := by
    constructor
    · intro z
      have z2 := Int.mul_neg_of_neg_of_pos z hP
      rw [h.e] at z2
      by_cases y : V < 0
      · exact y
      · have := Int.mul_nonneg (show 0 ≤ V by omega) (Int.le_of_lt hp)
        omega
    · intro z
      have z2 := Int.mul_neg_of_neg_of_pos z hp
      rw [← h.e] at z2
      by_cases y : a < 0
      · exact y
      · have := Int.mul_nonneg (show 0 ≤ a by omega) (Int.le_of_lt hP)
        omega
  have hs : Sgn (if a < 0 then -1 else 1) := by
    unfold Sgn
    split <;> omega
  refine ⟨_, _, _, k, V.natAbs, rfl, hs, by split <;> omega, rfl, hk, ?_, hV, fun H' r t p s1 n1 f1 v1 => q H' r s1 n1 ⟨_, t, p, f1, ?_⟩⟩
  · have e := h.e
    by_cases c : a < 0
    · rw [if_pos c, show ((V.natAbs : Nat) : Int) = -V by omega, Int.neg_mul, Int.neg_mul, e]
    · rw [if_neg c, show ((V.natAbs : Nat) : Int) = V by omega, e]
  · have e : (if a < 0 then (-1 : Int) else 1) * (rndN V.natAbs : Nat) = rnd V := sgn_rnd (by
      by_cases c : a < 0
      · rw [if_pos c, if_pos (sg.mp c)]
      · rw [if_neg c, if_neg (fun z => c (sg.mpr z))])
    rw [e] at v1
    exact v1
def sp_added (K : PySem.W.Frag) : Sp := fun vs H Q _ => ∃ (r1 r2 : Addr) (v1 v2 : Int), vs = [.ref r1, .ref r2] ∧ FV K H r1 v1 ∧ FV K H r2 v2 ∧ (v1 + v2).natAbs ≤ 2 ^ 2097 ∧ RetV K (rnd (v1 + v2)) H Q
theorem kn_added (T : Tx K mg) : Kn P w K mg base 6 "added" ["one", "other"] (sp_added K) := by
  obtain ⟨fd, F⟩ := T.d_added
  refine kn_mk F T.g_added sc_added (fun _ _ _ _ _ _ us hl => match us, hl with | [_, _], _ => rfl) (fun vs H Q E h => ?_) (fun cdv A outer s H vs Q E hr h => ?_)
  · obtain ⟨r1, r2, v1, v2, rfl, _⟩ := h
    rfl
  · obtain ⟨r1, r2, v1, v2, rfl, ⟨sa, ta, pa, fa, za⟩, ⟨sb, tb, pb, fb, zb⟩, hV, q⟩ := h
    refine ⟨_, (pss_cons (ps_if (PW.pt (pw_or (pt_cmpR op_eq (pe_fldK K (pv 0)) pe_str (nomark _)) (pw_or1 (pt_cmpR op_eq (pe_fldK K (pv 1)) pe_str (nomark _))))) pss_never pss_nil)
      (pss_cons (ps_if (PW.pt (pw_and (pt_cmpR op_eq (pe_fldK K (pv 0)) pe_int (nomark _)) (pw_and1 (pt_cmpR op_eq (pe_fldK K (pv 1)) pe_int (nomark _))))) (pss_one (ps_ret (pcM (kn_Float T) (hr.mono (by decide)) (pa_cons (pe_callB (call_max2 rfl) (by rfl) T.n_max (by decide +kernel) (pa_cons (pe_fldK K (pv 0)) (pa_cons (pe_fldK K (pv 1)) pa_nil))) (pa_cons pe_int (pa_cons pe_int pa_nil)))))) pss_nil)
      (pss_cons (ps_par (i := 2) (j := 3) (by rfl) sc_added.nd rfl rfl (by decide) rfl rfl (pa_cons (pcm0 T.cf_Float.cls (kn_Float_ratio T) (hr.mono (by decide)) (pv 0)) (pa_cons (pcm0 T.cf_Float.cls (kn_Float_ratio T) (hr.mono (by decide)) (pv 1)) pa_nil)) (by rfl))
      (pss_cons (ps_set (i := 4) sc_added.nd rfl (Or.inl rfl) (pe_op op_add (pe_op op_mulW (pe_ix (ix_tupK K) (pv 2) pe_int (fun _ _ => rfl)) (pe_ix (ix_tupK K) (pv 3) pe_int (fun _ _ => rfl))) (pe_op op_mulW (pe_ix (ix_tupK K) (pv 3) pe_int (fun _ _ => rfl)) (pe_ix (ix_tupK K) (pv 2) pe_int (fun _ _ => rfl)))))
      (pss_one (ps_ret (pc (kn_nearest T) (hr.mono (by decide)) (pa_cons (pc (kn_sign_of T) (hr.mono (by decide)) (pa_cons (pe_cmpR op_lt (pv 4) pe_int (nomark _)) pa_nil)) (pa_cons (pe_callB call_abs (by rfl) T.n_abs (by decide +kernel) (pa_cons (pv 4) pa_nil)) (pa_cons (pe_op op_mulW (pe_ix (ix_tupK K) (pv 2) pe_int (fun _ _ => rfl)) (pe_ix (ix_tupK K) (pv 3) pe_int (fun _ _ => rfl))) pa_nil)))))))))), st_as (σ' := [some _, some _, none, none, none]) rfl ?_⟩
    have CFK := T.cf_Float
    have F0 : Fit 0 0 0 := .inl ⟨rfl, rfl⟩
    have sa' := za.1
    have sb' := zb.1
    obtain ⟨b1, b2, k1, hk1, e1⟩ := rt_sizes za
    obtain ⟨b3, b4, k2, hk2, e2⟩ := rt_sizes zb
    by_cases c : ta = 0 ∧ tb = 0
    · obtain ⟨rfl, rfl⟩ := c
      have w1 := za.zero.mp rfl
      have w2 := zb.zero.mp rfl
      have hs : Sgn (if sb > sa then sb else sa) := by split <;> assumption
      wtm_at "go"
      rename_i G1 r3 t3 p3 g1 m1 f3 z3
      refine q _ _ (by wtm_at "sm") (by wtm_at "fr") ⟨_, _, _, f3, ?_⟩
      rw [w1, w2, Int.add_zero, rnd_zero]
      rw [Int.mul_zero] at z3
      exact z3
    · have rt := za.rt.add zb.rt
      have hk : ∃ k : Nat, k ≤ 4000 ∧ rbot pa * rbot pb = 2 ^ k := ⟨k1 + k2, by omega, by rw [e1, e2, Int.pow_add]⟩
      by_cases c1 : ta = 0
      · have c2 : tb ≠ 0 := fun z => c ⟨c1, z⟩
        wtm_at "go"
        exact use_near rt hk hV fun G1 r3 g1 m1 f3 => q _ _ (by wtm_at "sm") (by wtm_at "fr") f3
      · wtm_at "go"
        exact use_near rt hk hV fun G1 r3 g1 m1 f3 => q _ _ (by wtm_at "sm") (by wtm_at "fr") f3
theorem use_added {H : Hp} {Q : VK} {E : XK} {r1 r2 : Addr} {v1 v2 : Int} (h1 : FV K H r1 v1) (h2 : FV K H r2 v2) (hV : (v1 + v2).natAbs ≤ 2 ^ 2097) (q : RetV K (rnd (v1 + v2)) H Q) : sp_added K [.ref r1, .ref r2] H Q E := ⟨r1, r2, v1, v2, rfl, h1, h2, hV, q⟩
def sp_lowered : Sp := fun vs H Q _ => ∃ a b : Int, vs = [.int a, .int b] ∧ 0 < b ∧ a.natAbs < 2 ^ 8000 ∧ b.natAbs < 2 ^ 8000 ∧ RetT [.int (a / (Int.gcd a b : Int)), .int (b / (Int.gcd a b : Int))] H Q
theorem kn_lowered (T : Tx K mg) : Kn P w K mg base 1 "lowered" ["top", "bottom"] (sp_lowered) := by
  obtain ⟨fd, F⟩ := T.d_lowered
  refine kn_mk F T.g_lowered sc_lowered (fun _ _ _ _ _ _ us hl => match us, hl with | [_, _], _ => rfl) (fun vs H Q E h => ?_) (fun cdv A outer s H vs Q E hr h => ?_)
  · obtain ⟨a, b, rfl, _⟩ := h
    rfl
  · obtain ⟨a, b, rfl, hb, la, lb, q⟩ := h
    refine ⟨_, (pss_cons (ps_par (i := 2) (j := 3) (by rfl) sc_lowered.nd rfl rfl (by decide) rfl rfl (pa_cons (pe_callB call_abs (by rfl) T.n_abs (by decide +kernel) (pa_cons (pv 0) pa_nil)) (pa_cons (pv 1) pa_nil)) (by rfl))
      (pss_cons (ps_while PassesOwn.never (pt_cmpR op_gt (pv 3) pe_int (nomark _)) (pss_one (ps_par (i := 2) (j := 3) (by rfl) sc_lowered.nd rfl rfl (by decide) rfl rfl (pa_cons (pv 3) (pa_cons (pe_op op_mod (pv 2) (pv 3)) pa_nil)) (by rfl))))
      (pss_one (ps_ret (pe_tup (pa_cons (pe_op op_fdivW (pv 0) (pv 2)) (pa_cons (pe_op op_fdivW (pv 1) (pv 2)) pa_nil))))))), st_as (σ' := [some _, some _, none, none]) rfl ?_⟩
    have ha0 : 0 ≤ (if a < 0 then -a else a) := by split <;> omega
    have hg : Int.gcd (if a < 0 then -a else a) b = Int.gcd a b := by
      split
      · exact Int.neg_gcd
      · rfl
    have la0 : (if a < 0 then -a else a).natAbs < 2 ^ 8000 := by split <;> omega
    wtm_at "go"
    generalize (if a < 0 then -a else a) = a0 at ha0 hg la0 ⊢
    refine g_while (fun m σ H' => ∃ x y : Int, m = y.toNat ∧ σ = [some (.int a), some (.int b), some (.int x), some (.int y)] ∧ Same H H' ∧ 0 ≤ x ∧ 0 ≤ y ∧ x.natAbs < 2 ^ 8000 ∧ y.natAbs < 2 ^ 8000 ∧ Int.gcd x y = Int.gcd a b ∧ (0 < x ∨ 0 < y)) b.toNat ⟨a0, b, rfl, rfl, Same.refl _, ha0, by omega, la0, lb, hg, .inr hb⟩ ?_
    rintro m σ H' ⟨x, y, rfl, rfl, s1, hx, hy, lx, ly, hg2, hxy⟩
    wtm_at "go"
    refine ite2 (fun z => ?_) (fun z => ?_)
    · refine ⟨_, fun _ _ n => n, ?_⟩
      wtm_at "go"
      have h0 := Int.emod_nonneg x (show y ≠ 0 by omega)
      have h1 := Int.emod_lt_of_pos x z
      refine ⟨(x % y).toNat, by omega, y, x % y, rfl, rfl, s1, hy, h0, ly, by omega, ?_, .inl z⟩
      rw [← hg2, gcd_step hx hy]
    · have y0 : y = 0 := by omega
      subst y0
      rw [Int.gcd_zero_right] at hg2
      have hx0 : 0 < x := by omega
      have ex : ((Int.gcd a b : Nat) : Int) = x := by omega
      rw [ex] at q
      have w1 : ∀ i, CDivW i x := fun i => wide_div hx0 lx (by decide) (by decide)
      wtm_at "go"
      exact q _ _ (by wtm_at "sm") (by wtm_at "fr") (by wtm_at "hp")
theorem use_lowered {H : Hp} {Q : VK} {E : XK} {a b : Int} (hb : 0 < b) (la : a.natAbs < 2 ^ 8000) (lb : b.natAbs < 2 ^ 8000) (q : RetT [.int (a / (Int.gcd a b : Int)), .int (b / (Int.gcd a b : Int))] H Q) : sp_lowered [.int a, .int b] H Q E := ⟨a, b, rfl, hb, la, lb, q⟩
end
end W85

set_option maxHeartbeats 4000000
set_option exponentiation.threshold 9000
namespace W85
open PySem PySem.Spec PyProof.Rows L2 WK Fm
local macro_rules | `(tactic| wtm_at "hp") => `(tactic| first
  | with_reducible assumption
  | with_reducible exact upd_same
  | with_reducible exact sqt_of upd_same
  | with_reducible exact sql_of upd_same
  | with_reducible exact sqt_s1 (by assumption) (by wtm_at "sm")
  | with_reducible exact sqt_s2 (by assumption) (by wtm_at "sm")
  | with_reducible exact FO.same (by assumption) (by wtm_at "sm")
  | with_reducible exact sqt_all (by assumption)
  | with_reducible exact sql_s1 (by assumption) (by wtm_at "sm")
  | with_reducible exact sql_s2 (by assumption) (by wtm_at "sm")
  | with_reducible exact at_s1 (by assumption) (by wtm_at "sm"))
local macro_rules | `(tactic| wtm_at "sd") => `(tactic| first
  | exact cdw_all (by assumption)
  | exact wide_mul (by assumption) (by assumption) (by decide) (by decide) (Nat.le_of_ble_eq_true rfl)
  | exact Or.inl ⟨by omega, by omega⟩
  | exact Or.inr ⟨by omega, by omega⟩
  | exact ⟨by omega, by decide⟩
  | exact cdw_of (by omega) (by omega)
  | exact cpow_of (by omega) (by omega) (by omega)
  | (dsimp only; omega)
  | (show (0 : Int) < _; omega)
  | (show (0 : Int) ≤ _; omega))
local macro_rules | `(tactic| wtm_at "sx") => `(tactic| simp only [x_seq, x_next, x_brk, x_cont, x_never, x_drop, x_asg, x_name, x_sub, x_ret, x_retN, x_ifS, x_parD, x_par3D, x_c, x_op, x_un, x_test, x_tB, x_yes, x_not, x_and, x_or, x_andV, x_orV, x_notV, x_ifE, x_chain, x_nil, x_cons, x_tupD, x_lstD, x_call, x_callX, x_cb, x_forR1, x_forR2, x_forL, x_forT, x_bits, x_part, x_nopart, x_sl, x_bm0, x_bm, x_lcL, x_lcT, x_lcR1, x_aug, x_ipI, x_ib, x_bi, x_onelB, x_two, x_onel, x_disp, x_pairs0, x_pairsS, x_dget2, x_fld, x_fldT, x_meth0, x_make, x_sfld, x_eqIS, x_neIS,
  x_var0, x_var1, x_var2, x_var3, x_var4, x_var5, x_var6, x_var7, x_var8, x_var9, x_var10, x_var11, x_var12, x_var13, x_var14, x_var15, List.set_cons_zero, x_set1, x_set2, x_set3, x_set4, x_set5, x_set6, x_set7, x_set8, x_set9, x_set10, x_set11, x_set12, x_set13, x_set14, x_set15, x_i0, x_iC, x_uI, x_bl, x_eqI, x_neI, x_eqS, x_neS, x_par, x_par3, x_gnil, x_gcons, x_one, x_rt, x_nx, x_bk, x_ct, cx_K, cx_K1, List.append_nil, List.cons_append, List.nil_append, if_true, if_false, ite_not, decide_true, decide_false, Bool.not_true, Bool.not_false, Bool.false_eq_true, decide_eq_true_eq, Bool.not_eq_true', Bool.not_eq_false', decide_eq_false_iff_not, true_and, and_true, reduceCtorEq, Int.reduceLT, Int.reduceLE, Int.reduceToNat, false_and, exists_false, or_false, false_or, wipe, List.map_cons, List.map_nil])
local macro_rules | `(tactic| wtm_at "g1") => `(tactic| first
  | with_reducible refine g_i0 ?_
  | with_reducible refine g_sign (by assumption) (by wtm_at "hp") ?_
  | with_reducible refine g_top (by assumption) (by wtm_at "hp") ?_
  | with_reducible refine g_power (by assumption) (by wtm_at "hp") ?_
  | with_reducible refine isi_F (by assumption) (by wtm_at "hp") ?_
  | with_reducible refine isi_ll (by wtm_at "hp") ?_
  | with_reducible refine g_inT (bb := false) (by wtm_at "hp") rfl rfl inV_iS ?_
  | with_reducible refine g_notInT (bb := false) (by wtm_at "hp") rfl rfl inV_iS ?_
  | with_reducible refine g_iC (by k_dflt (wtm_at "sd")) ?_
  | with_reducible refine g_ixT (by wtm_at "hp") rfl ?_
  | with_reducible refine g_pY (by k_dflt (wtm_at "cd")) ?_
  | with_reducible refine g_pX (by k_dflt (wtm_at "cd")) ?_
  | with_reducible refine g_size (by k_dflt exact (Nat.le_of_ble_eq_true rfl)) ?_
  | with_reducible refine isi_ii ?_
  | with_reducible refine isi_ib ?_
  | with_reducible refine isi_ss ?_
  | with_reducible refine isi_tt (by wtm_at "hp") ?_
  | with_reducible refine isi_bb ?_
  | with_reducible refine isi_is ?_
  | with_reducible refine g_inT (bb := true) (by wtm_at "hp") rfl rfl (by decide +kernel) ?_
  | with_reducible refine g_inT (bb := false) (by wtm_at "hp") rfl rfl (by decide +kernel) ?_
  | with_reducible refine g_notInT (bb := true) (by wtm_at "hp") rfl rfl (by decide +kernel) ?_
  | with_reducible refine g_notInT (bb := false) (by wtm_at "hp") rfl rfl (by decide +kernel) ?_
  | with_reducible refine g_ixL (by wtm_at "hp") rfl ?_
  | with_reducible refine g_tup (by wtm_at "hp") rfl ?_
  | with_reducible refine g_bl ?_
  | with_reducible refine g_eqI ?_
  | with_reducible refine g_neI ?_
  | with_reducible refine g_lenT (by wtm_at "hp") ?_
  | with_reducible refine g_lenL (by wtm_at "hp") ?_
  | with_reducible refine g_tl4 (by wtm_at "hp") ?_
  | with_reducible refine g_tl3 (by wtm_at "hp") ?_
  | with_reducible refine g_slL (by wtm_at "hp") ?_
  | with_reducible refine g_listL (by wtm_at "hp") ?_
  | with_reducible refine g_setL (by wtm_at "hp") rfl ?_
  | (with_reducible refine g_newT ?_; intro p np hp)
  | (with_reducible refine g_newL ?_; intro p np hp)
  | (with_reducible refine g_all ?_; intro p np)
  | with_reducible refine ⟨by k_dflt (wtm_at "sd"), ?_⟩
  | wtm_at "u1")
local macro_rules | `(tactic| wtm_at "cd") => `(tactic| first | omega | decide +kernel)
local macro_rules | `(tactic| wtm_at "go") => `(tactic| ((try wtm_at "sx"); repeat (wtm_at "g1"; try wtm_at "sx")))
local macro_rules | `(tactic| wtm_at "sm") => `(tactic| first
  | with_reducible assumption
  | with_reducible exact Same.refl _
  | with_reducible exact same_new (by assumption)
  | (with_reducible refine Same.trans ?_ (same_new (by assumption)); wtm_at "sm")
  | (with_reducible refine same_mut ?_ (by wtm_at "fr"); wtm_at "sm")
  | (with_reducible refine Same.trans ?_ (by assumption); wtm_at "sm"))
local macro_rules | `(tactic| wtm_at "fr") => `(tactic| first
  | with_reducible assumption
  | with_reducible exact free2 (by assumption) (by wtm_at "sm"))

local macro_rules | `(tactic| wtm_at "u1") => `(tactic| (with_reducible refine use_is_plain ?_; intro H1 s1))
local macro_rules | `(tactic| wtm_at "u1") => `(tactic| (with_reducible refine use_sign_of ?_; intro H1 s1))
local macro_rules | `(tactic| wtm_at "u1") => `(tactic| (with_reducible refine use_reduced (by assumption) ?_; intro H1 p1 s1 n1 h1))
local macro_rules | `(tactic| wtm_at "u1") => `(tactic| (with_reducible refine use_fits (by assumption) ?_; intro H1 s1))
local macro_rules | `(tactic| wtm_at "u1") => `(tactic| (with_reducible refine use_Float (by assumption) (by assumption) ?_; intro H1 r1 t1 p1 s1 n1 f1 v1))
local macro_rules | `(tactic| wtm_at "u1") => `(tactic| (with_reducible refine use_Float_is_finite (by wtm_at "hp") ?_; intro H1 s1))
local macro_rules | `(tactic| wtm_at "u1") => `(tactic| (with_reducible refine use_Float_ratio (by wtm_at "hp") (by assumption) ?_; intro H1 p1 s1 n1 h1))
local macro_rules | `(tactic| wtm_at "u1") => `(tactic| (with_reducible refine use_is_number (by wtm_at "hp") ?_; intro H1 s1))
local macro_rules | `(tactic| wtm_at "u1") => `(tactic| (with_reducible refine use_is_finite_float (by wtm_at "hp") ?_; intro H1 s1))
section
variable {P : Program} {w : World} {K : PySem.W.Frag} {mg : Str → Option Value} {base : Heap}
/-! ### a float that is just a fraction; what a sum lacks -/
def sp_float_of (K : PySem.W.Frag) : Sp := fun vs H Q _ => ∃ V a b : Int, vs = [.int a, .int b] ∧ Rt V a b ∧ (∃ k : Nat, k ≤ 4000 ∧ b = 2 ^ k) ∧ V.natAbs ≤ 2 ^ 2097 ∧ IsFi V ∧ RetV K V H Q
theorem kn_float_of (T : Tx K mg) : Kn P w K mg base 6 "float_of" ["top", "bottom"] (sp_float_of K) := by
  obtain ⟨fd, F⟩ := T.d_float_of
  refine kn_mk F T.g_float_of sc_float_of (fun _ _ _ _ _ _ us hl => match us, hl with | [_, _], _ => rfl) (fun vs H Q E h => ?_) (fun cdv A outer s H vs Q E hr h => ?_)
  · obtain ⟨V, a, b, rfl, _⟩ := h
    rfl
  · obtain ⟨V, a, b, rfl, rt, hk, hV, hF, q⟩ := h
    refine ⟨_, (pss_cons (ps_set (i := 2) sc_float_of.nd rfl (Or.inl rfl) (pc (kn_nearest T) (hr.mono (by decide)) (pa_cons (pc (kn_sign_of T) (hr.mono (by decide)) (pa_cons (pe_cmpR op_lt (pv 0) pe_int (nomark _)) pa_nil)) (pa_cons (pe_callB call_abs (by rfl) T.n_abs (by decide +kernel) (pa_cons (pv 0) pa_nil)) (pa_cons (pv 1) pa_nil)))))
      (pss_cons (ps_if (pt_not (pt_val (pcm0 T.cf_Float.cls (kn_Float_is_finite T) (hr.mono (by decide)) (pv 2)))) (pss_one (ps_ret pe_non)) pss_nil)
      (pss_cons (ps_set (i := 3) sc_float_of.nd rfl (Or.inl rfl) (pcm0 T.cf_Float.cls (kn_Float_ratio T) (hr.mono (by decide)) (pv 2)))
      (pss_one (ps_ret (pe_ifExp (pt_cmpR op_eq (pe_op op_mulW (pe_ix (ix_tupK K) (pv 3) pe_int (fun _ _ => rfl)) (pv 1)) (pe_op op_mulW (pv 0) (pe_ix (ix_tupK K) (pv 3) pe_int (fun _ _ => rfl))) (nomark _)) (pv 2) pe_non)))))), st_as (σ' := [some _, some _, none, none]) rfl ?_⟩
    have CFK := T.cf_Float
    have hk' := hk
    obtain ⟨k, k4, eb⟩ := hk'
    have la : a.natAbs < 2 ^ 6100 := lt_le (rt_size rt eb (Nat.lt_of_le_of_lt hV (Nat.pow_lt_pow_right (by decide) (by decide : 2097 < 2098)))) (by omega)
    have lb : b.natAbs < 2 ^ 4100 := by rw [eb]; exact lt_le (pow_lt k) (by omega)
    wtm_at "go"
    refine use_near rt hk hV fun G1 r3 g1 m1 ⟨s3, t3, p3, f3, z3⟩ => ?_
    rw [rnd_fix hF] at z3
    obtain ⟨b1, b2, _, _, _⟩ := rt_sizes z3
    have hx := z3.rt.cross rt
    wtm_at "go"
    exact q _ _ (by wtm_at "sm") (by wtm_at "fr") ⟨_, _, _, by wtm_at "hp", z3⟩
theorem use_float_of {H : Hp} {Q : VK} {E : XK} {V a b : Int} (rt : Rt V a b) (hk : ∃ k : Nat, k ≤ 4000 ∧ b = 2 ^ k) (hV : V.natAbs ≤ 2 ^ 2097) (hF : IsFi V) (q : RetV K V H Q) : sp_float_of K [.int a, .int b] H Q E := ⟨V, a, b, rfl, rt, hk, hV, hF, q⟩
theorem rt_sub {v w a b c d : Int} (h : Rt v a b) (k : Rt w c d) : Rt (v - w) (a * d - c * b) (b * d) := by
  have z := h.add k.neg
  rw [show a * d - c * b = a * d + (0 - c) * b by grind, Int.sub_eq_add_neg]
  exact z
/-- two floats, in a new tuple -/
abbrev RetP (K : PySem.W.Frag) (v u : Int) (H : Hp) (Q : VK) : Prop := ∀ H' p r1 r2, Same H H' → H p = none → H' p = some (.tup [.ref r1, .ref r2]) → FV K H' r1 v → FV K H' r2 u → Q (.ref p) H'
def sp_split_by (K : PySem.W.Frag) : Sp := fun vs H Q _ => ∃ (rw r1 r2 : Addr) (v1 v2 : Int), vs = [.ref rw, .ref r1, .ref r2, .bl false] ∧ FV K H rw (rnd (v1 + v2)) ∧ FV K H r1 v1 ∧ FV K H r2 v2 ∧ v1.natAbs ≤ 2 ^ 2097 ∧ RetP K (rnd (v1 + v2)) (v1 + v2 - rnd (v1 + v2)) H Q
theorem kn_split_by (T : Tx K mg) : Kn P w K mg base 7 "split_by" ["whole", "one", "other", "is_product"] (sp_split_by K) := by
  obtain ⟨fd, F⟩ := T.d_split_by
  refine kn_mk F T.g_split_by sc_split_by (fun _ _ _ _ _ _ us hl => match us, hl with | [_, _, _, _], _ => rfl) (fun vs H Q E h => ?_) (fun cdv A outer s H vs Q E hr h => ?_)
  · obtain ⟨rw, r1, r2, v1, v2, rfl, _⟩ := h
    rfl
  · obtain ⟨rw, r1, r2, v1, v2, rfl, ⟨sC, tC, pC, fC, zC⟩, ⟨sA, tA, pA, fA, zA⟩, ⟨sB, tB, pB, fB, zB⟩, l0, q⟩ := h
    refine ⟨_, (pss_cons (ps_if (pt_not (pt_val (pcm0 T.cf_Float.cls (kn_Float_is_finite T) (hr.mono (by decide)) (pv 0)))) (pss_one (ps_ret pe_non)) pss_nil)
      (pss_cons (ps_par3 (i := 4) (j := 5) (l := 6) (by rfl) sc_split_by.nd rfl rfl rfl (by decide) (by decide) (by decide) rfl rfl rfl (pa_cons (pcm0 T.cf_Float.cls (kn_Float_ratio T) (hr.mono (by decide)) (pv 1)) (pa_cons (pcm0 T.cf_Float.cls (kn_Float_ratio T) (hr.mono (by decide)) (pv 2)) (pa_cons (pcm0 T.cf_Float.cls (kn_Float_ratio T) (hr.mono (by decide)) (pv 0)) pa_nil))) (by rfl))
      (pss_cons (ps_if (pt_val (pv 3)) (pss_one (ps_par (i := 7) (j := 8) (by rfl) sc_split_by.nd rfl rfl (by decide) rfl rfl (pa_cons (pe_op op_mulW (pe_ix (ix_tupK K) (pv 4) pe_int (fun _ _ => rfl)) (pe_ix (ix_tupK K) (pv 5) pe_int (fun _ _ => rfl))) (pa_cons (pe_op op_mulW (pe_ix (ix_tupK K) (pv 4) pe_int (fun _ _ => rfl)) (pe_ix (ix_tupK K) (pv 5) pe_int (fun _ _ => rfl))) pa_nil)) (by rfl))) (pss_one (ps_par (i := 7) (j := 8) (by rfl) sc_split_by.nd rfl rfl (by decide) rfl rfl (pa_cons (pe_op op_add (pe_op op_mulW (pe_ix (ix_tupK K) (pv 4) pe_int (fun _ _ => rfl)) (pe_ix (ix_tupK K) (pv 5) pe_int (fun _ _ => rfl))) (pe_op op_mulW (pe_ix (ix_tupK K) (pv 5) pe_int (fun _ _ => rfl)) (pe_ix (ix_tupK K) (pv 4) pe_int (fun _ _ => rfl)))) (pa_cons (pe_op op_mulW (pe_ix (ix_tupK K) (pv 4) pe_int (fun _ _ => rfl)) (pe_ix (ix_tupK K) (pv 5) pe_int (fun _ _ => rfl))) pa_nil)) (by rfl))))
      (pss_cons (ps_set (i := 9) sc_split_by.nd rfl (Or.inl rfl) (pc (kn_float_of T) (hr.mono (by decide)) (pa_cons (pe_op op_sub (pe_op op_mulW (pv 7) (pe_ix (ix_tupK K) (pv 6) pe_int (fun _ _ => rfl))) (pe_op op_mulW (pe_ix (ix_tupK K) (pv 6) pe_int (fun _ _ => rfl)) (pv 8))) (pa_cons (pe_op op_mulW (pv 8) (pe_ix (ix_tupK K) (pv 6) pe_int (fun _ _ => rfl))) pa_nil))))
      (pss_one (ps_ret (pe_ifExp (pt_cmpR op_isN (pv 9) pe_non (nomark _)) pe_non (pe_tup (pa_cons (pv 0) (pa_cons (pv 9) pa_nil)))))))))), st_as (σ' := [some _, some _, some _, some _, none, none, none, none, none, none]) rfl ?_⟩
    have CFK := T.cf_Float
    obtain ⟨b1, b2, k1, hk1, e1⟩ := rt_sizes zA
    obtain ⟨b3, b4, k2, hk2, e2⟩ := rt_sizes zB
    obtain ⟨b5, b6, k3, hk3, e3⟩ := rt_sizes zC
    have rt := rt_sub (zA.rt.add zB.rt) zC.rt
    have hk : ∃ k : Nat, k ≤ 4000 ∧ rbot pA * rbot pB * rbot pC = 2 ^ k := ⟨k1 + k2 + k3, by omega, by rw [e1, e2, e3, Int.pow_add, Int.pow_add]⟩
    have b7 : (rtop sA tA pA * rbot pB + rtop sB tB pB * rbot pA).natAbs < 2 ^ 4301 := by
      have x1 := mul_lt b1 b4 (show 3200 + 1100 ≤ 4300 by decide)
      have x2 := mul_lt b3 b2 (show 3200 + 1100 ≤ 4300 by decide)
      have : (2 : Nat) ^ 4301 = 2 ^ 4300 * 2 := Nat.pow_succ ..
      omega
    have b8 : (rbot pA * rbot pB).natAbs < 2 ^ 2200 := mul_lt b2 b4 (by decide)
    have l1 : (v1 + v2 - rnd (v1 + v2)).natAbs ≤ 2 ^ 2097 := Nat.le_trans (err_le (a := v1) zB.isF) l0
    have iF := err_isF zA.isF zB.isF
    wtm_at "go"
    refine use_float_of rt hk l1 iF fun G4 r4 g4 m4 f4 => ?_
    wtm_at "go"
    exact q _ _ _ _ (by wtm_at "sm") (by wtm_at "fr") (by wtm_at "hp") ⟨_, _, _, by wtm_at "hp", zC⟩ (f4.same (by wtm_at "sm"))
theorem use_split_by {H : Hp} {Q : VK} {E : XK} {rw r1 r2 : Addr} {v1 v2 : Int} (h : FV K H rw (rnd (v1 + v2))) (h1 : FV K H r1 v1) (h2 : FV K H r2 v2) (l : v1.natAbs ≤ 2 ^ 2097) (q : RetP K (rnd (v1 + v2)) (v1 + v2 - rnd (v1 + v2)) H Q) : sp_split_by K [.ref rw, .ref r1, .ref r2, .bl false] H Q E := ⟨rw, r1, r2, v1, v2, rfl, h, h1, h2, l, q⟩
def sp_split_sum (K : PySem.W.Frag) : Sp := fun vs H Q _ => ∃ (r1 r2 : Addr) (v1 v2 : Int), vs = [.ref r1, .ref r2] ∧ FV K H r1 v1 ∧ FV K H r2 v2 ∧ v1.natAbs ≤ 2 ^ 2097 ∧ (v1 + v2).natAbs ≤ 2 ^ 2097 ∧ RetP K (rnd (v1 + v2)) (v1 + v2 - rnd (v1 + v2)) H Q
theorem kn_split_sum (T : Tx K mg) : Kn P w K mg base 8 "split_sum" ["one", "other"] (sp_split_sum K) := by
  obtain ⟨fd, F⟩ := T.d_split_sum
  refine kn_mk F T.g_split_sum sc_split_sum (fun _ _ _ _ _ _ us hl => match us, hl with | [_, _], _ => rfl) (fun vs H Q E h => ?_) (fun cdv A outer s H vs Q E hr h => ?_)
  · obtain ⟨r1, r2, v1, v2, rfl, _⟩ := h
    rfl
  · obtain ⟨r1, r2, v1, v2, rfl, h1, h2, l1, l2, q⟩ := h
    refine ⟨_, (pss_cons (ps_expr (pc (kn_check_finite T) (hr.mono (by decide)) (pa_cons (pv 0) (pa_cons pe_str pa_nil))))
      (pss_cons (ps_expr (pc (kn_check_finite T) (hr.mono (by decide)) (pa_cons (pv 1) (pa_cons pe_str pa_nil))))
      (pss_one (ps_ret (pc (kn_split_by T) (hr.mono (by decide)) (pa_cons (pc (kn_added T) (hr.mono (by decide)) (pa_cons (pv 0) (pa_cons (pv 1) pa_nil))) (pa_cons (pv 0) (pa_cons (pv 1) (pa_cons pe_bl pa_nil))))))))), st_as (σ' := [some _, some _]) rfl ?_⟩
    obtain ⟨sA, tA, pA, fA, zA⟩ := id h1
    obtain ⟨sB, tB, pB, fB, zB⟩ := id h2
    wtm_at "go"
    refine use_check_finite (by wtm_at "hp") fun G1 g1 => ?_
    wtm_at "go"
    refine use_check_finite (by wtm_at "hp") fun G2 g2 => ?_
    wtm_at "go"
    refine use_added (h1.same (by wtm_at "sm")) (h2.same (by wtm_at "sm")) l2 fun G3 r3 g3 m3 f3 => ?_
    wtm_at "go"
    refine use_split_by f3 (h1.same (by wtm_at "sm")) (h2.same (by wtm_at "sm")) l1 fun G4 p4 r4 r5 g4 m4 e4 f4 f5 => ?_
    exact q _ _ _ _ (by wtm_at "sm") (by wtm_at "fr") e4 f4 f5
theorem use_split_sum {H : Hp} {Q : VK} {E : XK} {r1 r2 : Addr} {v1 v2 : Int} (h1 : FV K H r1 v1) (h2 : FV K H r2 v2) (l1 : v1.natAbs ≤ 2 ^ 2097) (l2 : (v1 + v2).natAbs ≤ 2 ^ 2097) (q : RetP K (rnd (v1 + v2)) (v1 + v2 - rnd (v1 + v2)) H Q) : sp_split_sum K [.ref r1, .ref r2] H Q E := ⟨r1, r2, v1, v2, rfl, h1, h2, l1, l2, q⟩
/-! ### the exact sum of a list -/
theorem Lw.one (v : Int) (h : v = 0) : Lw v 0 1 := by
  rw [h]
  exact ⟨⟨by decide, by rw [Int.zero_mul, Int.zero_mul]⟩, by decide⟩
def sp_exact_sum (K : PySem.W.Frag) : Sp := fun vs H Q _ => ∃ (l : Addr) (ps : List (Addr × Int)), vs = [.ref l] ∧ SqL K H l (rfs ps) ∧ ps ≠ [] ∧ ps.length ≤ 100 ∧ FL K H ps ∧ (vls ps).sum.natAbs ≤ 2 ^ 2097 ∧ RetV K (rnd (vls ps).sum) H Q
theorem kn_exact_sum (T : Tx K mg) : Kn P w K mg base 6 "exact_sum" ["numbers"] (sp_exact_sum K) := by
  obtain ⟨fd, F⟩ := T.d_exact_sum
  refine kn_mk F T.g_exact_sum sc_exact_sum (fun _ _ _ _ _ _ us hl => match us, hl with | [_], _ => rfl) (fun vs H Q E h => ?_) (fun cdv A outer s H vs Q E hr h => ?_)
  · obtain ⟨l, ps, rfl, _⟩ := h
    rfl
  · obtain ⟨l, ps, rfl, hl, hn, hlen, hF, hV, q⟩ := h
    refine ⟨_, (pss_cons (ps_if (PW.pt (pw_or (pt_not (pt_val (pe_callB (call_isiK1 K) (by rfl) T.n_isinstance (by decide +kernel) (pa_cons (pv 0) (pa_cons (pe_bltn (v := .ty "list") rfl T.n_list (by decide +kernel) rfl) pa_nil))))) (pw_or1 (pt_not (pt_val (pe_callB (cr_allK K rfl) (by rfl) T.n_all (by decide +kernel) (pa_cons (pe_lc (own := [("number", 1)]) (g := gName 1) (by rfl) sc_exact_sum.nd (pi_listK K (pv 0)) (blkOk_by (own := [("number", 1)]) (N := ["numbers", "number", "top", "bottom", "more", "are_below"]) (sc := defScope s_exact_sum) (by decide +kernel)) (fun _ _ _ _ _ => pg_name (i := 1) sc_exact_sum.nd rfl (Or.inl rfl)) (fun _ _ _ _ _ => pts_nil) (fun _ _ _ _ _ => (pc (kn_is_number T) (hr.mono (by decide)) (pa_cons (pv 1) pa_nil)))) pa_nil))))))) pss_never pss_nil)
      (pss_cons (ps_if (pt_val (pe_callB (cr_anyK K rfl) (by rfl) T.n_any (by decide +kernel) (pa_cons (pe_lc (own := [("number", 1)]) (g := gName 1) (by rfl) sc_exact_sum.nd (pi_listK K (pv 0)) (blkOk_by (own := [("number", 1)]) (N := ["numbers", "number", "top", "bottom", "more", "are_below"]) (sc := defScope s_exact_sum) (by decide +kernel)) (fun _ _ _ _ _ => pg_name (i := 1) sc_exact_sum.nd rfl (Or.inl rfl)) (fun _ _ _ _ _ => pts_nil) (fun _ _ _ _ _ => (pe_and (pe_callB (call_isiK1 K) (by rfl) T.n_isinstance (by decide +kernel) (pa_cons (pv 1) (pa_cons (pe_gr T.g_Float) pa_nil))) (pe_one (pe_not (pcm0 T.cf_Float.cls (kn_Float_is_finite T) (hr.mono (by decide)) (pv 1))))))) pa_nil))) pss_never pss_nil)
      (pss_cons (ps_asg (pe_tup (pa_cons pe_int (pa_cons pe_int pa_nil))) (pg_tup (by rfl) (pgs_cons (pg_name (i := 2) sc_exact_sum.nd rfl (Or.inl rfl)) (pgs_cons (pg_name (i := 3) sc_exact_sum.nd rfl (Or.inl rfl)) pgs_nil))))
      (pss_cons (ps_for PassesOwn.never rfl (pi_listK K (pv 0)) (pg_name (i := 1) sc_exact_sum.nd rfl (Or.inl rfl)) (pss_cons (ps_set (i := 4) sc_exact_sum.nd rfl (Or.inl rfl) (pc (kn_as_fraction T) (hr.mono (by decide)) (pa_cons (pv 1) pa_nil)))
      (pss_cons (ps_par (i := 2) (j := 3) (by rfl) sc_exact_sum.nd rfl rfl (by decide) rfl rfl (pa_cons (pe_op op_add (pe_op op_mulW (pv 2) (pe_ix (ix_tupK K) (pv 4) pe_int (fun _ _ => rfl))) (pe_op op_mulW (pe_ix (ix_tupK K) (pv 4) pe_int (fun _ _ => rfl)) (pv 3))) (pa_cons (pe_op op_mulW (pv 3) (pe_ix (ix_tupK K) (pv 4) pe_int (fun _ _ => rfl))) pa_nil)) (by rfl))
      (pss_one (ps_asg (pc (kn_lowered T) (hr.mono (by decide)) (pa_cons (pv 2) (pa_cons (pv 3) pa_nil))) (pg_tup (by rfl) (pgs_cons (pg_name (i := 2) sc_exact_sum.nd rfl (Or.inl rfl)) (pgs_cons (pg_name (i := 3) sc_exact_sum.nd rfl (Or.inl rfl)) pgs_nil))))))))
      (pss_cons (ps_if (pt_cmpR op_ne (pv 2) pe_int (nomark _)) (pss_one (ps_ret (pc (kn_nearest T) (hr.mono (by decide)) (pa_cons (pc (kn_sign_of T) (hr.mono (by decide)) (pa_cons (pe_cmpR op_lt (pv 2) pe_int (nomark _)) pa_nil)) (pa_cons (pe_callB call_abs (by rfl) T.n_abs (by decide +kernel) (pa_cons (pv 2) pa_nil)) (pa_cons (pv 3) pa_nil)))))) pss_nil)
      (pss_cons (ps_set (i := 5) sc_exact_sum.nd rfl (Or.inl rfl) (pe_and (pe_cmpR (op_neLen K hr.units0) (pv 0) (pe_lst pa_nil) (nomark _)) (pe_one (pe_callB (cr_allK K rfl) (by rfl) T.n_all (by decide +kernel) (pa_cons (pe_lc (own := [("number", 1)]) (g := gName 1) (by rfl) sc_exact_sum.nd (pi_listK K (pv 0)) (blkOk_by (own := [("number", 1)]) (N := ["numbers", "number", "top", "bottom", "more", "are_below"]) (sc := defScope s_exact_sum) (by decide +kernel)) (fun _ _ _ _ _ => pg_name (i := 1) sc_exact_sum.nd rfl (Or.inl rfl)) (fun _ _ _ _ _ => pts_nil) (fun _ _ _ _ _ => (pe_and (pe_callB (call_isiK1 K) (by rfl) T.n_isinstance (by decide +kernel) (pa_cons (pv 1) (pa_cons (pe_gr T.g_Float) pa_nil))) (pe_one (pe_cmpR op_lt (pe_fldK K (pv 1)) pe_int (nomark _)))))) pa_nil)))))
      (pss_one (ps_ret (pcM (kn_Float T) (hr.mono (by decide)) (pa_cons (pc (kn_sign_of T) (hr.mono (by decide)) (pa_cons (pe_and (pv 5) (pe_one (pe_callB (cr_allK K rfl) (by rfl) T.n_all (by decide +kernel) (pa_cons (pe_lc (own := [("number", 1)]) (g := gName 1) (by rfl) sc_exact_sum.nd (pi_listK K (pv 0)) (blkOk_by (own := [("number", 1)]) (N := ["numbers", "number", "top", "bottom", "more", "are_below"]) (sc := defScope s_exact_sum) (by decide +kernel)) (fun _ _ _ _ _ => pg_name (i := 1) sc_exact_sum.nd rfl (Or.inl rfl)) (fun _ _ _ _ _ => pts_nil) (fun _ _ _ _ _ => (pe_cmpR op_eq (pe_fldK K (pv 1)) pe_int (nomark _)))) pa_nil)))) pa_nil)) (pa_cons pe_int (pa_cons pe_int pa_nil)))))))))))), st_as (σ' := [some _, none, none, none, none, none]) rfl ?_⟩
    have CFK := T.cf_Float
    have hlr : (rfs ps).length < 16777216 := by rw [List.length_map]; omega
    wtm_at "go"
    refine lcL_const (b := true) (rfs ps) (by wtm_at "hp") hlr (fun x H' N hx s1 hN => ?_) (fun D H' s1 nD hD => ?_)
    · obtain ⟨q0, hq0, rfl⟩ := rfs_mem hx
      obtain ⟨s0, t0, p0, f0, z0⟩ := (hF q0 hq0).same s1
      wtm_at "go"
      exact hN _ (by wtm_at "sm")
    refine g_allT _ hD ?_
    wtm_at "go"
    refine lcL_const (b := false) (rfs ps) (by wtm_at "hp") hlr (fun x H2 N hx s2 hN => ?_) (fun D2 H2 s2 nD2 hD2 => ?_)
    · obtain ⟨q0, hq0, rfl⟩ := rfs_mem hx
      obtain ⟨s0, t0, p0, f0, z0⟩ := (hF q0 hq0).same (s1.trans s2)
      wtm_at "go"
      exact hN _ (by wtm_at "sm")
    refine g_anyF _ hD2 ?_
    wtm_at "go"
    rename_i p np hp
    have sA : Same H (upd H2 p (.tup [.int 0, .int 1])) := by wtm_at "sm"
    generalize upd H2 p (.tup [.int 0, .int 1]) = HA at sA ⊢
    clear hp np hD2 nD2 hD nD
    have hsz : ∀ (i : Nat) (a b : Int), Lw (vls (ps.take i)).sum a b → a.natAbs < 2 ^ 3200 ∧ b.natAbs < 2 ^ 1100 := by
      intro i a b hl
      obtain ⟨k, hk, e⟩ := hl.bpow
      have h1 : (vls (ps.take i)).sum.natAbs ≤ (vls (ps.take i)).length * 2 ^ 2098 := sum_abs fun v hv => by
        obtain ⟨q0, hq, rfl⟩ := List.mem_map.mp hv
        obtain ⟨_, _, _, _, z⟩ := hF q0 (List.mem_of_mem_take hq)
        exact Nat.le_of_lt z.lt
      have h2 : (vls (ps.take i)).length ≤ 100 := by rw [List.length_map, List.length_take]; omega
      have h3 : (vls (ps.take i)).sum.natAbs < 2 ^ 2105 := by
        have e : (2 : Nat) ^ 2105 = 128 * 2 ^ 2098 := by rw [show (2105 : Nat) = 7 + 2098 by rfl, Nat.pow_add]
        have e0 := Nat.two_pow_pos 2098
        rw [e]
        generalize (2 : Nat) ^ 2098 = X at h1 e0 ⊢
        have h4 := Nat.mul_le_mul_right X h2
        omega
      exact ⟨lt_le (rt_size hl.toRt e h3) (by omega), by rw [e]; exact lt_le (pow_lt k) (by omega)⟩
    refine loopL (rfs ps) (fun i σ G => ∃ (o m : Option V) (a b : Int), σ = [some (.ref l), o, some (.int a), some (.int b), m, none] ∧ Same H G ∧ Lw (vls (ps.take i)).sum a b) ⟨none, none, 0, 1, rfl, sA, Lw.one _ rfl⟩ (fun i σ G _ I => ?_) (fun i x σ G hx I => ?_) (fun σ G I => ?_)
    · obtain ⟨_, _, _, _, _, sG, _⟩ := I
      exact sG.seq hl
    · obtain ⟨o, m, a, b, rfl, sG, hL⟩ := I
      obtain ⟨q0, hq0, rfl⟩ := rfs_at hx
      obtain ⟨s0, t0, p0, f0, z0⟩ := (hF q0 (List.mem_of_getElem? hq0)).same sG
      obtain ⟨b1, b2, _, _, _⟩ := rt_sizes z0
      obtain ⟨b3, b4⟩ := hsz i a b hL
      have rt := hL.toRt.add z0.rt
      have c1 : (a * rbot p0 + rtop s0 t0 p0 * b).natAbs < 2 ^ 8000 := by
        have x1 := mul_lt b3 b2 (show 3200 + 1100 ≤ 7000 by decide)
        have x2 := mul_lt b1 b4 (show 3200 + 1100 ≤ 7000 by decide)
        have e : (2 : Nat) ^ 7001 = 2 ^ 7000 * 2 := Nat.pow_succ ..
        exact lt_le (a := 7001) (by omega) (by decide)
      have c2 : (b * rbot p0).natAbs < 2 ^ 8000 := mul_lt b4 b2 (by decide)
      wtm_at "go"
      refine use_as_fraction f0 z0 fun G1 q1 g1 m1 e1 => ?_
      wtm_at "go"
      refine use_lowered rt.b0 c1 c2 fun G2 q2 g2 m2 e2 => ?_
      wtm_at "go"
      refine ⟨_, _, _, _, rfl, by wtm_at "sm", ?_⟩
      have es : (vls (ps.take (i + 1))).sum = (vls (ps.take i)).sum + q0.2 := by
        show ((ps.take (i + 1)).map _).sum = _
        rw [List.take_add_one, hq0, List.map_append, List.sum_append]
        simp
      rw [es]
      exact rt.low
    · obtain ⟨o, m, a, b, rfl, sG, hL⟩ := I
      rw [List.length_map, List.take_length] at hL
      obtain ⟨k, hk, eb⟩ := hL.bpow
      wtm_at "go"
      by_cases c : a = 0
      · have hv0 : (vls ps).sum = 0 := by
          have e := hL.e
          rw [c, Int.zero_mul] at e
          rcases Int.mul_eq_zero.mp e.symm with z | z
          · exact z
          · have := hL.b0
            omega
        rw [hv0, rnd_zero] at q
        have F0 : Fit 0 0 0 := .inl ⟨rfl, rfl⟩
        have fin : ∀ (x : Bool) G', Same H G' → MakeG (He.ga K (Str.ofString "Float")) (sp_Float___init__ K) [V.int (if x = true then -1 else 1), V.int 0, V.int 0] G' Q := by
          intro x G' g
          have hs : Sgn (if x = true then -1 else 1) := by unfold Sgn; split <;> omega
          refine use_Float hs F0 fun G3 r3 t3 p3 g3 m3 f3 z3 => q _ _ (by wtm_at "sm") (by wtm_at "fr") ⟨_, _, _, f3, ?_⟩
          rw [Int.mul_zero] at z3
          exact z3
        have hln : (rfs ps).length ≠ ([] : List V).length := by
          rw [List.length_map]
          have : ps.length ≠ 0 := fun z => hn (List.length_eq_zero_iff.mp z)
          simpa using this
        wtm_at "go"
        refine g_neLen (by wtm_at "hp") (by wtm_at "hp") hln ?_
        wtm_at "go"
        rename_i p5 n5 h5
        refine lcL_bls (rfs ps) (by wtm_at "hp") hlr (fun x G6 N hx g6 hN => ?_) (fun D6 G6 bs g6 m6 e6 => ?_)
        · obtain ⟨q0, hq0, rfl⟩ := rfs_mem hx
          obtain ⟨s0, t0, p0, f0, z0⟩ := (hF q0 hq0).same (show Same H G6 by wtm_at "sm")
          wtm_at "go"
          exact hN _ _ (by wtm_at "sm")
        refine g_allL bs (sql_of e6) ?_
        wtm_at "go"
        refine ite2 (fun z => ?_) (fun z => ?_)
        · refine lcL_bls (rfs ps) (by wtm_at "hp") hlr (fun x G7 N hx g7 hN => ?_) (fun D7 G7 bs2 g7 m7 e7 => ?_)
          · obtain ⟨q0, hq0, rfl⟩ := rfs_mem hx
            obtain ⟨s0, t0, p0, f0, z0⟩ := (hF q0 hq0).same (show Same H G7 by wtm_at "sm")
            wtm_at "go"
            exact hN _ _ (by wtm_at "sm")
          refine g_allL bs2 (sql_of e7) (use_sign_of fun G8 g8 => ?_)
          exact fin _ _ (by wtm_at "sm")
        · refine use_sign_of fun G8 g8 => ?_
          exact fin _ _ (by wtm_at "sm")
      · wtm_at "go"
        exact use_near hL.toRt ⟨k, by omega, eb⟩ hV fun G3 r3 g3 m3 f3 => q _ _ (by wtm_at "sm") (by wtm_at "fr") f3
theorem use_exact_sum {H : Hp} {Q : VK} {E : XK} {l : Addr} {ps : List (Addr × Int)} (hl : SqL K H l (rfs ps)) (hn : ps ≠ []) (hlen : ps.length ≤ 100) (hF : FL K H ps) (hV : (vls ps).sum.natAbs ≤ 2 ^ 2097) (q : RetV K (rnd (vls ps).sum) H Q) : sp_exact_sum K [.ref l] H Q E := ⟨l, ps, rfl, hl, hn, hlen, hF, hV, q⟩
end
end W85

set_option maxHeartbeats 4000000
set_option exponentiation.threshold 9000
namespace W85
open PySem PySem.Spec PyProof.Rows L2 WK Fm
local macro_rules | `(tactic| wtm_at "hp") => `(tactic| first
  | with_reducible assumption
  | with_reducible exact upd_same
  | with_reducible exact sqt_of upd_same
  | with_reducible exact sql_of upd_same
  | with_reducible exact sqt_s1 (by assumption) (by wtm_at "sm")
  | with_reducible exact sqt_s2 (by assumption) (by wtm_at "sm")
  | with_reducible exact FO.same (by assumption) (by wtm_at "sm")
  | with_reducible exact sqt_all (by assumption)
  | with_reducible exact sql_s1 (by assumption) (by wtm_at "sm")
  | with_reducible exact sql_s2 (by assumption) (by wtm_at "sm")
  | with_reducible exact at_s1 (by assumption) (by wtm_at "sm"))
local macro_rules | `(tactic| wtm_at "sd") => `(tactic| first
  | exact cdw_all (by assumption)
  | exact wide_mul (by assumption) (by assumption) (by decide) (by decide) (Nat.le_of_ble_eq_true rfl)
  | exact Or.inl ⟨by omega, by omega⟩
  | exact Or.inr ⟨by omega, by omega⟩
  | exact ⟨by omega, by decide⟩
  | exact cdw_of (by omega) (by omega)
  | exact cpow_of (by omega) (by omega) (by omega)
  | (dsimp only; omega)
  | (show (0 : Int) < _; omega)
  | (show (0 : Int) ≤ _; omega))
local macro_rules | `(tactic| wtm_at "sx") => `(tactic| simp only [x_seq, x_next, x_brk, x_cont, x_never, x_drop, x_asg, x_name, x_sub, x_ret, x_retN, x_ifS, x_parD, x_par3D, x_c, x_op, x_un, x_test, x_tB, x_yes, x_not, x_and, x_or, x_andV, x_orV, x_notV, x_ifE, x_chain, x_nil, x_cons, x_tupD, x_lstD, x_call, x_callX, x_cb, x_forR1, x_forR2, x_forL, x_forT, x_bits, x_part, x_nopart, x_sl, x_bm0, x_bm, x_lcL, x_lcT, x_lcR1, x_aug, x_ipI, x_ib, x_bi, x_onelB, x_two, x_onel, x_disp, x_pairs0, x_pairsS, x_dget2, x_fld, x_fldT, x_meth0, x_make, x_sfld, x_eqIS, x_neIS,
  x_var0, x_var1, x_var2, x_var3, x_var4, x_var5, x_var6, x_var7, x_var8, x_var9, x_var10, x_var11, x_var12, x_var13, x_var14, x_var15, List.set_cons_zero, x_set1, x_set2, x_set3, x_set4, x_set5, x_set6, x_set7, x_set8, x_set9, x_set10, x_set11, x_set12, x_set13, x_set14, x_set15, x_i0, x_iC, x_uI, x_bl, x_eqI, x_neI, x_eqS, x_neS, x_par, x_par3, x_gnil, x_gcons, x_one, x_rt, x_nx, x_bk, x_ct, cx_K, cx_K1, List.append_nil, List.cons_append, List.nil_append, if_true, if_false, ite_not, decide_true, decide_false, Bool.not_true, Bool.not_false, Bool.false_eq_true, decide_eq_true_eq, Bool.not_eq_true', Bool.not_eq_false', decide_eq_false_iff_not, true_and, and_true, reduceCtorEq, Int.reduceLT, Int.reduceLE, Int.reduceToNat, false_and, exists_false, or_false, false_or, wipe, List.map_cons, List.map_nil])
local macro_rules | `(tactic| wtm_at "g1") => `(tactic| first
  | with_reducible refine g_i0 ?_
  | with_reducible refine g_sign (by assumption) (by wtm_at "hp") ?_
  | with_reducible refine g_top (by assumption) (by wtm_at "hp") ?_
  | with_reducible refine g_power (by assumption) (by wtm_at "hp") ?_
  | with_reducible refine isi_F (by assumption) (by wtm_at "hp") ?_
  | with_reducible refine isi_ll (by wtm_at "hp") ?_
  | with_reducible refine g_inT (bb := false) (by wtm_at "hp") rfl rfl inV_iS ?_
  | with_reducible refine g_notInT (bb := false) (by wtm_at "hp") rfl rfl inV_iS ?_
  | with_reducible refine g_iC (by k_dflt (wtm_at "sd")) ?_
  | with_reducible refine g_ixT (by wtm_at "hp") rfl ?_
  | with_reducible refine g_pY (by k_dflt (wtm_at "cd")) ?_
  | with_reducible refine g_pX (by k_dflt (wtm_at "cd")) ?_
  | with_reducible refine g_size (by k_dflt exact (Nat.le_of_ble_eq_true rfl)) ?_
  | with_reducible refine isi_ii ?_
  | with_reducible refine isi_ib ?_
  | with_reducible refine isi_ss ?_
  | with_reducible refine isi_tt (by wtm_at "hp") ?_
  | with_reducible refine isi_bb ?_
  | with_reducible refine isi_is ?_
  | with_reducible refine g_inT (bb := true) (by wtm_at "hp") rfl rfl (by decide +kernel) ?_
  | with_reducible refine g_inT (bb := false) (by wtm_at "hp") rfl rfl (by decide +kernel) ?_
  | with_reducible refine g_notInT (bb := true) (by wtm_at "hp") rfl rfl (by decide +kernel) ?_
  | with_reducible refine g_notInT (bb := false) (by wtm_at "hp") rfl rfl (by decide +kernel) ?_
  | with_reducible refine g_ixL (by wtm_at "hp") rfl ?_
  | with_reducible refine g_tup (by wtm_at "hp") rfl ?_
  | with_reducible refine g_bl ?_
  | with_reducible refine g_eqI ?_
  | with_reducible refine g_neI ?_
  | with_reducible refine g_lenT (by wtm_at "hp") ?_
  | with_reducible refine g_lenL (by wtm_at "hp") ?_
  | with_reducible refine g_tl4 (by wtm_at "hp") ?_
  | with_reducible refine g_tl3 (by wtm_at "hp") ?_
  | with_reducible refine g_slL (by wtm_at "hp") ?_
  | with_reducible refine g_listL (by wtm_at "hp") ?_
  | with_reducible refine g_setL (by wtm_at "hp") rfl ?_
  | (with_reducible refine g_newT ?_; intro p np hp)
  | (with_reducible refine g_newL ?_; intro p np hp)
  | (with_reducible refine g_all ?_; intro p np)
  | with_reducible refine ⟨by k_dflt (wtm_at "sd"), ?_⟩
  | wtm_at "u1")
local macro_rules | `(tactic| wtm_at "cd") => `(tactic| first | omega | decide +kernel)
local macro_rules | `(tactic| wtm_at "go") => `(tactic| ((try wtm_at "sx"); repeat (wtm_at "g1"; try wtm_at "sx")))
local macro_rules | `(tactic| wtm_at "sm") => `(tactic| first
  | with_reducible assumption
  | with_reducible exact Same.refl _
  | with_reducible exact same_new (by assumption)
  | (with_reducible refine Same.trans ?_ (same_new (by assumption)); wtm_at "sm")
  | (with_reducible refine same_mut ?_ (by wtm_at "fr"); wtm_at "sm")
  | (with_reducible refine Same.trans ?_ (by assumption); wtm_at "sm"))
local macro_rules | `(tactic| wtm_at "fr") => `(tactic| first
  | with_reducible assumption
  | with_reducible exact free2 (by assumption) (by wtm_at "sm"))

local macro_rules | `(tactic| wtm_at "u1") => `(tactic| (with_reducible refine use_is_plain ?_; intro H1 s1))
local macro_rules | `(tactic| wtm_at "u1") => `(tactic| (with_reducible refine use_sign_of ?_; intro H1 s1))
local macro_rules | `(tactic| wtm_at "u1") => `(tactic| (with_reducible refine use_reduced (by assumption) ?_; intro H1 p1 s1 n1 h1))
local macro_rules | `(tactic| wtm_at "u1") => `(tactic| (with_reducible refine use_fits (by assumption) ?_; intro H1 s1))
local macro_rules | `(tactic| wtm_at "u1") => `(tactic| (with_reducible refine use_Float (by assumption) (by assumption) ?_; intro H1 r1 t1 p1 s1 n1 f1 v1))
local macro_rules | `(tactic| wtm_at "u1") => `(tactic| (with_reducible refine use_Float_is_finite (by wtm_at "hp") ?_; intro H1 s1))
local macro_rules | `(tactic| wtm_at "u1") => `(tactic| (with_reducible refine use_Float_ratio (by wtm_at "hp") (by assumption) ?_; intro H1 p1 s1 n1 h1))
section
variable {P : Program} {w : World} {K : PySem.W.Frag} {mg : Str → Option Value} {base : Heap}
/-! ### ranks -/
def mre (t p : Int) : Int := if p + 1074 < 53 - bits t.natAbs then p + 1074 else 53 - bits t.natAbs
def sp_spread_out (K : PySem.W.Frag) : Sp := fun vs H Q _ => ∃ (r : Addr) (s t p w : Int), vs = [.ref r] ∧ FO K H r s t p ∧ NF t p w ∧ t ≠ 0 ∧ RetT [.int (t * 2 ^ (mre t p).toNat), .int (p - mre t p)] H Q
theorem kn_spread_out (T : Tx K mg) : Kn P w K mg base 1 "spread_out" ["number"] (sp_spread_out K) := by
  obtain ⟨fd, F⟩ := T.d_spread_out
  refine kn_mk F T.g_spread_out sc_spread_out (fun _ _ _ _ _ _ us hl => match us, hl with | [_], _ => rfl) (fun vs H Q E h => ?_) (fun cdv A outer s H vs Q E hr h => ?_)
  · obtain ⟨r, s0, t, p, w0, rfl, _⟩ := h
    rfl
  · obtain ⟨r, s0, t, p, w0, rfl, hf, hn, h0, q⟩ := h
    refine ⟨_, (pss_cons (ps_set (i := 1) sc_spread_out.nd rfl (Or.inl rfl) (pe_callB (call_min2 rfl) (by rfl) T.n_min (by decide +kernel) (pa_cons (pe_op op_sub pe_int (pe_bits (pe_fldK K (pv 0)))) (pa_cons (pe_op op_sub (pe_fldK K (pv 0)) (pe_gi T.c_LOWEST)) pa_nil))))
      (pss_one (ps_ret (pe_tup (pa_cons (pe_op op_shl (pe_fldK K (pv 0)) (pv 1)) (pa_cons (pe_op op_sub (pe_fldK K (pv 0)) (pv 1)) pa_nil)))))), st_as (σ' := [some _, none]) rfl ?_⟩
    have CFK := T.cf_Float
    have e0 := ib_eq t
    have hb : bits t.natAbs ≤ 53 := bits_le.mpr (by have := hn.tlt; have := hn.nonneg; omega)
    have p0 := hn.p0
    have em : (if p - -1074 < 53 - (Builtin.Int.intBits t : Int) then p - -1074 else 53 - (Builtin.Int.intBits t : Int)) = mre t p := by
      unfold mre
      rw [e0]
      split <;> split <;> omega
    have m0 : 0 ≤ mre t p ∧ mre t p ≤ 53 := by unfold mre; split <;> omega
    have t0 := hn.nonneg
    have t1 := hn.tlt
    wtm_at "go"
    rw [em]
    wtm_at "go"
    exact q _ _ (by wtm_at "sm") (by wtm_at "fr") (by wtm_at "hp")
theorem use_spread_out {H : Hp} {Q : VK} {E : XK} {r : Addr} {s t p w : Int} (hf : FO K H r s t p) (hn : NF t p w) (h0 : t ≠ 0) (q : RetT [.int (t * 2 ^ (mre t p).toNat), .int (p - mre t p)] H Q) : sp_spread_out K [.ref r] H Q E := ⟨r, s, t, p, w, rfl, hf, hn, h0, q⟩
def sp_rank_of (K : PySem.W.Frag) : Sp := fun vs H Q _ => ∃ (r : Addr) (v : Int), vs = [.ref r] ∧ FV K H r v ∧ Ret (.int (rk v)) H Q
theorem kn_rank_of (T : Tx K mg) : Kn P w K mg base 2 "rank_of" ["number"] (sp_rank_of K) := by
  obtain ⟨fd, F⟩ := T.d_rank_of
  refine kn_mk F T.g_rank_of sc_rank_of (fun _ _ _ _ _ _ us hl => match us, hl with | [_], _ => rfl) (fun vs H Q E h => ?_) (fun cdv A outer s H vs Q E hr h => ?_)
  · obtain ⟨r, v, rfl, _⟩ := h
    rfl
  · obtain ⟨r, v, rfl, ⟨s0, t, p, f, z⟩, q⟩ := h
    refine ⟨_, (pss_cons (ps_if (PW.pt (pw_or (pt_not (pt_val (pe_callB (call_isiK1 K) (by rfl) T.n_isinstance (by decide +kernel) (pa_cons (pv 0) (pa_cons (pe_gr T.g_Float) pa_nil))))) (pw_or1 (pt_cmpR op_eq (pe_fldK K (pv 0)) pe_str (nomark _))))) pss_never pss_nil)
      (pss_cons (ps_if (pt_cmpR op_eq (pe_fldK K (pv 0)) pe_int (nomark _)) (pss_one (ps_ret pe_int)) pss_nil)
      (pss_cons (ps_if (pt_cmpR op_eq (pe_fldK K (pv 0)) pe_str (nomark _)) pss_never pss_nil)
      (pss_cons (ps_asg (pc (kn_spread_out T) (hr.mono (by decide)) (pa_cons (pv 0) pa_nil)) (pg_tup (by rfl) (pgs_cons (pg_name (i := 1) sc_rank_of.nd rfl (Or.inl rfl)) (pgs_cons (pg_name (i := 2) sc_rank_of.nd rfl (Or.inl rfl)) pgs_nil))))
      (pss_one (ps_ret (pe_op op_mul (pe_fldK K (pv 0)) (pe_op op_add (pv 1) (pe_op op_mul (pe_op op_sub (pv 2) (pe_gi T.c_LOWEST)) (pe_gi T.c_HALF_ROOM)))))))))), st_as (σ' := [some _, none, none]) rfl ?_⟩
    have CFK := T.cf_Float
    by_cases c : t = 0
    · have hv := z.zero.mp c
      have e : rk v = 0 := by rw [hv]; unfold rk; rw [if_pos (by omega)]; exact congrArg Nat.cast rkN_zero
      rw [e] at q
      wtm_at "go"
      exact q _ (by wtm_at "sm")
    · obtain ⟨w0, hn, e⟩ := rank_sgn z c
      obtain ⟨hm0, he⟩ := rank_eq hn c (m := mre t p) rfl
      obtain ⟨hs, t0, t1, p0, p1⟩ := V3.small z
      rw [← e, ← he] at q
      wtm_at "go"
      refine use_spread_out (by wtm_at "hp") hn c fun G1 q1 g1 m1 e1 => ?_
      have hm1 : mre t p ≤ 53 := by
        unfold mre
        have hb : bits t.natAbs ≤ 53 := bits_le.mpr (by omega)
        split <;> omega
      wtm_at "go"
      rw [show p - mre t p - -1074 = p - mre t p + 1074 by omega]
      exact q _ (by wtm_at "sm")
theorem use_rank_of {H : Hp} {Q : VK} {E : XK} {r : Addr} {v : Int} (h : FV K H r v) (q : Ret (.int (rk v)) H Q) : sp_rank_of K [.ref r] H Q E := ⟨r, v, rfl, h, q⟩
def sp_of_rank (K : PySem.W.Frag) : Sp := fun vs H Q _ => ∃ n : Int, vs = [.int n] ∧ n.natAbs < 2047 * 2 ^ 52 ∧ RetV K (urk n) H Q
theorem kn_of_rank (T : Tx K mg) : Kn P w K mg base 5 "of_rank" ["rank"] (sp_of_rank K) := by
  obtain ⟨fd, F⟩ := T.d_of_rank
  refine kn_mk F T.g_of_rank sc_of_rank (fun _ _ _ _ _ _ us hl => match us, hl with | [_], _ => rfl) (fun vs H Q E h => ?_) (fun cdv A outer s H vs Q E hr h => ?_)
  · obtain ⟨n, rfl, _⟩ := h
    rfl
  · obtain ⟨n, rfl, hn, q⟩ := h
    refine ⟨_, (pss_cons (ps_if (PW.pt (pw_or (pt_not (pt_val (pe_callB (call_isiK1 K) (by rfl) T.n_isinstance (by decide +kernel) (pa_cons (pv 0) (pa_cons (pe_bltn (v := .ty "int") rfl T.n_int (by decide +kernel) rfl) pa_nil))))) (pw_or (pt_val (pe_callB (call_isiK1 K) (by rfl) T.n_isinstance (by decide +kernel) (pa_cons (pv 0) (pa_cons (pe_bltn (v := .ty "bool") rfl T.n_bool (by decide +kernel) rfl) pa_nil)))) (pw_or1 (pt_cmpR op_gt (pe_callB call_abs (by rfl) T.n_abs (by decide +kernel) (pa_cons (pv 0) pa_nil)) (pe_gi T.c_GREATEST_RANK) (nomark _)))))) pss_never pss_nil)
      (pss_cons (ps_if (pt_cmpR op_eq (pe_callB call_abs (by rfl) T.n_abs (by decide +kernel) (pa_cons (pv 0) pa_nil)) (pe_gi T.c_GREATEST_RANK) (nomark _)) pss_never pss_nil)
      (pss_cons (ps_set (i := 1) sc_of_rank.nd rfl (Or.inl rfl) (pe_callB (call_max2 rfl) (by rfl) T.n_max (by decide +kernel) (pa_cons (pe_op op_sub (pe_op op_fdivW (pe_callB call_abs (by rfl) T.n_abs (by decide +kernel) (pa_cons (pv 0) pa_nil)) (pe_gi T.c_HALF_ROOM)) pe_int) (pa_cons pe_int pa_nil))))
      (pss_one (ps_ret (pcM (kn_Float T) (hr.mono (by decide)) (pa_cons (pc (kn_sign_of T) (hr.mono (by decide)) (pa_cons (pe_cmpR op_lt (pv 0) pe_int (nomark _)) pa_nil)) (pa_cons (pe_op op_sub (pe_callB call_abs (by rfl) T.n_abs (by decide +kernel) (pa_cons (pv 0) pa_nil)) (pe_op op_mul (pv 1) (pe_gi T.c_HALF_ROOM))) (pa_cons (pe_op op_add (pv 1) (pe_gi T.c_LOWEST)) pa_nil))))))))), st_as (σ' := [some _, none]) rfl ?_⟩
    have CFK := T.cf_Float
    obtain ⟨P0, hP, hfit, hP2⟩ := of_rank_fit hn
    have e52 : (2 : Nat) ^ 52 = 4503599627370496 := by decide
    rw [e52] at hn hP
    have ea : (if n < 0 then -n else n) = (n.natAbs : Int) := by split <;> omega
    have hs : Sgn (if n < 0 then -1 else 1) := by unfold Sgn; split <;> omega
    have eu : (if n < 0 then (-1 : Int) else 1) * (unrk n.natAbs : Int) = urk n := by
      unfold urk
      generalize unrk n.natAbs = x
      split <;> split <;> omega
    wtm_at "go"
    simp only [ea]
    have eP : (if 0 > (n.natAbs : Int) / 4503599627370496 - 1 then 0 else (n.natAbs : Int) / 4503599627370496 - 1) = (P0 : Int) := by split <;> omega
    wtm_at "go"
    simp only [eP]
    wtm_at "go"
    rw [show (P0 : Int) + -1074 = P0 - 1074 by omega]
    refine use_Float hs hfit fun G r t' p' g m f z => ?_
    rw [eu] at z
    exact q _ _ (by wtm_at "sm") (by wtm_at "fr") ⟨_, _, _, f, z⟩
theorem use_of_rank {H : Hp} {Q : VK} {E : XK} {n : Int} (h : n.natAbs < 2047 * 2 ^ 52) (q : RetV K (urk n) H Q) : sp_of_rank K [.int n] H Q E := ⟨n, rfl, h, q⟩
def sp_next_up (K : PySem.W.Frag) : Sp := fun vs H Q _ => ∃ (r : Addr) (v : Int), vs = [.ref r] ∧ FV K H r v ∧ v.natAbs ≤ 2 ^ 1700 ∧ RetV K (urk (rk v + 1)) H Q
theorem kn_next_up (T : Tx K mg) : Kn P w K mg base 6 "next_up" ["number"] (sp_next_up K) := by
  obtain ⟨fd, F⟩ := T.d_next_up
  refine kn_mk F T.g_next_up sc_next_up (fun _ _ _ _ _ _ us hl => match us, hl with | [_], _ => rfl) (fun vs H Q E h => ?_) (fun cdv A outer s H vs Q E hr h => ?_)
  · obtain ⟨r, v, rfl, _⟩ := h
    rfl
  · obtain ⟨r, v, rfl, h, hv, q⟩ := h
    refine ⟨_, (pss_cons (ps_if (pt_not (pt_val (pe_callB (call_isiK1 K) (by rfl) T.n_isinstance (by decide +kernel) (pa_cons (pv 0) (pa_cons (pe_gr T.g_Float) pa_nil))))) pss_never pss_nil)
      (pss_cons (ps_if (PW.pt (pw_or (pt_cmpR op_eq (pe_fldK K (pv 0)) pe_str (nomark _)) (pw_or1 (PW.pt (pw_and (pt_cmpR op_eq (pe_fldK K (pv 0)) pe_str (nomark _)) (pw_and1 (pt_cmpR op_gt (pe_fldK K (pv 0)) pe_int (nomark _)))))))) pss_never pss_nil)
      (pss_one (ps_ret (pc (kn_of_rank T) (hr.mono (by decide)) (pa_cons (pe_op op_add (pc (kn_rank_of T) (hr.mono (by decide)) (pa_cons (pv 0) pa_nil)) pe_int) pa_nil)))))), st_as (σ' := [some _]) rfl ?_⟩
    have CFK := T.cf_Float
    obtain ⟨s0, t, p, f, z⟩ := id h
    have hb := (rk_bound (by decide) hv 1 (.inl rfl)).1
    wtm_at "go"
    refine use_rank_of (h.same (by wtm_at "sm")) fun G1 g1 => ?_
    wtm_at "go"
    exact use_of_rank (by omega) fun G2 r2 g2 m2 f2 => q _ _ (by wtm_at "sm") (by wtm_at "fr") f2
theorem use_next_up {H : Hp} {Q : VK} {E : XK} {r : Addr} {v : Int} (h : FV K H r v) (hv : v.natAbs ≤ 2 ^ 1700) (q : RetV K (urk (rk v + 1)) H Q) : sp_next_up K [.ref r] H Q E := ⟨r, v, rfl, h, hv, q⟩
def sp_next_down (K : PySem.W.Frag) : Sp := fun vs H Q _ => ∃ (r : Addr) (v : Int), vs = [.ref r] ∧ FV K H r v ∧ v.natAbs ≤ 2 ^ 1700 ∧ RetV K (urk (rk v - 1)) H Q
theorem kn_next_down (T : Tx K mg) : Kn P w K mg base 6 "next_down" ["number"] (sp_next_down K) := by
  obtain ⟨fd, F⟩ := T.d_next_down
  refine kn_mk F T.g_next_down sc_next_down (fun _ _ _ _ _ _ us hl => match us, hl with | [_], _ => rfl) (fun vs H Q E h => ?_) (fun cdv A outer s H vs Q E hr h => ?_)
  · obtain ⟨r, v, rfl, _⟩ := h
    rfl
  · obtain ⟨r, v, rfl, h, hv, q⟩ := h
    refine ⟨_, (pss_cons (ps_if (pt_not (pt_val (pe_callB (call_isiK1 K) (by rfl) T.n_isinstance (by decide +kernel) (pa_cons (pv 0) (pa_cons (pe_gr T.g_Float) pa_nil))))) pss_never pss_nil)
      (pss_cons (ps_if (PW.pt (pw_or (pt_cmpR op_eq (pe_fldK K (pv 0)) pe_str (nomark _)) (pw_or1 (PW.pt (pw_and (pt_cmpR op_eq (pe_fldK K (pv 0)) pe_str (nomark _)) (pw_and1 (pt_cmpR op_lt (pe_fldK K (pv 0)) pe_int (nomark _)))))))) pss_never pss_nil)
      (pss_one (ps_ret (pc (kn_of_rank T) (hr.mono (by decide)) (pa_cons (pe_op op_sub (pc (kn_rank_of T) (hr.mono (by decide)) (pa_cons (pv 0) pa_nil)) pe_int) pa_nil)))))), st_as (σ' := [some _]) rfl ?_⟩
    have CFK := T.cf_Float
    obtain ⟨s0, t, p, f, z⟩ := id h
    have hb := (rk_bound (by decide) hv (-1) (.inr rfl)).1
    wtm_at "go"
    refine use_rank_of (h.same (by wtm_at "sm")) fun G1 g1 => ?_
    wtm_at "go"
    exact use_of_rank (by omega) fun G2 r2 g2 m2 f2 => q _ _ (by wtm_at "sm") (by wtm_at "fr") f2
theorem use_next_down {H : Hp} {Q : VK} {E : XK} {r : Addr} {v : Int} (h : FV K H r v) (hv : v.natAbs ≤ 2 ^ 1700) (q : RetV K (urk (rk v - 1)) H Q) : sp_next_down K [.ref r] H Q E := ⟨r, v, rfl, h, hv, q⟩
end
end W85

set_option maxHeartbeats 4000000
set_option exponentiation.threshold 9000
namespace W85
open PySem PySem.Spec PyProof.Rows L2 WK Fm
local macro_rules | `(tactic| wtm_at "hp") => `(tactic| first
  | with_reducible assumption
  | with_reducible exact upd_same
  | with_reducible exact sqt_of upd_same
  | with_reducible exact sql_of upd_same
  | with_reducible exact sqt_s1 (by assumption) (by wtm_at "sm")
  | with_reducible exact sqt_s2 (by assumption) (by wtm_at "sm")
  | with_reducible exact FO.same (by assumption) (by wtm_at "sm")
  | with_reducible exact sqt_all (by assumption)
  | with_reducible exact sql_s1 (by assumption) (by wtm_at "sm")
  | with_reducible exact sql_s2 (by assumption) (by wtm_at "sm")
  | with_reducible exact at_s1 (by assumption) (by wtm_at "sm"))
local macro_rules | `(tactic| wtm_at "sd") => `(tactic| first
  | exact cdw_all (by assumption)
  | exact wide_mul (by assumption) (by assumption) (by decide) (by decide) (Nat.le_of_ble_eq_true rfl)
  | exact Or.inl ⟨by omega, by omega⟩
  | exact Or.inr ⟨by omega, by omega⟩
  | exact ⟨by omega, by decide⟩
  | exact cdw_of (by omega) (by omega)
  | exact cpow_of (by omega) (by omega) (by omega)
  | (dsimp only; omega)
  | (show (0 : Int) < _; omega)
  | (show (0 : Int) ≤ _; omega))
local macro_rules | `(tactic| wtm_at "sx") => `(tactic| simp only [x_seq, x_next, x_brk, x_cont, x_never, x_drop, x_asg, x_name, x_sub, x_ret, x_retN, x_ifS, x_parD, x_par3D, x_c, x_op, x_un, x_test, x_tB, x_yes, x_not, x_and, x_or, x_andV, x_orV, x_notV, x_ifE, x_chain, x_nil, x_cons, x_tupD, x_lstD, x_call, x_callX, x_cb, x_forR1, x_forR2, x_forL, x_forT, x_bits, x_part, x_nopart, x_sl, x_bm0, x_bm, x_lcL, x_lcT, x_lcR1, x_aug, x_ipI, x_ib, x_bi, x_onelB, x_two, x_onel, x_disp, x_pairs0, x_pairsS, x_dget2, x_fld, x_fldT, x_meth0, x_make, x_sfld, x_eqIS, x_neIS,
  x_var0, x_var1, x_var2, x_var3, x_var4, x_var5, x_var6, x_var7, x_var8, x_var9, x_var10, x_var11, x_var12, x_var13, x_var14, x_var15, List.set_cons_zero, x_set1, x_set2, x_set3, x_set4, x_set5, x_set6, x_set7, x_set8, x_set9, x_set10, x_set11, x_set12, x_set13, x_set14, x_set15, x_i0, x_iC, x_uI, x_bl, x_eqI, x_neI, x_eqS, x_neS, x_par, x_par3, x_gnil, x_gcons, x_one, x_rt, x_nx, x_bk, x_ct, cx_K, cx_K1, List.append_nil, List.cons_append, List.nil_append, if_true, if_false, ite_not, decide_true, decide_false, Bool.not_true, Bool.not_false, Bool.false_eq_true, decide_eq_true_eq, Bool.not_eq_true', Bool.not_eq_false', decide_eq_false_iff_not, true_and, and_true, reduceCtorEq, Int.reduceLT, Int.reduceLE, Int.reduceToNat, false_and, exists_false, or_false, false_or, wipe, List.map_cons, List.map_nil])
local macro_rules | `(tactic| wtm_at "g1") => `(tactic| first
  | with_reducible refine g_i0 ?_
  | with_reducible refine g_sign (by assumption) (by wtm_at "hp") ?_
  | with_reducible refine g_top (by assumption) (by wtm_at "hp") ?_
  | with_reducible refine g_power (by assumption) (by wtm_at "hp") ?_
  | with_reducible refine isi_F (by assumption) (by wtm_at "hp") ?_
  | with_reducible refine isi_ll (by wtm_at "hp") ?_
  | with_reducible refine g_inT (bb := false) (by wtm_at "hp") rfl rfl inV_iS ?_
  | with_reducible refine g_notInT (bb := false) (by wtm_at "hp") rfl rfl inV_iS ?_
  | with_reducible refine g_iC (by k_dflt (wtm_at "sd")) ?_
  | with_reducible refine g_ixT (by wtm_at "hp") rfl ?_
  | with_reducible refine g_pY (by k_dflt (wtm_at "cd")) ?_
  | with_reducible refine g_pX (by k_dflt (wtm_at "cd")) ?_
  | with_reducible refine g_size (by k_dflt exact (Nat.le_of_ble_eq_true rfl)) ?_
  | with_reducible refine isi_ii ?_
  | with_reducible refine isi_ib ?_
  | with_reducible refine isi_ss ?_
  | with_reducible refine isi_tt (by wtm_at "hp") ?_
  | with_reducible refine isi_bb ?_
  | with_reducible refine isi_is ?_
  | with_reducible refine g_inT (bb := true) (by wtm_at "hp") rfl rfl (by decide +kernel) ?_
  | with_reducible refine g_inT (bb := false) (by wtm_at "hp") rfl rfl (by decide +kernel) ?_
  | with_reducible refine g_notInT (bb := true) (by wtm_at "hp") rfl rfl (by decide +kernel) ?_
  | with_reducible refine g_notInT (bb := false) (by wtm_at "hp") rfl rfl (by decide +kernel) ?_
  | with_reducible refine g_ixL (by wtm_at "hp") rfl ?_
  | with_reducible refine g_tup (by wtm_at "hp") rfl ?_
  | with_reducible refine g_bl ?_
  | with_reducible refine g_eqI ?_
  | with_reducible refine g_neI ?_
  | with_reducible refine g_lenT (by wtm_at "hp") ?_
  | with_reducible refine g_lenL (by wtm_at "hp") ?_
  | with_reducible refine g_tl4 (by wtm_at "hp") ?_
  | with_reducible refine g_tl3 (by wtm_at "hp") ?_
  | with_reducible refine g_slL (by wtm_at "hp") ?_
  | with_reducible refine g_listL (by wtm_at "hp") ?_
  | with_reducible refine g_setL (by wtm_at "hp") rfl ?_
  | (with_reducible refine g_newT ?_; intro p np hp)
  | (with_reducible refine g_newL ?_; intro p np hp)
  | (with_reducible refine g_all ?_; intro p np)
  | with_reducible refine ⟨by k_dflt (wtm_at "sd"), ?_⟩
  | wtm_at "u1")
local macro_rules | `(tactic| wtm_at "cd") => `(tactic| first | omega | decide +kernel)
local macro_rules | `(tactic| wtm_at "go") => `(tactic| ((try wtm_at "sx"); repeat (wtm_at "g1"; try wtm_at "sx")))
local macro_rules | `(tactic| wtm_at "sm") => `(tactic| first
  | with_reducible assumption
  | with_reducible exact Same.refl _
  | with_reducible exact same_new (by assumption)
  | (with_reducible refine Same.trans ?_ (same_new (by assumption)); wtm_at "sm")
  | (with_reducible refine same_mut ?_ (by wtm_at "fr"); wtm_at "sm")
  | (with_reducible refine Same.trans ?_ (by assumption); wtm_at "sm"))
local macro_rules | `(tactic| wtm_at "fr") => `(tactic| first
  | with_reducible assumption
  | with_reducible exact free2 (by assumption) (by wtm_at "sm"))

local macro_rules | `(tactic| wtm_at "u1") => `(tactic| (with_reducible refine use_is_plain ?_; intro H1 s1))
local macro_rules | `(tactic| wtm_at "u1") => `(tactic| (with_reducible refine use_sign_of ?_; intro H1 s1))
local macro_rules | `(tactic| wtm_at "u1") => `(tactic| (with_reducible refine use_reduced (by assumption) ?_; intro H1 p1 s1 n1 h1))
local macro_rules | `(tactic| wtm_at "u1") => `(tactic| (with_reducible refine use_fits (by assumption) ?_; intro H1 s1))
local macro_rules | `(tactic| wtm_at "u1") => `(tactic| (with_reducible refine use_Float (by assumption) (by assumption) ?_; intro H1 r1 t1 p1 s1 n1 f1 v1))
local macro_rules | `(tactic| wtm_at "u1") => `(tactic| (with_reducible refine use_Float_is_finite (by wtm_at "hp") ?_; intro H1 s1))
local macro_rules | `(tactic| wtm_at "u1") => `(tactic| (with_reducible refine use_Float_ratio (by wtm_at "hp") (by assumption) ?_; intro H1 p1 s1 n1 h1))
local macro_rules | `(tactic| wtm_at "u1") => `(tactic| (with_reducible refine use_is_number (by wtm_at "hp") ?_; intro H1 s1))
local macro_rules | `(tactic| wtm_at "u1") => `(tactic| (with_reducible refine use_is_finite_float (by wtm_at "hp") ?_; intro H1 s1))
/-! ### draws -/
def Well (H : Hp) (a : Addr) : Prop := ∃ x y z : Int, H a = some (.lst [.int x, .int y, .int z])
theorem Well.same {a : Addr} {H H' : Hp} (s : Same H H') (h : Well H a) : Well H' a := by
  obtain ⟨x, y, z, h⟩ := h
  exact ⟨x, y, z, s _ _ h⟩
theorem Same.sa {a : Addr} {H H' : Hp} (s : Same H H') : Sa a H H' := fun b o h _ => s b o h
section
variable {P : Program} {w : World} {K : PySem.W.Frag} {mg : Str → Option Value} {base : Heap}
def sp__law_well : Sp := fun vs H Q _ => ∃ c : Int, vs = [.int c] ∧ ∀ H' p, Same H H' → H p = none → Well H' p → Q (.ref p) H'
theorem kn__law_well (T : Tx K mg) : Kn P w K mg base 1 "_law_well" ["cell"] (sp__law_well) := by
  obtain ⟨fd, F⟩ := T.d__law_well
  refine kn_mk F T.g__law_well sc__law_well (fun _ _ _ _ _ _ us hl => match us, hl with | [_], _ => rfl) (fun vs H Q E h => ?_) (fun cdv A outer s H vs Q E hr h => ?_)
  · obtain ⟨c, rfl, _⟩ := h
    rfl
  · obtain ⟨c, rfl, k⟩ := h
    refine ⟨_, (pss_one (ps_ret (pe_lst (pa_cons (pe_op op_mul (pv 0) (pe_callTy call_int1 (by rfl) T.n_int (by decide +kernel) (pa_cons (pe_cmpR op_ge (pv 0) (pe_k (v := .int (1000000000000000000)) (pe_op op_pow pe_int pe_int) k_pow) (nomark _)) pa_nil))) (pa_cons (pe_op op_mod (pe_callTy call_int1 (by rfl) T.n_int (by decide +kernel) (pa_cons (pv 0) pa_nil)) pe_int) (pa_cons pe_int pa_nil)))))), st_as (σ' := [some _]) rfl ?_⟩
    wtm_at "go"
    exact k _ _ (by wtm_at "sm") (by wtm_at "fr") ⟨_, _, _, upd_same⟩
theorem use__law_well {H : Hp} {Q : VK} {E : XK} {c : Int} (k : ∀ H' p, Same H H' → H p = none → Well H' p → Q (.ref p) H') : sp__law_well [.int c] H Q E := ⟨c, rfl, k⟩
def sp__law_draw : Sp := fun vs H Q _ => ∃ (a : Addr) (m : Int), vs = [.ref a, .int m] ∧ Well H a ∧ 0 < m ∧ m ≤ 18446744073709551616 ∧ ∀ H' d, Sa a H H' → Well H' a → 0 ≤ d → d < m → Q (.int d) H'
theorem kn__law_draw (T : Tx K mg) : Kn P w K mg base 1 "_law_draw" ["well", "many"] (sp__law_draw) := by
  obtain ⟨fd, F⟩ := T.d__law_draw
  refine kn_mk F T.g__law_draw sc__law_draw (fun _ _ _ _ _ _ us hl => match us, hl with | [_, _], _ => rfl) (fun vs H Q E h => ?_) (fun cdv A outer s H vs Q E hr h => ?_)
  · obtain ⟨a, m, rfl, _⟩ := h
    rfl
  · obtain ⟨a, m, rfl, hw, h0, h1, k⟩ := h
    refine ⟨_, (pss_cons (ps_if (pt_cmpR op_gt (pe_ix (ix_listK K) (pv 0) pe_int (fun _ _ => rfl)) pe_int (nomark _)) (pss_cons (ps_set (i := 2) sc__law_draw.nd rfl (Or.inl rfl) (pe_op op_mod (pe_callTy call_int1 (by rfl) T.n_int (by decide +kernel) (pa_cons (pe_ix (ix_listK K) (pv 0) pe_int (fun _ _ => rfl)) pa_nil)) (pv 1)))
      (pss_cons (ps_asg (pe_op op_fdivW (pe_ix (ix_listK K) (pv 0) pe_int (fun _ _ => rfl)) (pv 1)) (pg_sub (pv 0) pe_int set_list))
      (pss_one (ps_ret (pv 2))))) pss_nil)
      (pss_cons (ps_asg (pe_op op_add (pe_ix (ix_listK K) (pv 0) pe_int (fun _ _ => rfl)) pe_int) (pg_sub (pv 0) pe_int set_list))
      (pss_cons (ps_set (i := 3) sc__law_draw.nd rfl (Or.inl rfl) (pe_op op_mod (pe_callTy call_int1 (by rfl) T.n_int (by decide +kernel) (pa_cons (pe_op op_add (pe_op op_add (pe_op op_mul (pe_ix (ix_listK K) (pv 0) pe_int (fun _ _ => rfl)) pe_int) (pe_op op_mul pe_int (pe_ix (ix_listK K) (pv 0) pe_int (fun _ _ => rfl)))) pe_int) pa_nil)) pe_int))
      (pss_cons (ps_set (i := 3) sc__law_draw.nd rfl (Or.inl rfl) (pe_op op_mod (pe_callTy call_int1 (by rfl) T.n_int (by decide +kernel) (pa_cons (pe_op op_mul (pv 3) (pe_op op_add (pe_op op_fdiv (pv 3) pe_int) pe_int)) pa_nil)) pe_int))
      (pss_cons (ps_set (i := 3) sc__law_draw.nd rfl (Or.inl rfl) (pe_op op_mod (pe_callTy call_int1 (by rfl) T.n_int (by decide +kernel) (pa_cons (pe_op op_mul (pv 3) (pe_op op_add (pe_op op_add (pe_op op_fdiv (pv 3) pe_int) pe_int) (pe_ix (ix_listK K) (pv 0) pe_int (fun _ _ => rfl)))) pa_nil)) pe_int))
      (pss_one (ps_ret (pe_op op_mod (pe_callTy call_int1 (by rfl) T.n_int (by decide +kernel) (pa_cons (pe_op op_fdiv (pv 3) pe_int) pa_nil)) (pv 1))))))))), st_as (σ' := [some _, some _, none, none]) rfl ?_⟩
    obtain ⟨x, y, z, hw⟩ := hw
    wtm_at "go"
    refine ite2 (fun c => ?_) (fun c => ?_)
    · wtm_at "go"
      exact k _ _ sa_upd ⟨_, _, _, upd_same⟩ (Int.emod_nonneg _ (by omega)) (Int.emod_lt_of_pos _ h0)
    · wtm_at "go"
      exact k _ _ sa_upd ⟨_, _, _, upd_same⟩ (Int.emod_nonneg _ (by omega)) (Int.emod_lt_of_pos _ h0)
theorem use__law_draw {H : Hp} {Q : VK} {E : XK} {a : Addr} {m : Int} (hw : Well H a) (h0 : 0 < m) (h1 : m ≤ 18446744073709551616) (k : ∀ H' d, Sa a H H' → Well H' a → 0 ≤ d → d < m → Q (.int d) H') : sp__law_draw [.ref a, .int m] H Q E := ⟨a, m, rfl, hw, h0, h1, k⟩
local macro_rules | `(tactic| wtm_at "u1") => `(tactic| (with_reducible refine use__law_draw (by assumption) (by k_dflt omega) (by k_dflt omega) ?_; intro H1 d1 s1 w1 d0 dm))
def sp__law_one (K : PySem.W.Frag) : Sp := fun vs H Q _ => ∃ (a l : Addr) (xs : List V), vs = [.ref a, .ref l] ∧ Well H a ∧ H l = some (.lst xs) ∧ l ≠ a ∧ 0 < xs.length ∧ xs.length ≤ 1000 ∧ ∀ H' v, Sa a H H' → Well H' a → v ∈ xs → Q v H'
theorem kn__law_one (T : Tx K mg) : Kn P w K mg base 2 "_law_one" ["well", "some"] (sp__law_one K) := by
  obtain ⟨fd, F⟩ := T.d__law_one
  refine kn_mk F T.g__law_one sc__law_one (fun _ _ _ _ _ _ us hl => match us, hl with | [_, _], _ => rfl) (fun vs H Q E h => ?_) (fun cdv A outer s H vs Q E hr h => ?_)
  · obtain ⟨a, l, xs, rfl, _⟩ := h
    rfl
  · obtain ⟨a, l, xs, rfl, hw, hl, hne, h0, h1, k⟩ := h
    refine ⟨_, (pss_one (ps_ret (pe_ix (ix_listK K) (pv 1) (pc (kn__law_draw T) (hr.mono (by decide)) (pa_cons (pv 0) (pa_cons (pe_callB (call_lenK K) (by rfl) T.n_len (by decide +kernel) (pa_cons (pv 1) pa_nil)) pa_nil))) (fun _ _ => rfl)))), st_as (σ' := [some _, some _]) rfl ?_⟩
    wtm_at "go"
    rename_i H1 d s1 w1 d0 d1
    have hl1 := s1 _ _ hl hne
    have hd : d.toNat < xs.length := by omega
    refine g_ixL (v := xs[d.toNat]) (sql_of hl1) (at_of (j := d.toNat) (by omega) (List.getElem?_eq_getElem hd)) ?_
    exact k _ _ s1 w1 (List.getElem_mem hd)
theorem use__law_one {H : Hp} {Q : VK} {E : XK} {a l : Addr} {xs : List V} (hw : Well H a) (hl : H l = some (.lst xs)) (hne : l ≠ a) (h0 : 0 < xs.length) (h1 : xs.length ≤ 1000) (k : ∀ H' v, Sa a H H' → Well H' a → v ∈ xs → Q v H') : sp__law_one K [.ref a, .ref l] H Q E := ⟨a, l, xs, rfl, hw, hl, hne, h0, h1, k⟩
def sp__law_wells (K : PySem.W.Frag) : Sp := fun vs H Q _ => ∃ (a : Addr) (ns : List Int), vs = [.ref a, .int 5] ∧ SqL K H a (ns.map V.int) ∧ ns.length ≤ 63 ∧ ∀ (ws : List Addr) H' L, Same H H' → H L = none → H' L = some (.lst (ws.map V.ref)) → (∀ r, r ∈ ws → Well H' r) → Q (.ref L) H'
theorem kn__law_wells (T : Tx K mg) : Kn P w K mg base 2 "_law_wells" ["script", "many"] (sp__law_wells K) := by
  obtain ⟨fd, F⟩ := T.d__law_wells
  refine kn_mk F T.g__law_wells sc__law_wells (fun _ _ _ _ _ _ us hl => match us, hl with | [_, _], _ => rfl) (fun vs H Q E h => ?_) (fun cdv A outer s H vs Q E hr h => ?_)
  · obtain ⟨a, ns, rfl, _⟩ := h
    rfl
  · obtain ⟨a, ns, rfl, hS, hlen, k⟩ := h
    refine ⟨_, (pss_one (ps_ret (pe_lc (own := [("cell", 2)]) (g := gName 2) (by rfl) sc__law_wells.nd (pi_listK K (pe_slice (sl_listK K) (pe_op op_cat (pe_callTy (call_listK K) (by rfl) T.n_list (by decide +kernel) (pa_cons (pv 0) pa_nil)) (pe_lst (pa_cons pe_int pa_nil))) po_none (po_some (pv 1)))) (blkOk_by (own := [("cell", 2)]) (N := ["script", "many", "cell"]) (sc := defScope s__law_wells) (by decide +kernel)) (fun _ _ _ _ _ => pg_name (i := 2) sc__law_wells.nd rfl (Or.inl rfl)) (fun _ _ _ _ _ => pts_nil) (fun _ _ _ _ _ => (pc (kn__law_well T) (hr.mono (by decide)) (pa_cons (pv 2) pa_nil)))))), st_as (σ' := [some _, some _, none]) rfl ?_⟩
    wtm_at "go"
    rename_i p1 n1 p2 n2 h2
    refine g_cat (same_new n2 _ _ upd_same) h2 (by rw [List.length_map]; exact Nat.le_trans (Nat.succ_le_succ hlen) (Nat.le_of_ble_eq_true rfl)) fun p3 n3 h3 => ?_
    refine g_slL (sql_of h3) fun p4 n4 => ?_
    obtain ⟨ms, em, hm⟩ : ∃ ms : List Int, cutV (ns.map V.int ++ [.int 0]) none (some 5) = ms.map V.int ∧ ms.length ≤ 64 := by
      refine ⟨((ns ++ [0]).drop (HT.sIx (ns.map V.int ++ [V.int 0]).length 0 none)).take (HT.sIx (ns.map V.int ++ [V.int 0]).length (ns.map V.int ++ [V.int 0]).length (some 5) - HT.sIx (ns.map V.int ++ [V.int 0]).length 0 none), ?_, ?_⟩
      · unfold cutV
        rw [List.map_take, List.map_drop, List.map_append]
        rfl
      · refine Nat.le_trans (List.length_take_le' ..) (Nat.le_trans (by rw [List.length_drop]; exact Nat.sub_le ..) ?_)
        rw [List.length_append]
        exact Nat.succ_le_succ hlen
    rw [em]
    have s1 : Same H (upd (upd (upd H p1 (.lst (ns.map V.int))) p2 (.lst [.int 0])) p3 (.lst (ns.map V.int ++ [.int 0]))) := ((same_new n1).trans (same_new n2)).trans (same_new n3)
    refine mk_lcL (ms.map V.int) (fun D i H' => ∃ ws : List Addr, ws.length = i ∧ H' D = some (.lst (ws.map V.ref)) ∧ Same H H' ∧ H D = none ∧ H' p4 = some (.lst (ms.map V.int)) ∧ ∀ r, r ∈ ws → Well H' r) (fun D hD => ⟨[], rfl, upd_same, ?_, ?_, same_new hD _ _ upd_same, fun r hr => by cases hr⟩) (fun D hD i H' hi I => ?_) (sql_of upd_same) (fun D hD i v H' hv I => ?_) (fun D hD H' I => ?_)
    · exact (s1.trans (same_new n4)).trans (same_new hD)
    · exact (s1.trans (same_new n4)).free hD
    · obtain ⟨ws, _, _, _, _, h4, _⟩ := I
      exact sql_of h4
    · obtain ⟨ws, hl, hd, s5, nd, h4, hws⟩ := I
      obtain ⟨c, rfl⟩ : ∃ c : Int, v = .int c := by
        rw [List.getElem?_map] at hv
        cases e : ms[i]? with
        | none => rw [e] at hv; cases hv
        | some c => rw [e] at hv; exact ⟨c, (Option.some.inj hv).symm⟩
      have hi : i < ms.length := by
        have := (List.getElem?_eq_some_iff.mp hv).1
        rw [List.length_map] at this
        exact this
      wtm_at "go"
      refine use__law_well fun H6 p6 s6 n6 w6 => ?_
      have hd6 := s6 _ _ hd
      have ne6 : p6 ≠ D := fun z => by rw [z, hd] at n6; cases n6
      refine ⟨ws.map V.ref, hd6, ?_, ws ++ [p6], ?_, ?_, ?_, nd, ?_, ?_⟩
      · rw [List.length_map, hl]
        exact Nat.lt_of_lt_of_le (Nat.lt_of_lt_of_le hi hm) (Nat.le_of_ble_eq_true rfl)
      · rw [List.length_append, hl]; rfl
      · rw [List.map_append]; exact upd_same
      · exact same_mut (s5.trans s6) nd
      · have ne4 : p4 ≠ D := fun z => by rw [z, upd_same] at hD; cases hD
        rw [upd_ne ne4]
        exact s6 _ _ h4
      · intro r hr
        have wr : Well H6 r ∧ r ≠ D := by
          rcases List.mem_append.mp hr with hr | hr
          · refine ⟨(hws r hr).same s6, fun z => ?_⟩
            obtain ⟨x, y, z', hx⟩ := hws r hr
            rw [z, hd] at hx
            have hx := HO.lst.inj (Option.some.inj hx)
            have : V.ref r ∈ ws.map V.ref := List.mem_map_of_mem hr
            rw [hx] at this
            simp at this
          · have e := List.mem_singleton.mp hr
            rw [e]
            exact ⟨w6, ne6⟩
        obtain ⟨⟨x, y, z, hx⟩, hne⟩ := wr
        exact ⟨x, y, z, by rw [upd_ne hne]; exact hx⟩
    · obtain ⟨ws, hl, hd, s5, nd, h4, hws⟩ := I
      exact k ws _ _ s5 nd hd hws
theorem use__law_wells {H : Hp} {Q : VK} {E : XK} {a : Addr} {ns : List Int} (hS : SqL K H a (ns.map V.int)) (hl : ns.length ≤ 63) (k : ∀ (ws : List Addr) H' L, Same H H' → H L = none → H' L = some (.lst (ws.map V.ref)) → (∀ r, r ∈ ws → Well H' r) → Q (.ref L) H') : sp__law_wells K [.ref a, .int 5] H Q E := ⟨a, ns, rfl, hS, hl, k⟩
/-! ### the law's own fractions -/
def sp__law_low : Sp := fun vs H Q _ => ∃ a b : Int, vs = [.int a, .int b] ∧ 0 < b ∧ a.natAbs < 2 ^ 8000 ∧ b.natAbs < 2 ^ 8000 ∧ RetT [.int (a / (Int.gcd a b : Int)), .int (b / (Int.gcd a b : Int))] H Q
theorem kn__law_low (T : Tx K mg) : Kn P w K mg base 1 "_law_low" ["top", "bottom"] (sp__law_low) := by
  obtain ⟨fd, F⟩ := T.d__law_low
  refine kn_mk F T.g__law_low sc__law_low (fun _ _ _ _ _ _ us hl => match us, hl with | [_, _], _ => rfl) (fun vs H Q E h => ?_) (fun cdv A outer s H vs Q E hr h => ?_)
  · obtain ⟨a, b, rfl, _⟩ := h
    rfl
  · obtain ⟨a, b, rfl, hb, la, lb, q⟩ := h
    refine ⟨_, (pss_cons (ps_par (i := 2) (j := 3) (by rfl) sc__law_low.nd rfl rfl (by decide) rfl rfl (pa_cons (pe_callB call_abs (by rfl) T.n_abs (by decide +kernel) (pa_cons (pv 0) pa_nil)) (pa_cons (pv 1) pa_nil)) (by rfl))
      (pss_cons (ps_while PassesOwn.never (pt_cmpR op_gt (pv 3) pe_int (nomark _)) (pss_one (ps_par (i := 2) (j := 3) (by rfl) sc__law_low.nd rfl rfl (by decide) rfl rfl (pa_cons (pv 3) (pa_cons (pe_op op_mod (pe_callTy call_int1 (by rfl) T.n_int (by decide +kernel) (pa_cons (pv 2) pa_nil)) (pv 3)) pa_nil)) (by rfl))))
      (pss_one (ps_ret (pe_tup (pa_cons (pe_op op_fdivW (pv 0) (pv 2)) (pa_cons (pe_op op_fdivW (pv 1) (pv 2)) pa_nil))))))), st_as (σ' := [some _, some _, none, none]) rfl ?_⟩
    have ha0 : 0 ≤ (if a < 0 then -a else a) := by split <;> omega
    have hg : Int.gcd (if a < 0 then -a else a) b = Int.gcd a b := by
      split
      · exact Int.neg_gcd
      · rfl
    have la0 : (if a < 0 then -a else a).natAbs < 2 ^ 8000 := by split <;> omega
    wtm_at "go"
    generalize (if a < 0 then -a else a) = a0 at ha0 hg la0 ⊢
    refine g_while (fun m σ H' => ∃ x y : Int, m = y.toNat ∧ σ = [some (.int a), some (.int b), some (.int x), some (.int y)] ∧ Same H H' ∧ 0 ≤ x ∧ 0 ≤ y ∧ x.natAbs < 2 ^ 8000 ∧ y.natAbs < 2 ^ 8000 ∧ Int.gcd x y = Int.gcd a b ∧ (0 < x ∨ 0 < y)) b.toNat ⟨a0, b, rfl, rfl, Same.refl _, ha0, by omega, la0, lb, hg, .inr hb⟩ ?_
    rintro m σ H' ⟨x, y, rfl, rfl, s1, hx, hy, lx, ly, hg2, hxy⟩
    wtm_at "go"
    refine ite2 (fun z => ?_) (fun z => ?_)
    · refine ⟨_, fun _ _ n => n, ?_⟩
      wtm_at "go"
      have h0 := Int.emod_nonneg x (show y ≠ 0 by omega)
      have h1 := Int.emod_lt_of_pos x z
      refine ⟨(x % y).toNat, by omega, y, x % y, rfl, rfl, s1, hy, h0, ly, by omega, ?_, .inl z⟩
      rw [← hg2, gcd_step hx hy]
    · have y0 : y = 0 := by omega
      subst y0
      rw [Int.gcd_zero_right] at hg2
      have hx0 : 0 < x := by omega
      have ex : ((Int.gcd a b : Nat) : Int) = x := by omega
      rw [ex] at q
      have w1 : ∀ i, CDivW i x := fun i => wide_div hx0 lx (by decide) (by decide)
      wtm_at "go"
      exact q _ _ (by wtm_at "sm") (by wtm_at "fr") (by wtm_at "hp")
theorem use__law_low {H : Hp} {Q : VK} {E : XK} {a b : Int} (hb : 0 < b) (la : a.natAbs < 2 ^ 8000) (lb : b.natAbs < 2 ^ 8000) (q : RetT [.int (a / (Int.gcd a b : Int)), .int (b / (Int.gcd a b : Int))] H Q) : sp__law_low [.int a, .int b] H Q E := ⟨a, b, rfl, hb, la, lb, q⟩
def sp__law_raised : Sp := fun vs H Q _ => ∃ (a : Int) (n : Nat), vs = [.int a, .int (n : Int)] ∧ a.natAbs < 2 ^ 64 ∧ n ≤ 3000 ∧ Ret (.int (a * 2 ^ n)) H Q
theorem kn__law_raised (T : Tx K mg) : Kn P w K mg base 1 "_law_raised" ["number", "many"] (sp__law_raised) := by
  obtain ⟨fd, F⟩ := T.d__law_raised
  refine kn_mk F T.g__law_raised sc__law_raised (fun _ _ _ _ _ _ us hl => match us, hl with | [_, _], _ => rfl) (fun vs H Q E h => ?_) (fun cdv A outer s H vs Q E hr h => ?_)
  · obtain ⟨a, n, rfl, _⟩ := h
    rfl
  · obtain ⟨a, n, rfl, la, ln, q⟩ := h
    refine ⟨_, (pss_cons (ps_for PassesOwn.never rfl (pi_range1 rfl T.n_range (pa_cons (pe_op op_fdiv (pv 1) pe_int) pa_nil)) (pg_name (i := 2) sc__law_raised.nd rfl (Or.inl rfl)) (pss_one (ps_set (i := 0) sc__law_raised.nd rfl (Or.inl rfl) (pe_op op_shlW (pv 0) pe_int))))
      (pss_cons (ps_for PassesOwn.never rfl (pi_range1 rfl T.n_range (pa_cons (pe_op op_mod (pv 1) pe_int) pa_nil)) (pg_name (i := 2) sc__law_raised.nd rfl (Or.inl rfl)) (pss_one (ps_set (i := 0) sc__law_raised.nd rfl (Or.inl rfl) (pe_op op_add (pv 0) (pv 0)))))
      (pss_one (ps_ret (pv 0))))), st_as (σ' := [some _, some _, none]) rfl ?_⟩
    wtm_at "go"
    refine loopR1 (by omega) (fun i σ H' => ∃ o : Option V, σ = [some (.int (a * 2 ^ (64 * i))), some (.int (n : Int)), o] ∧ Same H H') ⟨none, by simp, Same.refl _⟩ (fun i σ H' hi I => ?_) (fun σ H' I => ?_)
    · obtain ⟨o, rfl, s1⟩ := I
      have l1 : (a * 2 ^ (64 * i)).natAbs < 2 ^ (64 + (64 * i + 1)) := wide_lt la (pow_lt (64 * i))
      have w1 : CShl (a * 2 ^ (64 * i)) 64 := shl_c l1 (by omega) (by omega)
      wtm_at "go"
      refine ⟨w1, ?_⟩
      wtm_at "go"
      refine ⟨some (.int (i : Int)), ?_, s1⟩
      rw [Int.mul_assoc, ← Int.pow_add, show 64 * i + 64 = 64 * (i + 1) by omega]
    · obtain ⟨o, rfl, s1⟩ := I
      wtm_at "go"
      refine loopR1 (by omega) (fun i σ H' => ∃ o : Option V, σ = [some (.int (a * 2 ^ (64 * (n / 64) + i))), some (.int (n : Int)), o] ∧ Same H H') ⟨o, by rw [show ((n : Int) / 64).toNat = n / 64 by omega, Nat.add_zero], s1⟩ (fun i σ H' hi I => ?_) (fun σ H' I => ?_)
      · obtain ⟨o, rfl, s1⟩ := I
        wtm_at "go"
        refine ⟨some (.int (i : Int)), ?_, s1⟩
        have e : a * 2 ^ (64 * (n / 64) + i) + a * 2 ^ (64 * (n / 64) + i) = a * 2 ^ (64 * (n / 64) + (i + 1)) := by
          rw [← Nat.add_assoc, Int.pow_succ]
          grind
        rw [e]
      · obtain ⟨o, rfl, s1⟩ := I
        wtm_at "go"
        rw [show 64 * (n / 64) + ((n : Int) % 64).toNat = n by omega]
        exact q _ s1
theorem use__law_raised {H : Hp} {Q : VK} {E : XK} {a : Int} {n : Int} (la : a.natAbs < 2 ^ 64) (h0 : 0 ≤ n) (ln : n ≤ 3000) (q : Ret (.int (a * 2 ^ n.toNat)) H Q) : sp__law_raised [.int a, .int n] H Q E := ⟨a, n.toNat, by rw [Int.toNat_of_nonneg h0], la, by omega, q⟩
def sp__law_ratio (K : PySem.W.Frag) : Sp := fun vs H Q _ => ∃ (r : Addr) (v : Int), vs = [.ref r] ∧ FV K H r v ∧ ∀ a b : Int, Lw v a b → a.natAbs < 2 ^ 3200 → b.natAbs < 2 ^ 1100 → RetT [.int a, .int b] H Q
theorem kn__law_ratio (T : Tx K mg) : Kn P w K mg base 2 "_law_ratio" ["number"] (sp__law_ratio K) := by
  obtain ⟨fd, F⟩ := T.d__law_ratio
  refine kn_mk F T.g__law_ratio sc__law_ratio (fun _ _ _ _ _ _ us hl => match us, hl with | [_], _ => rfl) (fun vs H Q E h => ?_) (fun cdv A outer s H vs Q E hr h => ?_)
  · obtain ⟨r, v, rfl, _⟩ := h
    rfl
  · obtain ⟨r, v, rfl, ⟨s0, t, p, f, z⟩, q⟩ := h
    refine ⟨_, (pss_cons (ps_set (i := 1) sc__law_ratio.nd rfl (Or.inl rfl) (pe_op op_mul (pe_fldK K (pv 0)) (pe_fldK K (pv 0))))
      (pss_cons (ps_if (pt_cmpR op_ge (pe_fldK K (pv 0)) pe_int (nomark _)) (pss_one (ps_ret (pe_tup (pa_cons (pc (kn__law_raised T) (hr.mono (by decide)) (pa_cons (pv 1) (pa_cons (pe_fldK K (pv 0)) pa_nil))) (pa_cons pe_int pa_nil))))) pss_nil)
      (pss_one (ps_ret (pe_tup (pa_cons (pv 1) (pa_cons (pc (kn__law_raised T) (hr.mono (by decide)) (pa_cons pe_int (pa_cons (pe_op op_sub pe_int (pe_fldK K (pv 0))) pa_nil))) pa_nil))))))), st_as (σ' := [some _, none]) rfl ?_⟩
    have CFK := T.cf_Float
    obtain ⟨hs, t0, t1, p0, p1⟩ := V3.small z
    obtain ⟨b1, b2, _, _, _⟩ := rt_sizes z
    have q := q _ _ z.lw b1 b2
    have l1 : (s0 * t).natAbs < 2 ^ 64 := by
      have := lt53 t0 t1
      have e : (s0 * t).natAbs = t.natAbs := by
        rw [Int.natAbs_mul]
        rcases hs with rfl | rfl <;> simp
      rw [e]
      exact lt_le this (by omega)
    have l2 : (1 : Int).natAbs < 2 ^ 64 := by decide
    unfold rtop rbot at q
    by_cases c : p < 0
    · rw [if_pos c, if_pos c] at q
      wtm_at "go"
      refine use__law_raised l2 (by omega) (by omega) fun G1 g1 => ?_
      rw [Int.one_mul]
      wtm_at "go"
      exact q _ _ (by wtm_at "sm") (by wtm_at "fr") (by wtm_at "hp")
    · rw [if_neg c, if_neg c] at q
      wtm_at "go"
      refine use__law_raised l1 (by omega) (by omega) fun G1 g1 => ?_
      rw [Int.mul_assoc]
      wtm_at "go"
      exact q _ _ (by wtm_at "sm") (by wtm_at "fr") (by wtm_at "hp")
theorem use__law_ratio {H : Hp} {Q : VK} {E : XK} {r : Addr} {v : Int} (h : FV K H r v) (q : ∀ a b : Int, Lw v a b → a.natAbs < 2 ^ 3200 → b.natAbs < 2 ^ 1100 → RetT [.int a, .int b] H Q) : sp__law_ratio K [.ref r] H Q E := ⟨r, v, rfl, h, q⟩
end
end W85

set_option maxHeartbeats 4000000
set_option exponentiation.threshold 9000
namespace W85
open PySem PySem.Spec PyProof.Rows L2 WK Fm
local macro_rules | `(tactic| wtm_at "hp") => `(tactic| first
  | with_reducible assumption
  | with_reducible exact upd_same
  | with_reducible exact sqt_of upd_same
  | with_reducible exact sql_of upd_same
  | with_reducible exact sqt_s1 (by assumption) (by wtm_at "sm")
  | with_reducible exact sqt_s2 (by assumption) (by wtm_at "sm")
  | with_reducible exact FO.same (by assumption) (by wtm_at "sm")
  | with_reducible exact sqt_all (by assumption)
  | with_reducible exact sql_s1 (by assumption) (by wtm_at "sm")
  | with_reducible exact sql_s2 (by assumption) (by wtm_at "sm")
  | with_reducible exact at_s1 (by assumption) (by wtm_at "sm"))
local macro_rules | `(tactic| wtm_at "sd") => `(tactic| first
  | exact cdw_all (by assumption)
  | exact wide_mul (by assumption) (by assumption) (by decide) (by decide) (Nat.le_of_ble_eq_true rfl)
  | exact Or.inl ⟨by omega, by omega⟩
  | exact Or.inr ⟨by omega, by omega⟩
  | exact ⟨by omega, by decide⟩
  | exact cdw_of (by omega) (by omega)
  | exact cpow_of (by omega) (by omega) (by omega)
  | (dsimp only; omega)
  | (show (0 : Int) < _; omega)
  | (show (0 : Int) ≤ _; omega))
local macro_rules | `(tactic| wtm_at "sx") => `(tactic| simp only [x_seq, x_next, x_brk, x_cont, x_never, x_drop, x_asg, x_name, x_sub, x_ret, x_retN, x_ifS, x_parD, x_par3D, x_c, x_op, x_un, x_test, x_tB, x_yes, x_not, x_and, x_or, x_andV, x_orV, x_notV, x_ifE, x_chain, x_nil, x_cons, x_tupD, x_lstD, x_call, x_callX, x_cb, x_forR1, x_forR2, x_forL, x_forT, x_bits, x_part, x_nopart, x_sl, x_bm0, x_bm, x_lcL, x_lcT, x_lcR1, x_aug, x_ipI, x_ib, x_bi, x_onelB, x_two, x_onel, x_disp, x_pairs0, x_pairsS, x_dget2, x_fld, x_fldT, x_meth0, x_make, x_sfld, x_eqIS, x_neIS,
  x_var0, x_var1, x_var2, x_var3, x_var4, x_var5, x_var6, x_var7, x_var8, x_var9, x_var10, x_var11, x_var12, x_var13, x_var14, x_var15, List.set_cons_zero, x_set1, x_set2, x_set3, x_set4, x_set5, x_set6, x_set7, x_set8, x_set9, x_set10, x_set11, x_set12, x_set13, x_set14, x_set15, x_i0, x_iC, x_uI, x_bl, x_eqI, x_neI, x_eqS, x_neS, x_par, x_par3, x_gnil, x_gcons, x_one, x_rt, x_nx, x_bk, x_ct, cx_K, cx_K1, List.append_nil, List.cons_append, List.nil_append, if_true, if_false, ite_not, decide_true, decide_false, Bool.not_true, Bool.not_false, Bool.false_eq_true, decide_eq_true_eq, Bool.not_eq_true', Bool.not_eq_false', decide_eq_false_iff_not, true_and, and_true, reduceCtorEq, Int.reduceLT, Int.reduceLE, Int.reduceToNat, false_and, exists_false, or_false, false_or, wipe, List.map_cons, List.map_nil])
local macro_rules | `(tactic| wtm_at "g1") => `(tactic| first
  | with_reducible refine g_i0 ?_
  | with_reducible refine g_sign (by assumption) (by wtm_at "hp") ?_
  | with_reducible refine g_top (by assumption) (by wtm_at "hp") ?_
  | with_reducible refine g_power (by assumption) (by wtm_at "hp") ?_
  | with_reducible refine isi_F (by assumption) (by wtm_at "hp") ?_
  | with_reducible refine isi_ll (by wtm_at "hp") ?_
  | with_reducible refine g_inT (bb := false) (by wtm_at "hp") rfl rfl inV_iS ?_
  | with_reducible refine g_notInT (bb := false) (by wtm_at "hp") rfl rfl inV_iS ?_
  | with_reducible refine g_iC (by k_dflt (wtm_at "sd")) ?_
  | with_reducible refine g_ixT (by wtm_at "hp") rfl ?_
  | with_reducible refine g_pY (by k_dflt (wtm_at "cd")) ?_
  | with_reducible refine g_pX (by k_dflt (wtm_at "cd")) ?_
  | with_reducible refine g_size (by k_dflt exact (Nat.le_of_ble_eq_true rfl)) ?_
  | with_reducible refine isi_ii ?_
  | with_reducible refine isi_ib ?_
  | with_reducible refine isi_ss ?_
  | with_reducible refine isi_tt (by wtm_at "hp") ?_
  | with_reducible refine isi_bb ?_
  | with_reducible refine isi_is ?_
  | with_reducible refine g_inT (bb := true) (by wtm_at "hp") rfl rfl (by decide +kernel) ?_
  | with_reducible refine g_inT (bb := false) (by wtm_at "hp") rfl rfl (by decide +kernel) ?_
  | with_reducible refine g_notInT (bb := true) (by wtm_at "hp") rfl rfl (by decide +kernel) ?_
  | with_reducible refine g_notInT (bb := false) (by wtm_at "hp") rfl rfl (by decide +kernel) ?_
  | with_reducible refine g_ixL (by wtm_at "hp") rfl ?_
  | with_reducible refine g_tup (by wtm_at "hp") rfl ?_
  | with_reducible refine g_bl ?_
  | with_reducible refine g_eqI ?_
  | with_reducible refine g_neI ?_
  | with_reducible refine g_lenT (by wtm_at "hp") ?_
  | with_reducible refine g_lenL (by wtm_at "hp") ?_
  | with_reducible refine g_tl4 (by wtm_at "hp") ?_
  | with_reducible refine g_tl3 (by wtm_at "hp") ?_
  | with_reducible refine g_slL (by wtm_at "hp") ?_
  | with_reducible refine g_listL (by wtm_at "hp") ?_
  | with_reducible refine g_setL (by wtm_at "hp") rfl ?_
  | (with_reducible refine g_newT ?_; intro p np hp)
  | (with_reducible refine g_newL ?_; intro p np hp)
  | (with_reducible refine g_all ?_; intro p np)
  | with_reducible refine ⟨by k_dflt (wtm_at "sd"), ?_⟩
  | wtm_at "u1")
local macro_rules | `(tactic| wtm_at "cd") => `(tactic| first | omega | decide +kernel)
local macro_rules | `(tactic| wtm_at "go") => `(tactic| ((try wtm_at "sx"); repeat (wtm_at "g1"; try wtm_at "sx")))
local macro_rules | `(tactic| wtm_at "sm") => `(tactic| first
  | with_reducible assumption
  | with_reducible exact Same.refl _
  | with_reducible exact same_new (by assumption)
  | (with_reducible refine Same.trans ?_ (same_new (by assumption)); wtm_at "sm")
  | (with_reducible refine same_mut ?_ (by wtm_at "fr"); wtm_at "sm")
  | (with_reducible refine Same.trans ?_ (by assumption); wtm_at "sm"))
local macro_rules | `(tactic| wtm_at "fr") => `(tactic| first
  | with_reducible assumption
  | with_reducible exact free2 (by assumption) (by wtm_at "sm"))

local macro_rules | `(tactic| wtm_at "u1") => `(tactic| (with_reducible refine use_is_plain ?_; intro H1 s1))
local macro_rules | `(tactic| wtm_at "u1") => `(tactic| (with_reducible refine use_sign_of ?_; intro H1 s1))
local macro_rules | `(tactic| wtm_at "u1") => `(tactic| (with_reducible refine use_reduced (by assumption) ?_; intro H1 p1 s1 n1 h1))
local macro_rules | `(tactic| wtm_at "u1") => `(tactic| (with_reducible refine use_fits (by assumption) ?_; intro H1 s1))
local macro_rules | `(tactic| wtm_at "u1") => `(tactic| (with_reducible refine use_Float (by assumption) (by assumption) ?_; intro H1 r1 t1 p1 s1 n1 f1 v1))
local macro_rules | `(tactic| wtm_at "u1") => `(tactic| (with_reducible refine use_Float_is_finite (by wtm_at "hp") ?_; intro H1 s1))
local macro_rules | `(tactic| wtm_at "u1") => `(tactic| (with_reducible refine use_Float_ratio (by wtm_at "hp") (by assumption) ?_; intro H1 p1 s1 n1 h1))
local macro_rules | `(tactic| wtm_at "u1") => `(tactic| (with_reducible refine use_is_number (by wtm_at "hp") ?_; intro H1 s1))
local macro_rules | `(tactic| wtm_at "u1") => `(tactic| (with_reducible refine use_is_finite_float (by wtm_at "hp") ?_; intro H1 s1))
local macro_rules | `(tactic| wtm_at "u1") => `(tactic| (with_reducible refine use__law_draw (by assumption) (by k_dflt omega) (by k_dflt omega) ?_; intro H1 d1 s1 w1 d0 dm))
section
variable {P : Program} {w : World} {K : PySem.W.Frag} {mg : Str → Option Value} {base : Heap}
theorem lw_sizes {ps : List (Addr × Int)} {H : Hp} (hF : FL K H ps) (hlen : ps.length ≤ 100) (i : Nat) (a b : Int) (hl : Lw (vls (ps.take i)).sum a b) : a.natAbs < 2 ^ 3200 ∧ b.natAbs < 2 ^ 1100 := by
  obtain ⟨k, hk, e⟩ := hl.bpow
  have h1 : (vls (ps.take i)).sum.natAbs ≤ (vls (ps.take i)).length * 2 ^ 2098 := sum_abs fun v hv => by
    obtain ⟨q0, hq, rfl⟩ := List.mem_map.mp hv
    obtain ⟨_, _, _, _, z⟩ := hF q0 (List.mem_of_mem_take hq)
    exact Nat.le_of_lt z.lt
  have h2 : (vls (ps.take i)).length ≤ 100 := by rw [List.length_map, List.length_take]; omega
  have h3 : (vls (ps.take i)).sum.natAbs < 2 ^ 2105 := by
    have e : (2 : Nat) ^ 2105 = 128 * 2 ^ 2098 := by rw [show (2105 : Nat) = 7 + 2098 by rfl, Nat.pow_add]
    have e0 := Nat.two_pow_pos 2098
    rw [e]
    generalize (2 : Nat) ^ 2098 = X at h1 e0 ⊢
    have h4 := Nat.mul_le_mul_right X h2
    omega
  exact ⟨lt_le (rt_size hl.toRt e h3) (by omega), by rw [e]; exact lt_le (pow_lt k) (by omega)⟩
theorem sum_take {ps : List (Addr × Int)} {i : Nat} {q0 : Addr × Int} (h : ps[i]? = some q0) : (vls (ps.take (i + 1))).sum = (vls (ps.take i)).sum + q0.2 := by
  show ((ps.take (i + 1)).map _).sum = _
  rw [List.take_add_one, h, List.map_append, List.sum_append]
  simp
theorem cut_from (xs : List V) (k : Nat) : cutV xs (some (k : Int)) none = xs.drop k := by
  unfold cutV
  rw [HT.sIx_nat, HT.sIx_none]
  by_cases c : k ≤ xs.length
  · rw [Nat.min_eq_left c]
    exact List.take_of_length_le (by rw [List.length_drop]; omega)
  · rw [Nat.min_eq_right (by omega), List.drop_of_length_le (Nat.le_refl _), List.drop_of_length_le (by omega)]
    simp
theorem cut_to (xs : List V) (k : Nat) : cutV xs none (some (k : Int)) = xs.take k := by
  unfold cutV
  rw [HT.sIx_nat, HT.sIx_none, List.drop_zero, Nat.sub_zero]
  by_cases c : k ≤ xs.length
  · rw [Nat.min_eq_left c]
  · rw [Nat.min_eq_right (by omega), List.take_of_length_le (Nat.le_refl _), List.take_of_length_le (by omega)]
theorem g_app {H : Hp} {Q : VK} {l : Addr} {xs : List V} {y : V} (h : H l = some (.lst xs)) (hl : xs.length ≤ 1000) (q : upd H l (.lst (xs ++ [y])) l = some (.lst (xs ++ [y])) → Q .non (upd H l (.lst (xs ++ [y])))) : tyV K "list" (.ref l) H ∧ rAppend (.ref l) [y] H Q :=
  ⟨.inl ⟨rfl, _, SqL.of h⟩, l, xs, y, rfl, rfl, h, Nat.lt_of_le_of_lt hl (by decide), q upd_same⟩
def sp__law_exact (K : PySem.W.Frag) : Sp := fun vs H Q _ => ∃ (l : Addr) (ps : List (Addr × Int)), vs = [.ref l] ∧ SqL K H l (rfs ps) ∧ ps.length ≤ 100 ∧ FL K H ps ∧ ∀ a b : Int, Lw (vls ps).sum a b → RetT [.int a, .int b] H Q
theorem kn__law_exact (T : Tx K mg) : Kn P w K mg base 3 "_law_exact" ["numbers"] (sp__law_exact K) := by
  obtain ⟨fd, F⟩ := T.d__law_exact
  refine kn_mk F T.g__law_exact sc__law_exact (fun _ _ _ _ _ _ us hl => match us, hl with | [_], _ => rfl) (fun vs H Q E h => ?_) (fun cdv A outer s H vs Q E hr h => ?_)
  · obtain ⟨l, ps, rfl, _⟩ := h
    rfl
  · obtain ⟨l, ps, rfl, hl, hlen, hF, q⟩ := h
    refine ⟨_, (pss_cons (ps_set (i := 1) sc__law_exact.nd rfl (Or.inl rfl) (pe_tup (pa_cons pe_int (pa_cons pe_int pa_nil))))
      (pss_cons (ps_for PassesOwn.never rfl (pi_listK K (pv 0)) (pg_name (i := 2) sc__law_exact.nd rfl (Or.inl rfl)) (pss_cons (ps_set (i := 3) sc__law_exact.nd rfl (Or.inl rfl) (pc (kn__law_ratio T) (hr.mono (by decide)) (pa_cons (pv 2) pa_nil)))
      (pss_one (ps_set (i := 1) sc__law_exact.nd rfl (Or.inl rfl) (pc (kn__law_low T) (hr.mono (by decide)) (pa_cons (pe_op op_add (pe_op op_mulW (pe_ix (ix_tupK K) (pv 1) pe_int (fun _ _ => rfl)) (pe_ix (ix_tupK K) (pv 3) pe_int (fun _ _ => rfl))) (pe_op op_mulW (pe_ix (ix_tupK K) (pv 3) pe_int (fun _ _ => rfl)) (pe_ix (ix_tupK K) (pv 1) pe_int (fun _ _ => rfl)))) (pa_cons (pe_op op_mulW (pe_ix (ix_tupK K) (pv 1) pe_int (fun _ _ => rfl)) (pe_ix (ix_tupK K) (pv 3) pe_int (fun _ _ => rfl))) pa_nil)))))))
      (pss_one (ps_ret (pv 1))))), st_as (σ' := [some _, none, none, none]) rfl ?_⟩
    wtm_at "go"
    rename_i p np hp
    refine loopL (rfs ps) (fun i σ G => ∃ (o m : Option V) (f : Addr) (a b : Int), σ = [some (.ref l), some (.ref f), o, m] ∧ Same H G ∧ H f = none ∧ G f = some (.tup [.int a, .int b]) ∧ Lw (vls (ps.take i)).sum a b) ⟨none, none, p, 0, 1, rfl, by wtm_at "sm", np, hp, Lw.one _ rfl⟩ (fun i σ G _ I => ?_) (fun i x σ G hx I => ?_) (fun σ G I => ?_)
    · obtain ⟨_, _, _, _, _, _, sG, _⟩ := I
      exact sG.seq hl
    · obtain ⟨o, m, f, a, b, rfl, sG, nf, hf, hL⟩ := I
      obtain ⟨q0, hq0, rfl⟩ := rfs_at hx
      have v0 := (hF q0 (List.mem_of_getElem? hq0)).same sG
      obtain ⟨b3, b4⟩ := lw_sizes hF hlen i a b hL
      wtm_at "go"
      refine use__law_ratio v0 fun c d hcd b1 b2 G1 q1 g1 m1 e1 => ?_
      have rt := hL.toRt.add hcd.toRt
      have c1 : (a * d + c * b).natAbs < 2 ^ 8000 := by
        have x1 := mul_lt b3 b2 (show 3200 + 1100 ≤ 7000 by decide)
        have x2 := mul_lt b1 b4 (show 3200 + 1100 ≤ 7000 by decide)
        have e : (2 : Nat) ^ 7001 = 2 ^ 7000 * 2 := Nat.pow_succ ..
        exact lt_le (a := 7001) (by omega) (by decide)
      have c2 : (b * d).natAbs < 2 ^ 8000 := mul_lt b4 b2 (by decide)
      wtm_at "go"
      refine use__law_low rt.b0 c1 c2 fun G2 q2 g2 m2 e2 => ?_
      wtm_at "go"
      refine ⟨_, _, q2, _, _, rfl, by wtm_at "sm", by wtm_at "fr", e2, ?_⟩
      rw [sum_take hq0]
      exact rt.low
    · obtain ⟨o, m, f, a, b, rfl, sG, nf, hf, hL⟩ := I
      rw [List.length_map, List.take_length] at hL
      wtm_at "go"
      exact q a b hL _ _ sG nf hf
theorem use__law_exact {H : Hp} {Q : VK} {E : XK} {l : Addr} {ps : List (Addr × Int)} (hl : SqL K H l (rfs ps)) (hlen : ps.length ≤ 100) (hF : FL K H ps) (q : ∀ a b : Int, Lw (vls ps).sum a b → RetT [.int a, .int b] H Q) : sp__law_exact K [.ref l] H Q E := ⟨l, ps, rfl, hl, hlen, hF, q⟩
/-! ### sums taken apart -/
def sp__law_swept (K : PySem.W.Frag) : Sp := fun vs H Q _ => ∃ (l : Addr) (ps : List (Addr × Int)) (m : Nat), vs = [.ref l] ∧ SqL K H l (rfs ps) ∧ ps ≠ [] ∧ ps.length ≤ 7 ∧ m ≤ 2000 ∧ FL K H ps ∧ (∀ q, q ∈ ps → q.2.natAbs ≤ 2 ^ m) ∧
  ∀ H' l' qs, Same H H' → H l' = none → H' l' = some (.lst (rfs qs)) → qs ≠ [] → qs.length ≤ 7 → FL K H' qs → (∀ q, q ∈ qs → q.2.natAbs ≤ 2 ^ (m + 6)) → (vls qs).sum = (vls ps).sum → Q (.ref l') H'
theorem kn__law_swept (T : Tx K mg) : Kn P w K mg base 9 "_law_swept" ["numbers"] (sp__law_swept K) := by
  obtain ⟨fd, F⟩ := T.d__law_swept
  refine kn_mk F T.g__law_swept sc__law_swept (fun _ _ _ _ _ _ us hl => match us, hl with | [_], _ => rfl) (fun vs H Q E h => ?_) (fun cdv A outer s H vs Q E hr h => ?_)
  · obtain ⟨l, ps, m, rfl, _⟩ := h
    rfl
  · obtain ⟨l, ps, m, rfl, hl, hn, hlen, hm, hF, hB, q⟩ := h
    refine ⟨_, (pss_cons (ps_par (i := 1) (j := 2) (by rfl) sc__law_swept.nd rfl rfl (by decide) rfl rfl (pa_cons (pe_ix (ix_listK K) (pv 0) pe_int (fun _ _ => rfl)) (pa_cons (pe_lst pa_nil) pa_nil)) (by rfl))
      (pss_cons (ps_for PassesOwn.never rfl (pi_listK K (pe_slice (sl_listK K) (pv 0) (po_some pe_int) po_none)) (pg_name (i := 3) sc__law_swept.nd rfl (Or.inl rfl)) (pss_cons (ps_asg (pc (kn_split_sum T) (hr.mono (by decide)) (pa_cons (pv 1) (pa_cons (pv 3) pa_nil))) (pg_tup (by rfl) (pgs_cons (pg_name (i := 1) sc__law_swept.nd rfl (Or.inl rfl)) (pgs_cons (pg_name (i := 4) sc__law_swept.nd rfl (Or.inl rfl)) pgs_nil))))
      (pss_one (ps_expr (pe_bm PySem.F.plainAttrs_list PySem.F.slot_list_append PySem.F.type_list_append mt_append (pv 2) (pa_cons (pv 4) pa_nil))))))
      (pss_one (ps_ret (pe_op op_cat (pv 2) (pe_lst (pa_cons (pv 1) pa_nil))))))), st_as (σ' := [some _, none, none, none, none]) rfl ?_⟩
    cases ps with
    | nil => exact absurd rfl hn
    | cons p0 ps =>
    wtm_at "go"
    refine g_ixL (v := .ref p0.1) hl (atI_nat (j := 0) rfl) ?_
    wtm_at "go"
    rename_i pp np hp sl nl
    rw [show cutV (V.ref p0.1 :: List.map (fun q => V.ref q.1) ps) (some 1) none = rfs ps from cut_from (rfs (p0 :: ps)) 1]
    rw [List.length_cons] at hlen
    have hFp : FL K H ps := fun q hq => hF q (List.mem_cons_of_mem _ hq)
    have hBp : ∀ q, q ∈ ps → q.2.natAbs ≤ 2 ^ m := fun q hq => hB q (List.mem_cons_of_mem _ hq)
    have ne : sl ≠ pp := fun e => by rw [e, hp] at nl; cases nl
    refine loopL (rfs ps) (fun i σ G => ∃ (r : Addr) (vh : Int) (o3 o4 : Option V) (qs : List (Addr × Int)), σ = [some (.ref l), some (.ref r), some (.ref pp), o3, o4] ∧ Same H G ∧ G sl = some (.lst (rfs ps)) ∧ G pp = some (.lst (rfs qs)) ∧ FL K G qs ∧ FV K G r vh ∧
      qs.length = i ∧ (vls qs).sum + vh = p0.2 + (vls (ps.take i)).sum ∧ vh.natAbs ≤ 2 ^ (m + i) ∧ ∀ q, q ∈ qs → q.2.natAbs ≤ 2 ^ m)
      ⟨p0.1, p0.2, none, none, [], rfl, (same_new np).trans (same_new nl), upd_same, ?_, FL.nil, ?_, rfl, ?_, hB p0 (List.mem_cons_self ..), fun q hq => by cases hq⟩ (fun i σ G _ I => ?_) (fun i x σ G hx I => ?_) (fun σ G I => ?_)
    · rw [upd_ne (fun e => ne e.symm)]; exact hp
    · exact (hF p0 (List.mem_cons_self ..)).same ((same_new np).trans (same_new nl))
    · simp
    · obtain ⟨_, _, _, _, _, _, _, hsl, _⟩ := I
      exact sql_of hsl
    · obtain ⟨r, vh, o3, o4, qs, rfl, sG, hsl, hpp, hFq, hr, hqi, hsum, hvh, hBq⟩ := I
      obtain ⟨q0, hq0, rfl⟩ := rfs_at hx
      have hi := (List.getElem?_eq_some_iff.mp hq0).1
      have hm0 := List.mem_of_getElem? hq0
      have v0 := (hFp q0 hm0).same sG
      have b0 := hBp q0 hm0
      have e1 : (2 : Nat) ^ m ≤ 2 ^ (m + i) := Nat.pow_le_pow_right (by decide) (by omega)
      have e2 : (2 : Nat) ^ (m + (i + 1)) = 2 ^ (m + i) * 2 := by rw [← Nat.add_assoc, Nat.pow_succ]
      have e3 : (2 : Nat) ^ (m + (i + 1)) ≤ 2 ^ 2097 := Nat.pow_le_pow_right (by decide) (by omega)
      have b1 : (vh + q0.2).natAbs ≤ 2 ^ (m + (i + 1)) := by omega
      wtm_at "go"
      refine use_split_sum hr v0 (by omega) (by omega) fun G1 p1 r1 r2 g1 m1 h1 f1 f2 => ?_
      wtm_at "go"
      have hpp1 := g1 _ _ hpp
      refine g_app hpp1 (by rw [List.length_map]; omega) fun hpp2 => ?_
      obtain ⟨_, _, _, _, zr⟩ := id hr
      have b2 : (vh + q0.2 - rnd (vh + q0.2)).natAbs ≤ 2 ^ m := by
        have z := err_le (a := q0.2) zr.isF
        rw [Int.add_comm q0.2 vh] at z
        omega
      refine ⟨r1, _, _, _, qs ++ [(r2, vh + q0.2 - rnd (vh + q0.2))], rfl, ?_, ?_, ?_, ?_, f1.upd hpp1, ?_, ?_, rnd_le b1, ?_⟩
      · exact same_mut (sG.trans g1) np
      · rw [upd_ne ne]; exact g1 _ _ hsl
      · rw [hpp2]
        unfold rfs
        rw [List.map_append]; rfl
      · exact ((hFq.same g1).upd hpp1).snoc (f2.upd hpp1)
      · rw [List.length_append, hqi]; rfl
      · rw [sum_take hq0]
        unfold vls
        rw [List.map_append, List.sum_append]
        simp only [List.map_cons, List.map_nil, List.sum_cons, List.sum_nil]
        unfold vls at hsum
        omega
      · intro q hq
        rcases List.mem_append.mp hq with z | z
        · exact hBq q z
        · rw [List.mem_singleton.mp z]; exact b2
    · obtain ⟨r, vh, o3, o4, qs, rfl, sG, hsl, hpp, hFq, hr, hqi, hsum, hvh, hBq⟩ := I
      rw [List.length_map] at hqi hsum hvh
      rw [List.take_length] at hsum
      wtm_at "go"
      rename_i p5 n5 h5
      have hpp5 : upd G p5 (.lst [.ref r]) pp = some (.lst (rfs qs)) := same_new n5 _ _ hpp
      refine g_cat hpp5 h5 (by rw [List.length_map]; exact Nat.le_trans (show qs.length + 1 ≤ 1000 by omega) (by decide)) fun p6 n6 h6 => ?_
      have s6 : Same G (upd (upd G p5 (.lst [.ref r])) p6 (.lst (rfs qs ++ [.ref r]))) := (same_new n5).trans (same_new n6)
      have e6 : rfs qs ++ [V.ref r] = rfs (qs ++ [(r, vh)]) := by
        unfold rfs
        rw [List.map_append]; rfl
      refine q _ p6 (qs ++ [(r, vh)]) (sG.trans s6) (by wtm_at "fr") (by rw [← e6]; exact h6) (by simp) (by rw [List.length_append, List.length_singleton]; omega) ((hFq.same s6).snoc (hr.same s6)) ?_ ?_
      · intro q hq
        rcases List.mem_append.mp hq with z | z
        · exact Nat.le_trans (hBq q z) (Nat.pow_le_pow_right (by decide) (by omega))
        · rw [List.mem_singleton.mp z]
          exact Nat.le_trans hvh (Nat.pow_le_pow_right (by decide) (by omega))
      · unfold vls at hsum ⊢
        rw [List.map_append, List.sum_append]
        simp only [List.map_cons, List.map_nil, List.sum_cons, List.sum_nil]
        omega
theorem use__law_swept {H : Hp} {Q : VK} {E : XK} {l : Addr} {ps : List (Addr × Int)} {m : Nat} (hl : SqL K H l (rfs ps)) (hn : ps ≠ []) (hlen : ps.length ≤ 7) (hm : m ≤ 2000) (hF : FL K H ps) (hB : ∀ q, q ∈ ps → q.2.natAbs ≤ 2 ^ m)
    (q : ∀ H' l' qs, Same H H' → H l' = none → H' l' = some (.lst (rfs qs)) → qs ≠ [] → qs.length ≤ 7 → FL K H' qs → (∀ q, q ∈ qs → q.2.natAbs ≤ 2 ^ (m + 6)) → (vls qs).sum = (vls ps).sum → Q (.ref l') H') : sp__law_swept K [.ref l] H Q E := ⟨l, ps, m, rfl, hl, hn, hlen, hm, hF, hB, q⟩
end
end W85

set_option maxHeartbeats 4000000
set_option exponentiation.threshold 9000
namespace W85
open PySem PySem.Spec PyProof.Rows L2 WK Fm
local macro_rules | `(tactic| wtm_at "hp") => `(tactic| first
  | with_reducible assumption
  | with_reducible exact upd_same
  | with_reducible exact sqt_of upd_same
  | with_reducible exact sql_of upd_same
  | with_reducible exact sqt_s1 (by assumption) (by wtm_at "sm")
  | with_reducible exact sqt_s2 (by assumption) (by wtm_at "sm")
  | with_reducible exact FO.same (by assumption) (by wtm_at "sm")
  | with_reducible exact sqt_all (by assumption)
  | with_reducible exact sql_s1 (by assumption) (by wtm_at "sm")
  | with_reducible exact sql_s2 (by assumption) (by wtm_at "sm")
  | with_reducible exact at_s1 (by assumption) (by wtm_at "sm"))
local macro_rules | `(tactic| wtm_at "sd") => `(tactic| first
  | exact cdw_all (by assumption)
  | exact wide_mul (by assumption) (by assumption) (by decide) (by decide) (Nat.le_of_ble_eq_true rfl)
  | exact Or.inl ⟨by omega, by omega⟩
  | exact Or.inr ⟨by omega, by omega⟩
  | exact ⟨by omega, by decide⟩
  | exact cdw_of (by omega) (by omega)
  | exact cpow_of (by omega) (by omega) (by omega)
  | (dsimp only; omega)
  | (show (0 : Int) < _; omega)
  | (show (0 : Int) ≤ _; omega))
local macro_rules | `(tactic| wtm_at "sx") => `(tactic| simp only [x_seq, x_next, x_brk, x_cont, x_never, x_drop, x_asg, x_name, x_sub, x_ret, x_retN, x_ifS, x_parD, x_par3D, x_c, x_op, x_un, x_test, x_tB, x_yes, x_not, x_and, x_or, x_andV, x_orV, x_notV, x_ifE, x_chain, x_nil, x_cons, x_tupD, x_lstD, x_call, x_callX, x_cb, x_forR1, x_forR2, x_forL, x_forT, x_bits, x_part, x_nopart, x_sl, x_bm0, x_bm, x_lcL, x_lcT, x_lcR1, x_aug, x_ipI, x_ib, x_bi, x_onelB, x_two, x_onel, x_disp, x_pairs0, x_pairsS, x_dget2, x_fld, x_fldT, x_meth0, x_make, x_sfld, x_eqIS, x_neIS,
  x_var0, x_var1, x_var2, x_var3, x_var4, x_var5, x_var6, x_var7, x_var8, x_var9, x_var10, x_var11, x_var12, x_var13, x_var14, x_var15, List.set_cons_zero, x_set1, x_set2, x_set3, x_set4, x_set5, x_set6, x_set7, x_set8, x_set9, x_set10, x_set11, x_set12, x_set13, x_set14, x_set15, x_i0, x_iC, x_uI, x_bl, x_eqI, x_neI, x_eqS, x_neS, x_par, x_par3, x_gnil, x_gcons, x_one, x_rt, x_nx, x_bk, x_ct, cx_K, cx_K1, List.append_nil, List.cons_append, List.nil_append, if_true, if_false, ite_not, decide_true, decide_false, Bool.not_true, Bool.not_false, Bool.false_eq_true, decide_eq_true_eq, Bool.not_eq_true', Bool.not_eq_false', decide_eq_false_iff_not, true_and, and_true, reduceCtorEq, Int.reduceLT, Int.reduceLE, Int.reduceToNat, false_and, exists_false, or_false, false_or, wipe, List.map_cons, List.map_nil])
local macro_rules | `(tactic| wtm_at "g1") => `(tactic| first
  | with_reducible refine g_i0 ?_
  | with_reducible refine g_sign (by assumption) (by wtm_at "hp") ?_
  | with_reducible refine g_top (by assumption) (by wtm_at "hp") ?_
  | with_reducible refine g_power (by assumption) (by wtm_at "hp") ?_
  | with_reducible refine isi_F (by assumption) (by wtm_at "hp") ?_
  | with_reducible refine isi_ll (by wtm_at "hp") ?_
  | with_reducible refine g_inT (bb := false) (by wtm_at "hp") rfl rfl inV_iS ?_
  | with_reducible refine g_notInT (bb := false) (by wtm_at "hp") rfl rfl inV_iS ?_
  | with_reducible refine g_iC (by k_dflt (wtm_at "sd")) ?_
  | with_reducible refine g_ixT (by wtm_at "hp") rfl ?_
  | with_reducible refine g_pY (by k_dflt (wtm_at "cd")) ?_
  | with_reducible refine g_pX (by k_dflt (wtm_at "cd")) ?_
  | with_reducible refine g_size (by k_dflt exact (Nat.le_of_ble_eq_true rfl)) ?_
  | with_reducible refine isi_ii ?_
  | with_reducible refine isi_ib ?_
  | with_reducible refine isi_ss ?_
  | with_reducible refine isi_tt (by wtm_at "hp") ?_
  | with_reducible refine isi_bb ?_
  | with_reducible refine isi_is ?_
  | with_reducible refine g_inT (bb := true) (by wtm_at "hp") rfl rfl (by decide +kernel) ?_
  | with_reducible refine g_inT (bb := false) (by wtm_at "hp") rfl rfl (by decide +kernel) ?_
  | with_reducible refine g_notInT (bb := true) (by wtm_at "hp") rfl rfl (by decide +kernel) ?_
  | with_reducible refine g_notInT (bb := false) (by wtm_at "hp") rfl rfl (by decide +kernel) ?_
  | with_reducible refine g_ixL (by wtm_at "hp") rfl ?_
  | with_reducible refine g_tup (by wtm_at "hp") rfl ?_
  | with_reducible refine g_bl ?_
  | with_reducible refine g_eqI ?_
  | with_reducible refine g_neI ?_
  | with_reducible refine g_lenT (by wtm_at "hp") ?_
  | with_reducible refine g_lenL (by wtm_at "hp") ?_
  | with_reducible refine g_tl4 (by wtm_at "hp") ?_
  | with_reducible refine g_tl3 (by wtm_at "hp") ?_
  | with_reducible refine g_slL (by wtm_at "hp") ?_
  | with_reducible refine g_listL (by wtm_at "hp") ?_
  | with_reducible refine g_setL (by wtm_at "hp") rfl ?_
  | (with_reducible refine g_newT ?_; intro p np hp)
  | (with_reducible refine g_newL ?_; intro p np hp)
  | (with_reducible refine g_all ?_; intro p np)
  | with_reducible refine ⟨by k_dflt (wtm_at "sd"), ?_⟩
  | wtm_at "u1")
local macro_rules | `(tactic| wtm_at "cd") => `(tactic| first | omega | decide +kernel)
local macro_rules | `(tactic| wtm_at "go") => `(tactic| ((try wtm_at "sx"); repeat (wtm_at "g1"; try wtm_at "sx")))
local macro_rules | `(tactic| wtm_at "sm") => `(tactic| first
  | with_reducible assumption
  | with_reducible exact Same.refl _
  | with_reducible exact same_new (by assumption)
  | (with_reducible refine Same.trans ?_ (same_new (by assumption)); wtm_at "sm")
  | (with_reducible refine same_mut ?_ (by wtm_at "fr"); wtm_at "sm")
  | (with_reducible refine Same.trans ?_ (by assumption); wtm_at "sm"))
local macro_rules | `(tactic| wtm_at "fr") => `(tactic| first
  | with_reducible assumption
  | with_reducible exact free2 (by assumption) (by wtm_at "sm"))

local macro_rules | `(tactic| wtm_at "u1") => `(tactic| (with_reducible refine use_is_plain ?_; intro H1 s1))
local macro_rules | `(tactic| wtm_at "u1") => `(tactic| (with_reducible refine use_sign_of ?_; intro H1 s1))
local macro_rules | `(tactic| wtm_at "u1") => `(tactic| (with_reducible refine use_reduced (by assumption) ?_; intro H1 p1 s1 n1 h1))
local macro_rules | `(tactic| wtm_at "u1") => `(tactic| (with_reducible refine use_fits (by assumption) ?_; intro H1 s1))
local macro_rules | `(tactic| wtm_at "u1") => `(tactic| (with_reducible refine use_Float (by assumption) (by assumption) ?_; intro H1 r1 t1 p1 s1 n1 f1 v1))
local macro_rules | `(tactic| wtm_at "u1") => `(tactic| (with_reducible refine use_Float_is_finite (by wtm_at "hp") ?_; intro H1 s1))
local macro_rules | `(tactic| wtm_at "u1") => `(tactic| (with_reducible refine use_Float_ratio (by wtm_at "hp") (by assumption) ?_; intro H1 p1 s1 n1 h1))
local macro_rules | `(tactic| wtm_at "u1") => `(tactic| (with_reducible refine use_is_number (by wtm_at "hp") ?_; intro H1 s1))
local macro_rules | `(tactic| wtm_at "u1") => `(tactic| (with_reducible refine use_is_finite_float (by wtm_at "hp") ?_; intro H1 s1))
local macro_rules | `(tactic| wtm_at "u1") => `(tactic| (with_reducible refine use__law_draw (by assumption) (by k_dflt omega) (by k_dflt omega) ?_; intro H1 d1 s1 w1 d0 dm))
/-! ### times a power of two -/
def tms (pw v : Int) : Int := if 0 ≤ pw then 2 ^ pw.toNat * v else v / 2 ^ (0 - pw).toNat
theorem dvd100 {v : Int} {k : Nat} (h : (2 : Int) ^ 574 ∣ v) (hk : k ≤ 574) : (2 : Int) ^ k ∣ v := Int.dvd_trans (pow_dvd hk) h
theorem tms_neg {pw v : Int} (h : (2 : Int) ^ 574 ∣ v) (hp : -100 ≤ pw) : tms pw (-v) = -tms pw v := by
  unfold tms
  split
  · rw [Int.mul_neg]
  · exact Int.neg_ediv_of_dvd (dvd100 h (by omega))
theorem tms_sgn {s pw v : Int} (hs : Sgn s) (h : (2 : Int) ^ 574 ∣ v) (hp : -100 ≤ pw) : s * tms pw v = tms pw (s * v) := by
  rcases hs with rfl | rfl
  · rw [Int.one_mul, Int.one_mul]
  · rw [show -1 * v = -v by omega, tms_neg h hp]; omega
theorem tms_add {pw v u : Int} (h : (2 : Int) ^ 574 ∣ v) (hp : -100 ≤ pw) : tms pw (v + u) = tms pw v + tms pw u := by
  unfold tms
  split
  · rw [Int.mul_add]
  · exact Int.add_ediv_of_dvd_left (dvd100 h (by omega))
theorem tms_zero (pw : Int) : tms pw 0 = 0 := by
  unfold tms
  split
  · rw [Int.mul_zero]
  · rw [Int.zero_ediv]
theorem tms_sum {pw : Int} {vs : List Int} (h : ∀ v, v ∈ vs → (2 : Int) ^ 574 ∣ v) (hp : -100 ≤ pw) : (vs.map (tms pw)).sum = tms pw vs.sum := by
  induction vs with
  | nil => exact (tms_zero pw).symm
  | cons v vs ih =>
    rw [List.map_cons, List.sum_cons, List.sum_cons, ih fun u hu => h u (List.mem_cons_of_mem _ hu), tms_add (h v (List.mem_cons_self ..)) hp]
theorem tms_rnd {pw v : Int} (h : (2 : Int) ^ 574 ∣ v) (hp : -100 ≤ pw) : rnd (tms pw v) = tms pw (rnd v) := by
  unfold tms
  split
  · exact rnd_scale _ _
  · obtain ⟨u, rfl⟩ := dvd100 h (show (0 - pw).toNat ≤ 574 by omega)
    have hq : (2 : Int) ^ (0 - pw).toNat ≠ 0 := by
      have : (0 : Int) < 2 ^ (0 - pw).toNat := Int.pow_pos (by decide)
      omega
    rw [rnd_scale, Int.mul_ediv_cancel_left _ hq, Int.mul_ediv_cancel_left _ hq]
theorem tms_abs {pw v : Int} {n : Nat} (hv : v.natAbs ≤ 2 ^ n) (h0 : -100 ≤ pw) (h1 : pw ≤ 100) : (tms pw v).natAbs ≤ 2 ^ (n + 100) := by
  unfold tms
  split
  · rw [Int.natAbs_mul, Int.natAbs_pow, Nat.pow_add, Nat.mul_comm]
    exact Nat.mul_le_mul hv (Nat.pow_le_pow_right (by decide) (by omega))
  · refine Nat.le_trans (Int.natAbs_ediv_le_natAbs ..) (Nat.le_trans hv (Nat.pow_le_pow_right (by decide) (by omega)))
theorem tms_fit {t p w pw : Int} (hn : NF t p w) (hd : (2 : Int) ^ 574 ∣ w) (hw : w.natAbs ≤ 2 ^ 1800) (h0 : -100 ≤ pw) (h1 : pw ≤ 100) : Fit t (p + pw) (tms pw w) := by
  by_cases c : t = 0
  · refine .inl ⟨c, ?_⟩
    rw [hn.zero.mp c, tms_zero]
  · have hk := NF_units hn c hd
    have t0 := hn.nonneg
    have hp := hn.p0
    have e : tms pw w = t * U (p + pw) := by
      unfold tms
      split
      · have z := U_add (p := p) pw.toNat hp
        rw [show p + (pw.toNat : Int) = p + pw by omega] at z
        rw [z, hn.v]
        grind
      · have z := U_add (p := p + pw) (0 - pw).toNat (by omega)
        rw [show p + pw + ((0 - pw).toNat : Int) = p by omega] at z
        have hq : (2 : Int) ^ (0 - pw).toNat ≠ 0 := by
          have : (0 : Int) < 2 ^ (0 - pw).toNat := Int.pow_pos (by decide)
          omega
        rw [hn.v, z, show t * (2 ^ (0 - pw).toNat * U (p + pw)) = 2 ^ (0 - pw).toNat * (t * U (p + pw)) by grind, Int.mul_ediv_cancel_left _ hq]
    refine .inr ⟨by omega, by omega, e, ?_, ?_⟩
    · rw [e, natAbs_mul_U _ t0]
      have := hn.tlt
      exact ⟨_, _, rfl, by omega⟩
    · have z := tms_abs hw h0 h1
      have l : (2 : Nat) ^ (1800 + 100) < 2 ^ 2098 := Nat.pow_lt_pow_right (by decide) (by decide)
      have e3 := pow_cast 2098
      omega
theorem NF_fit {t p w : Int} (h : NF t p w) : Fit t p w := by
  have hw := h.v0
  rcases h.h with ⟨h1, h2⟩ | ⟨h1, h2, h3, h4, h5⟩
  · exact .inl ⟨h1, h.zero.mp h1⟩
  · refine .inr ⟨h1, h4, h.v, h.isF, ?_⟩
    have z : V3 1 t p (1 * w) := ⟨.inl rfl, w, h, rfl⟩
    have l := z.lt
    have e3 := pow_cast 2098
    omega
theorem new_fit {t p : Int} (t0 : 0 ≤ t) (t1 : t < 4503599627370496) (p0 : -500 ≤ p) (p1 : p ≤ 520) : Fit t p (t * U p) ∧ (t * U p).natAbs ≤ 2 ^ 1650 ∧ (2 : Int) ^ 574 ∣ t * U p := by
  have hU : (U p) = 2 ^ (p + 1074).toNat := rfl
  have ha := natAbs_mul_U p t0
  have l : (t * U p).natAbs ≤ 2 ^ 1650 := by
    rw [ha]
    have l1 : t.natAbs ≤ 2 ^ 52 := by
      have : (2 : Nat) ^ 52 = 4503599627370496 := by decide
      omega
    have l2 : (2 : Nat) ^ (p + 1074).toNat ≤ 2 ^ 1598 := Nat.pow_le_pow_right (by decide) (by omega)
    have e : (2 : Nat) ^ 1650 = 2 ^ 52 * 2 ^ 1598 := by rw [← Nat.pow_add]
    rw [e]
    exact Nat.mul_le_mul l1 l2
  refine ⟨?_, l, ?_⟩
  · by_cases c : t = 0
    · exact .inl ⟨c, by rw [c, Int.zero_mul]⟩
    · refine .inr ⟨by omega, by omega, rfl, ?_, ?_⟩
      · rw [ha]
        exact ⟨_, _, rfl, by omega⟩
      · have l3 : (2 : Nat) ^ 1650 < 2 ^ 2098 := Nat.pow_lt_pow_right (by decide) (by decide)
        have e3 := pow_cast 2098
        omega
  · rw [hU]
    exact Int.dvd_trans (pow_dvd (show 574 ≤ (p + 1074).toNat by omega)) (Int.dvd_mul_left ..)
section
variable {P : Program} {w : World} {K : PySem.W.Frag} {mg : Str → Option Value} {base : Heap}
theorem V3.unsign {s t p v : Int} (h : V3 s t p v) : ∃ w, NF t p w ∧ v = s * w ∧ Sgn s ∧ w.natAbs = v.natAbs ∧ ∀ d : Int, d ∣ v → d ∣ w := by
  obtain ⟨hs, w, n, rfl⟩ := h
  refine ⟨w, n, rfl, hs, ?_, ?_⟩
  · rcases hs with rfl | rfl
    · rw [Int.one_mul]
    · rw [show -1 * w = -w by omega, Int.natAbs_neg]
  · intro d hd
    rcases hs with rfl | rfl
    · rwa [Int.one_mul] at hd
    · rw [show -1 * w = -w by omega] at hd
      exact Int.dvd_neg.mp hd
def sp__law_times (K : PySem.W.Frag) : Sp := fun vs H Q _ => ∃ (r : Addr) (v pw : Int), vs = [.ref r, .int pw] ∧ FV K H r v ∧ (2 : Int) ^ 574 ∣ v ∧ v.natAbs ≤ 2 ^ 1800 ∧ -100 ≤ pw ∧ pw ≤ 100 ∧ RetV K (tms pw v) H Q
theorem kn__law_times (T : Tx K mg) : Kn P w K mg base 4 "_law_times" ["number", "power"] (sp__law_times K) := by
  obtain ⟨fd, F⟩ := T.d__law_times
  refine kn_mk F T.g__law_times sc__law_times (fun _ _ _ _ _ _ us hl => match us, hl with | [_, _], _ => rfl) (fun vs H Q E h => ?_) (fun cdv A outer s H vs Q E hr h => ?_)
  · obtain ⟨r, v, pw, rfl, _⟩ := h
    rfl
  · obtain ⟨r, v, pw, rfl, ⟨s0, t, p, f, z⟩, hd, hv, h0, h1, q⟩ := h
    refine ⟨_, (pss_one (ps_ret (pcM (kn_Float T) (hr.mono (by decide)) (pa_cons (pe_fldK K (pv 0)) (pa_cons (pe_fldK K (pv 0)) (pa_cons (pe_op op_add (pe_fldK K (pv 0)) (pv 1)) pa_nil)))))), st_as (σ' := [some _, some _]) rfl ?_⟩
    have CFK := T.cf_Float
    obtain ⟨w0, hn, ev, hs, ea, hdv⟩ := V3.unsign z
    have hfit := tms_fit hn (hdv _ hd) (by rw [ea]; exact hv) h0 h1
    wtm_at "go"
    rename_i G1 r1 t1 p1 g1 m1 f1 z1
    rw [tms_sgn hs (hdv _ hd) h0, ← ev] at z1
    exact q _ _ (by wtm_at "sm") (by wtm_at "fr") ⟨_, _, _, f1, z1⟩
theorem use__law_times {H : Hp} {Q : VK} {E : XK} {r : Addr} {v pw : Int} (h : FV K H r v) (hd : (2 : Int) ^ 574 ∣ v) (hv : v.natAbs ≤ 2 ^ 1800) (h0 : -100 ≤ pw) (h1 : pw ≤ 100) (q : RetV K (tms pw v) H Q) : sp__law_times K [.ref r, .int pw] H Q E := ⟨r, v, pw, rfl, h, hd, hv, h0, h1, q⟩
/-! ### the drawn lists -/
theorem FV_sa {H H' : Hp} {a r : Addr} {v : Int} (h : FV K H r v) (hw : Well H a) (s : Sa a H H') : FV K H' r v := by
  obtain ⟨s0, t, p, ⟨dx, f⟩, z⟩ := h
  refine ⟨s0, t, p, ⟨dx, s _ _ f fun e => ?_⟩, z⟩
  obtain ⟨x, y, z', hx⟩ := hw
  rw [e, hx] at f
  cases f
theorem FL_sa {H H' : Hp} {a : Addr} {ps : List (Addr × Int)} (h : FL K H ps) (hw : Well H a) (s : Sa a H H') : FL K H' ps := fun q hq => FV_sa (h q hq) hw s
theorem rfs_ne {H : Hp} {a l : Addr} {ps : List (Addr × Int)} (h : H l = some (.lst (rfs ps))) (hw : Well H a) : l ≠ a := by
  intro e
  obtain ⟨x, y, z, hx⟩ := hw
  rw [e, hx] at h
  have h := HO.lst.inj (Option.some.inj h)
  cases ps with
  | nil => cases h
  | cons q ps => cases h
theorem sa_mut {H G : Hp} {a p : Addr} {o : HO} (s : Sa a H G) (n : H p = none) : Sa a H (upd G p o) := fun b u h nb => by
  rw [upd_ne (ne_of_none h n)]
  exact s b u h nb
theorem Well.upd {G : Hp} {a p : Addr} {o : HO} (w : Well G a) (n : p ≠ a) : Well (upd G p o) a := by
  obtain ⟨x, y, z, h⟩ := w
  exact ⟨x, y, z, by rw [upd_ne n.symm]; exact h⟩
theorem g_app2 {H : Hp} {Q : VK} {l : Addr} {xs : List V} {y : V} (h : H l = some (.lst xs)) (hl : xs.length ≤ 1000) (q : L2.upd H l (.lst (xs ++ [y])) l = some (.lst (xs ++ [y])) → Q .non (L2.upd H l (.lst (xs ++ [y])))) : rAppend (.ref l) [y] H Q :=
  ⟨l, xs, y, rfl, rfl, h, Nat.lt_of_le_of_lt hl (by decide), q upd_same⟩
theorem ty_lst {H : Hp} {l : Addr} {xs : List V} (h : H l = some (.lst xs)) : tyV K "list" (.ref l) H := .inl ⟨rfl, _, SqL.of h⟩
theorem last_of {ps : List (Addr × Int)} (h : 0 < ps.length) : ∃ ps' q, ps = ps' ++ [q] := by
  have hne : ps ≠ [] := fun e => by rw [e] at h; exact absurd h (by decide)
  exact ⟨ps.dropLast, ps.getLast hne, (List.dropLast_concat_getLast hne).symm⟩
def sp__law_numbers (K : PySem.W.Frag) : Sp := fun vs H Q _ => ∃ a : Addr, vs = [.ref a] ∧ Well H a ∧ ∀ H' l ps, Sa a H H' → Well H' a → H l = none → H' l = some (.lst (rfs ps)) → ps ≠ [] → ps.length ≤ 7 → FL K H' ps → (∀ q, q ∈ ps → q.2.natAbs ≤ 2 ^ 1650 ∧ (2 : Int) ^ 574 ∣ q.2) → Q (.ref l) H'
theorem kn__law_numbers (T : Tx K mg) : Kn P w K mg base 4 "_law_numbers" ["well"] (sp__law_numbers K) := by
  obtain ⟨fd, F⟩ := T.d__law_numbers
  refine kn_mk F T.g__law_numbers sc__law_numbers (fun _ _ _ _ _ _ us hl => match us, hl with | [_], _ => rfl) (fun vs H Q E h => ?_) (fun cdv A outer s H vs Q E hr h => ?_)
  · obtain ⟨a, rfl, _⟩ := h
    rfl
  · obtain ⟨a, rfl, hw, q⟩ := h
    refine ⟨_, (pss_cons (ps_par (i := 1) (j := 2) (by rfl) sc__law_numbers.nd rfl rfl (by decide) rfl rfl (pa_cons (pe_lst pa_nil) (pa_cons (pe_op op_sub (pc (kn__law_draw T) (hr.mono (by decide)) (pa_cons (pv 0) (pa_cons pe_int pa_nil))) pe_int) pa_nil)) (by rfl))
      (pss_cons (ps_for PassesOwn.never rfl (pi_range1 rfl T.n_range (pa_cons (pe_op op_add pe_int (pc (kn__law_draw T) (hr.mono (by decide)) (pa_cons (pv 0) (pa_cons pe_int pa_nil)))) pa_nil)) (pg_name (i := 3) sc__law_numbers.nd rfl (Or.inl rfl)) (pss_one (ps_if (PW.pt (pw_and (pt_cmpR op_gt (pe_callB (call_lenK K) (by rfl) T.n_len (by decide +kernel) (pa_cons (pv 1) pa_nil)) pe_int (nomark _)) (pw_and1 (pt_cmpR op_eq (pc (kn__law_draw T) (hr.mono (by decide)) (pa_cons (pv 0) (pa_cons pe_int pa_nil))) pe_int (nomark _))))) (pss_one (ps_expr (pe_bm PySem.F.plainAttrs_list PySem.F.slot_list_append PySem.F.type_list_append mt_append (pv 1) (pa_cons (pcM (kn_Float T) (hr.mono (by decide)) (pa_cons (pe_op op_sub pe_int (pe_fldK K (pe_ix (ix_listK K) (pv 1) (pe_un un_neg pe_int) (fun _ _ => rfl)))) (pa_cons (pe_fldK K (pe_ix (ix_listK K) (pv 1) (pe_un un_neg pe_int) (fun _ _ => rfl))) (pa_cons (pe_fldK K (pe_ix (ix_listK K) (pv 1) (pe_un un_neg pe_int) (fun _ _ => rfl))) pa_nil)))) pa_nil)))) (pss_cons (ps_set (i := 4) sc__law_numbers.nd rfl (Or.inl rfl) (pe_op op_add (pe_op op_add (pc (kn__law_draw T) (hr.mono (by decide)) (pa_cons (pv 0) (pa_cons (pe_k (v := .int (1048576)) (pe_op op_shl pe_int pe_int) k_shl) pa_nil))) (pe_op op_shl (pc (kn__law_draw T) (hr.mono (by decide)) (pa_cons (pv 0) (pa_cons (pe_k (v := .int (1048576)) (pe_op op_shl pe_int pe_int) k_shl) pa_nil))) pe_int)) (pe_op op_shl (pc (kn__law_draw T) (hr.mono (by decide)) (pa_cons (pv 0) (pa_cons (pe_k (v := .int (4096)) (pe_op op_shl pe_int pe_int) k_shl) pa_nil))) pe_int)))
      (pss_one (ps_expr (pe_bm PySem.F.plainAttrs_list PySem.F.slot_list_append PySem.F.type_list_append mt_append (pv 1) (pa_cons (pcM (kn_Float T) (hr.mono (by decide)) (pa_cons (pc (kn__law_one T) (hr.mono (by decide)) (pa_cons (pv 0) (pa_cons (pe_lst (pa_cons pe_int (pa_cons (pe_k (v := .int (-1)) (pe_op op_sub pe_int pe_int) k_sub) pa_nil))) pa_nil))) (pa_cons (pv 4) (pa_cons (pe_op op_add (pv 2) (pc (kn__law_draw T) (hr.mono (by decide)) (pa_cons (pv 0) (pa_cons pe_int pa_nil)))) pa_nil)))) pa_nil))))))))
      (pss_one (ps_ret (pv 1))))), st_as (σ' := [some _, none, none, none, none]) rfl ?_⟩
    have CFK := T.cf_Float
    wtm_at "go"
    rename_i pp np hp
    refine use__law_draw (hw.same (same_new np)) (by decide) (by decide) fun G1 d1 s1 w1 d0 dm => ?_
    wtm_at "go"
    rename_i G2 d2 s2 w2 d20 d2m
    have npa : pp ≠ a := rfs_ne (ps := []) hp (hw.same (same_new np))
    have hp1 := s1 _ _ hp npa
    have hp2 := s2 _ _ hp1 npa
    have sH : Sa a H G2 := (Same.sa (same_new np)).trans (s1.trans s2)
    refine loopR1 (by omega) (fun i σ G => ∃ (o3 o4 : Option V) (ps : List (Addr × Int)), σ = [some (.ref a), some (.ref pp), some (.int (d1 - 500)), o3, o4] ∧ Sa a H G ∧ Well G a ∧ G pp = some (.lst (rfs ps)) ∧ ps.length = i ∧ FL K G ps ∧ ∀ q, q ∈ ps → q.2.natAbs ≤ 2 ^ 1650 ∧ (2 : Int) ^ 574 ∣ q.2)
      ⟨none, none, [], rfl, sH, w2, hp2, rfl, FL.nil, fun q hq => by cases hq⟩ (fun i σ G hi I => ?_) (fun σ G I => ?_)
    · obtain ⟨o3, o4, ps, rfl, sG, wG, hG, hl, hF, hB⟩ := I
      have add : ∀ G' r v, Sa a G G' → Well G' a → FV K G' r v → v.natAbs ≤ 2 ^ 1650 → (2 : Int) ^ 574 ∣ v → ∀ o3' o4' : Option V, rAppend (.ref pp) [.ref r] G' fun _ H' => ∃ (o3 o4 : Option V) (ps : List (Addr × Int)), [some (.ref a), some (.ref pp), some (.int (d1 - 500)), o3', o4'] = [some (V.ref a), some (.ref pp), some (.int (d1 - 500)), o3, o4] ∧ Sa a H H' ∧ Well H' a ∧ H' pp = some (.lst (rfs ps)) ∧ ps.length = i + 1 ∧ FL K H' ps ∧ ∀ q, q ∈ ps → q.2.natAbs ≤ 2 ^ 1650 ∧ (2 : Int) ^ 574 ∣ q.2 := by
        intro G' r v s' w' hv b1 b2 o3' o4'
        have hG' := s' _ _ hG npa
        refine g_app2 hG' (by rw [List.length_map]; omega) fun hpp => ⟨o3', o4', ps ++ [(r, v)], rfl, sa_mut (sG.trans s') np, w'.upd npa, ?_, ?_, ((FL_sa hF wG s').upd hG').snoc (hv.upd hG'), ?_⟩
        · rw [hpp]
          unfold rfs
          rw [List.map_append]; rfl
        · rw [List.length_append, hl]; rfl
        · intro q hq
          rcases List.mem_append.mp hq with z | z
          · exact hB q z
          · rw [List.mem_singleton.mp z]; exact ⟨b1, b2⟩
      have new : ∀ G', Sa a G G' → Well G' a → ∀ t p s0 : Int, 0 ≤ t → t < 4503599627370496 → -500 ≤ p → p ≤ 520 → Sgn s0 → ∀ o3' o4' : Option V, MakeG (He.ga K (Str.ofString "Float")) (sp_Float___init__ K) [.int s0, .int t, .int p] G' fun x H1 => rAppend (.ref pp) [x] H1 fun _ H' => ∃ (o3 o4 : Option V) (ps : List (Addr × Int)), [some (.ref a), some (.ref pp), some (.int (d1 - 500)), o3', o4'] = [some (V.ref a), some (.ref pp), some (.int (d1 - 500)), o3, o4] ∧ Sa a H H' ∧ Well H' a ∧ H' pp = some (.lst (rfs ps)) ∧ ps.length = i + 1 ∧ FL K H' ps ∧ ∀ q, q ∈ ps → q.2.natAbs ≤ 2 ^ 1650 ∧ (2 : Int) ^ 574 ∣ q.2 := by
        intro G' s' w' t p s0 t0 t1 p0 p1 hs o3' o4'
        obtain ⟨hfit, hb, hd⟩ := new_fit t0 t1 p0 p1
        refine use_Float hs hfit fun G3 r3 t3 p3 g3 m3 f3 z3 => ?_
        refine add G3 r3 _ (s'.trans (Same.sa g3)) (w'.same g3) ⟨_, _, _, f3, z3⟩ ?_ ?_ o3' o4'
        · rcases hs with rfl | rfl
          · rw [Int.one_mul]; exact hb
          · rw [show -1 * (t * U p) = -(t * U p) by omega, Int.natAbs_neg]; exact hb
        · exact Int.dvd_trans hd (Int.dvd_mul_left ..)
      have old : ∀ G', Sa a G G' → Well G' a → 0 < ps.length → ∀ o3' o4' : Option V, ∃ (r : Addr) (s0 t p : Int), atI (rfs ps) (-1) = some (.ref r) ∧ FO K G' r s0 t p ∧ MakeG (He.ga K (Str.ofString "Float")) (sp_Float___init__ K) [.int (0 - s0), .int t, .int p] G' fun x H1 => rAppend (.ref pp) [x] H1 fun _ H' => ∃ (o3 o4 : Option V) (ps : List (Addr × Int)), [some (.ref a), some (.ref pp), some (.int (d1 - 500)), o3', o4'] = [some (V.ref a), some (.ref pp), some (.int (d1 - 500)), o3, o4] ∧ Sa a H H' ∧ Well H' a ∧ H' pp = some (.lst (rfs ps)) ∧ ps.length = i + 1 ∧ FL K H' ps ∧ ∀ q, q ∈ ps → q.2.natAbs ≤ 2 ^ 1650 ∧ (2 : Int) ^ 574 ∣ q.2 := by
        intro G' s' w' h0 o3' o4'
        obtain ⟨ps', q0, e0⟩ := last_of h0
        have hm : q0 ∈ ps := by rw [e0]; exact List.mem_append_right _ (List.mem_singleton.mpr rfl)
        obtain ⟨s0, t, p, f, z⟩ := FV_sa (hF q0 hm) wG s'
        obtain ⟨b1, b2⟩ := hB q0 hm
        obtain ⟨w0, hn, ev, hs, ea, hdv⟩ := V3.unsign z
        have hs' : Sgn (0 - s0) := by rcases hs with rfl | rfl; exact .inr rfl; exact .inl rfl
        refine ⟨q0.1, s0, t, p, ?_, f, ?_⟩
        · rw [e0]
          unfold rfs
          rw [List.map_append]
          exact atI_last _ _
        · refine use_Float hs' (NF_fit hn) fun G3 r3 t3 p3 g3 m3 f3 z3 => ?_
          have e4 : (0 - s0) * w0 = -q0.2 := by rw [ev, Int.zero_sub, Int.neg_mul]
          rw [e4] at z3
          exact add G3 r3 _ (s'.trans (Same.sa g3)) (w'.same g3) ⟨_, _, _, f3, z3⟩ (by rw [Int.natAbs_neg]; exact b1) (Int.dvd_neg.mpr b2) o3' o4'
      wtm_at "go"
      have made : ∀ G', Sa a G G' → Well G' a → sp__law_draw [V.ref a, V.int 1048576] G' (fun x H1 => sp__law_draw [V.ref a, V.int 1048576] H1 (fun x_1 H1 => rI CPow (fun i j => V.int (i * 2 ^ j.toNat)) x_1 (V.int 20) H1 fun y H2 => rI0 (fun i j => V.int (i + j)) x y H2 fun x H1 =>
          sp__law_draw [V.ref a, V.int 4096] H1 (fun x_2 H1 => rI CPow (fun i j => V.int (i * 2 ^ j.toNat)) x_2 (V.int 40) H1 fun y H2 => rI0 (fun i j => V.int (i + j)) x y H2 fun x H1 =>
            tyV K "list" (V.ref pp) H1 ∧ [V.int 1, V.int (-1)].length ≤ sizeLine ∧ ∀ (p : Addr), H1 p = none → upd H1 p (HO.lst [V.int 1, V.int (-1)]) p = some (HO.lst [V.int 1, V.int (-1)]) →
              sp__law_one K [V.ref a, V.ref p] (upd H1 p (HO.lst [V.int 1, V.int (-1)])) (fun x_3 H1 => sp__law_draw [V.ref a, V.int 120] H1 (fun y H2 => rI0 (fun i j => V.int (i + j)) (V.int (d1 - 500)) y H2 fun x_4 H1 =>
                MakeG (He.ga K (Str.ofString "Float")) (sp_Float___init__ K) [x_3, x, x_4] H1 fun x_5 H1 => rAppend (V.ref pp) [x_5] H1 fun _ H' => ∃ (o3 o4 : Option V) (ps : List (Addr × Int)), [some (.ref a), some (.ref pp), some (.int (d1 - 500)), some (.int (i : Int)), some x] = [some (V.ref a), some (.ref pp), some (.int (d1 - 500)), o3, o4] ∧ Sa a H H' ∧ Well H' a ∧ H' pp = some (.lst (rfs ps)) ∧ ps.length = i + 1 ∧ FL K H' ps ∧ ∀ q, q ∈ ps → q.2.natAbs ≤ 2 ^ 1650 ∧ (2 : Int) ^ 574 ∣ q.2) E0) E0) E0) E0) E0 := by
        intro G' s' w'
        refine use__law_draw w' (by decide) (by decide) fun G3 d3 s3 w3 d30 d3m => ?_
        refine use__law_draw w3 (by decide) (by decide) fun G4 d4 s4 w4 d40 d4m => ?_
        wtm_at "go"
        rename_i G5 d5 s5 w5 d50 d5m
        have sA : Sa a G G5 := s'.trans (s3.trans (s4.trans s5))
        refine ⟨ty_lst (sA _ _ hG npa), ?_⟩
        wtm_at "go"
        rename_i l6 n6 h6
        refine use__law_one (w5.same (same_new n6)) h6 (fun z => ?_) (Nat.le_of_ble_eq_true rfl) (Nat.le_of_ble_eq_true rfl) fun G7 v7 s7 w7 hv => ?_
        · obtain ⟨x, y, z', hx⟩ := w5
          rw [z, hx] at n6
          cases n6
        · refine use__law_draw w7 (by decide) (by decide) fun G8 d8 s8 w8 d80 d8m => ?_
          have sB : Sa a G G8 := sA.trans ((Same.sa (same_new n6)).trans (s7.trans s8))
          have e20 : (2 : Int) ^ 20 = 1048576 := by decide
          have e40 : (2 : Int) ^ 40 = 1099511627776 := by decide
          simp only [List.mem_cons, List.not_mem_nil, or_false] at hv
          rcases hv with rfl | rfl
          · wtm_at "go"
            exact new G8 sB w8 _ _ _ (by omega) (by omega) (by omega) (by omega) (.inl rfl) _ _
          · wtm_at "go"
            exact new G8 sB w8 _ _ _ (by omega) (by omega) (by omega) (by omega) (.inr rfl) _ _
      by_cases c : 0 < ps.length
      · rw [List.length_map, if_pos (by omega)]
        refine use__law_draw wG (by decide) (by decide) fun G3 d3 s3 w3 d30 d3m => ?_
        wtm_at "go"
        by_cases c2 : d3 = 0
        · rw [if_pos c2]
          have hG3 := s3 _ _ hG npa
          refine ⟨ty_lst hG3, ?_⟩
          obtain ⟨r, s0, t, p, hat, f, m⟩ := old G3 s3 w3 c (some (.int (i : Int))) o4
          refine g_ixL (sql_of hG3) hat ?_
          wtm_at "go"
          refine g_ixL (sql_of hG3) hat ?_
          wtm_at "go"
          refine g_ixL (sql_of hG3) hat ?_
          wtm_at "go"
          exact m
        · rw [if_neg c2]
          exact made G3 s3 w3
      · rw [List.length_map, if_neg (by omega)]
        exact made G (Sa.refl _ _) wG
    · obtain ⟨o3, o4, ps, rfl, sG, wG, hG, hl, hF, hB⟩ := I
      wtm_at "go"
      refine q G pp ps sG wG np hG ?_ (by omega) hF hB
      intro e
      rw [e] at hl
      simp only [List.length_nil] at hl
      omega
theorem use__law_numbers {H : Hp} {Q : VK} {E : XK} {a : Addr} (hw : Well H a) (q : ∀ H' l ps, Sa a H H' → Well H' a → H l = none → H' l = some (.lst (rfs ps)) → ps ≠ [] → ps.length ≤ 7 → FL K H' ps → (∀ q, q ∈ ps → q.2.natAbs ≤ 2 ^ 1650 ∧ (2 : Int) ^ 574 ∣ q.2) → Q (.ref l) H') : sp__law_numbers K [.ref a] H Q E := ⟨a, rfl, hw, q⟩
end
end W85

set_option maxHeartbeats 4000000
set_option exponentiation.threshold 9000
namespace W85
open PySem PySem.Spec PyProof.Rows L2 WK Fm
local macro_rules | `(tactic| wtm_at "hp") => `(tactic| first
  | with_reducible assumption
  | with_reducible exact upd_same
  | with_reducible exact sqt_of upd_same
  | with_reducible exact sql_of upd_same
  | with_reducible exact sqt_s1 (by assumption) (by wtm_at "sm")
  | with_reducible exact sqt_s2 (by assumption) (by wtm_at "sm")
  | with_reducible exact FO.same (by assumption) (by wtm_at "sm")
  | with_reducible exact sqt_all (by assumption)
  | with_reducible exact sql_s1 (by assumption) (by wtm_at "sm")
  | with_reducible exact sql_s2 (by assumption) (by wtm_at "sm")
  | with_reducible exact at_s1 (by assumption) (by wtm_at "sm"))
local macro_rules | `(tactic| wtm_at "sd") => `(tactic| first
  | exact cdw_all (by assumption)
  | exact wide_mul (by assumption) (by assumption) (by decide) (by decide) (Nat.le_of_ble_eq_true rfl)
  | exact Or.inl ⟨by omega, by omega⟩
  | exact Or.inr ⟨by omega, by omega⟩
  | exact ⟨by omega, by decide⟩
  | exact cdw_of (by omega) (by omega)
  | exact cpow_of (by omega) (by omega) (by omega)
  | (dsimp only; omega)
  | (show (0 : Int) < _; omega)
  | (show (0 : Int) ≤ _; omega))
local macro_rules | `(tactic| wtm_at "sx") => `(tactic| simp only [x_seq, x_next, x_brk, x_cont, x_never, x_drop, x_asg, x_name, x_sub, x_ret, x_retN, x_ifS, x_parD, x_par3D, x_c, x_op, x_un, x_test, x_tB, x_yes, x_not, x_and, x_or, x_andV, x_orV, x_notV, x_ifE, x_chain, x_nil, x_cons, x_tupD, x_lstD, x_call, x_callX, x_cb, x_forR1, x_forR2, x_forL, x_forT, x_bits, x_part, x_nopart, x_sl, x_bm0, x_bm, x_lcL, x_lcT, x_lcR1, x_aug, x_ipI, x_ib, x_bi, x_onelB, x_two, x_onel, x_disp, x_pairs0, x_pairsS, x_dget2, x_fld, x_fldT, x_meth0, x_make, x_sfld, x_eqIS, x_neIS,
  x_var0, x_var1, x_var2, x_var3, x_var4, x_var5, x_var6, x_var7, x_var8, x_var9, x_var10, x_var11, x_var12, x_var13, x_var14, x_var15, List.set_cons_zero, x_set1, x_set2, x_set3, x_set4, x_set5, x_set6, x_set7, x_set8, x_set9, x_set10, x_set11, x_set12, x_set13, x_set14, x_set15, x_i0, x_iC, x_uI, x_bl, x_eqI, x_neI, x_eqS, x_neS, x_par, x_par3, x_gnil, x_gcons, x_one, x_rt, x_nx, x_bk, x_ct, cx_K, cx_K1, List.append_nil, List.cons_append, List.nil_append, if_true, if_false, ite_not, decide_true, decide_false, Bool.not_true, Bool.not_false, Bool.false_eq_true, decide_eq_true_eq, Bool.not_eq_true', Bool.not_eq_false', decide_eq_false_iff_not, true_and, and_true, reduceCtorEq, Int.reduceLT, Int.reduceLE, Int.reduceToNat, false_and, exists_false, or_false, false_or, wipe, List.map_cons, List.map_nil])
local macro_rules | `(tactic| wtm_at "g1") => `(tactic| first
  | with_reducible refine g_i0 ?_
  | with_reducible refine g_sign (by assumption) (by wtm_at "hp") ?_
  | with_reducible refine g_top (by assumption) (by wtm_at "hp") ?_
  | with_reducible refine g_power (by assumption) (by wtm_at "hp") ?_
  | with_reducible refine isi_F (by assumption) (by wtm_at "hp") ?_
  | with_reducible refine isi_ll (by wtm_at "hp") ?_
  | with_reducible refine g_inT (bb := false) (by wtm_at "hp") rfl rfl inV_iS ?_
  | with_reducible refine g_notInT (bb := false) (by wtm_at "hp") rfl rfl inV_iS ?_
  | with_reducible refine g_iC (by k_dflt (wtm_at "sd")) ?_
  | with_reducible refine g_ixT (by wtm_at "hp") rfl ?_
  | with_reducible refine g_pY (by k_dflt (wtm_at "cd")) ?_
  | with_reducible refine g_pX (by k_dflt (wtm_at "cd")) ?_
  | with_reducible refine g_size (by k_dflt exact (Nat.le_of_ble_eq_true rfl)) ?_
  | with_reducible refine isi_ii ?_
  | with_reducible refine isi_ib ?_
  | with_reducible refine isi_ss ?_
  | with_reducible refine isi_tt (by wtm_at "hp") ?_
  | with_reducible refine isi_bb ?_
  | with_reducible refine isi_is ?_
  | with_reducible refine g_inT (bb := true) (by wtm_at "hp") rfl rfl (by decide +kernel) ?_
  | with_reducible refine g_inT (bb := false) (by wtm_at "hp") rfl rfl (by decide +kernel) ?_
  | with_reducible refine g_notInT (bb := true) (by wtm_at "hp") rfl rfl (by decide +kernel) ?_
  | with_reducible refine g_notInT (bb := false) (by wtm_at "hp") rfl rfl (by decide +kernel) ?_
  | with_reducible refine g_ixL (by wtm_at "hp") rfl ?_
  | with_reducible refine g_tup (by wtm_at "hp") rfl ?_
  | with_reducible refine g_bl ?_
  | with_reducible refine g_eqI ?_
  | with_reducible refine g_neI ?_
  | with_reducible refine g_lenT (by wtm_at "hp") ?_
  | with_reducible refine g_lenL (by wtm_at "hp") ?_
  | with_reducible refine g_tl4 (by wtm_at "hp") ?_
  | with_reducible refine g_tl3 (by wtm_at "hp") ?_
  | with_reducible refine g_slL (by wtm_at "hp") ?_
  | with_reducible refine g_listL (by wtm_at "hp") ?_
  | with_reducible refine g_setL (by wtm_at "hp") rfl ?_
  | (with_reducible refine g_newT ?_; intro p np hp)
  | (with_reducible refine g_newL ?_; intro p np hp)
  | (with_reducible refine g_all ?_; intro p np)
  | with_reducible refine ⟨by k_dflt (wtm_at "sd"), ?_⟩
  | wtm_at "u1")
local macro_rules | `(tactic| wtm_at "cd") => `(tactic| first | omega | decide +kernel)
local macro_rules | `(tactic| wtm_at "go") => `(tactic| ((try wtm_at "sx"); repeat (wtm_at "g1"; try wtm_at "sx")))
local macro_rules | `(tactic| wtm_at "sm") => `(tactic| first
  | with_reducible assumption
  | with_reducible exact Same.refl _
  | with_reducible exact same_new (by assumption)
  | (with_reducible refine Same.trans ?_ (same_new (by assumption)); wtm_at "sm")
  | (with_reducible refine same_mut ?_ (by wtm_at "fr"); wtm_at "sm")
  | (with_reducible refine Same.trans ?_ (by assumption); wtm_at "sm"))
local macro_rules | `(tactic| wtm_at "fr") => `(tactic| first
  | with_reducible assumption
  | with_reducible exact free2 (by assumption) (by wtm_at "sm"))

local macro_rules | `(tactic| wtm_at "u1") => `(tactic| (with_reducible refine use_is_plain ?_; intro H1 s1))
local macro_rules | `(tactic| wtm_at "u1") => `(tactic| (with_reducible refine use_sign_of ?_; intro H1 s1))
local macro_rules | `(tactic| wtm_at "u1") => `(tactic| (with_reducible refine use_reduced (by assumption) ?_; intro H1 p1 s1 n1 h1))
local macro_rules | `(tactic| wtm_at "u1") => `(tactic| (with_reducible refine use_fits (by assumption) ?_; intro H1 s1))
local macro_rules | `(tactic| wtm_at "u1") => `(tactic| (with_reducible refine use_Float (by assumption) (by assumption) ?_; intro H1 r1 t1 p1 s1 n1 f1 v1))
local macro_rules | `(tactic| wtm_at "u1") => `(tactic| (with_reducible refine use_Float_is_finite (by wtm_at "hp") ?_; intro H1 s1))
local macro_rules | `(tactic| wtm_at "u1") => `(tactic| (with_reducible refine use_Float_ratio (by wtm_at "hp") (by assumption) ?_; intro H1 p1 s1 n1 h1))
local macro_rules | `(tactic| wtm_at "u1") => `(tactic| (with_reducible refine use_is_number (by wtm_at "hp") ?_; intro H1 s1))
local macro_rules | `(tactic| wtm_at "u1") => `(tactic| (with_reducible refine use_is_finite_float (by wtm_at "hp") ?_; intro H1 s1))
local macro_rules | `(tactic| wtm_at "u1") => `(tactic| (with_reducible refine use__law_draw (by assumption) (by k_dflt omega) (by k_dflt omega) ?_; intro H1 d1 s1 w1 d0 dm))
theorem g_neT {K : PySem.W.Frag} {H : Hp} {Q : VK} {p q : Addr} {a b : Int} (h1 : SqT K H p [.int a, .int b]) (h2 : SqT K H q [.int a, .int b]) (k : Q (.bl false) H) : rNeD K (.ref p) (.ref q) H Q :=
  g_neD (b := true) (dp_tup h1 (.cons (.int _) (.cons (.int _) .nil))) (dp_tup h2 (.cons (.int _) (.cons (.int _) .nil))) (sh_of (cl_tup (cl_cons cl_int (cl_cons cl_int cl_nil))) (by simp only [PyData.depth, PyData.depthAll]; omega)) (sh_of (cl_tup (cl_cons cl_int (cl_cons cl_int cl_nil))) (by simp only [PyData.depth, PyData.depthAll]; omega)) (SeqAt.eqv_refl _ (cl_tup (cl_cons cl_int (cl_cons cl_int cl_nil)))) k
theorem g_seqO {t u : TS} {D : Ends} {σ : Sg} {H : Hp} (h : ∀ R : Sg → Hp → Prop, R = u D → t { D with nx := R } σ H) : tSeq t u D σ H := h _ rfl
theorem sum_bound {K : PySem.W.Frag} {H : Hp} {ps : List (Addr × Int)} {m : Nat} (hlen : ps.length ≤ 16) (hB : ∀ q, q ∈ ps → q.2.natAbs ≤ 2 ^ m) : (vls ps).sum.natAbs ≤ 2 ^ (m + 4) := by
  have h1 : (vls ps).sum.natAbs ≤ (vls ps).length * 2 ^ m := sum_abs fun v hv => by
    obtain ⟨q0, hq, rfl⟩ := List.mem_map.mp hv
    exact hB q0 hq
  have h2 : (vls ps).length ≤ 16 := by rw [List.length_map]; exact hlen
  have h4 := Nat.mul_le_mul_right (2 ^ m) h2
  have e : (2 : Nat) ^ (m + 4) = 16 * 2 ^ m := by rw [Nat.pow_add, Nat.mul_comm]
  omega
/-- a list with one changed -/
theorem one_changed {K : PySem.W.Frag} {H : Hp} {ps : List (Addr × Int)} {j : Nat} {q0 : Addr × Int} {r : Addr} {u S : Int} (hj : ps[j]? = some q0) (hlen : ps.length ≤ 7) (hF : FL K H ps) (hu : FV K H r u) (hB : ∀ q, q ∈ ps → q.2.natAbs ≤ 2 ^ 1650) (bu : u.natAbs ≤ 2 ^ 1651) (hS : (vls ps).sum = S) :
    ∃ qs : List (Addr × Int), rfs qs = (rfs ps).take j ++ [.ref r] ++ (rfs ps).drop (j + 1) ∧ qs ≠ [] ∧ qs.length ≤ 100 ∧ FL K H qs ∧ (vls qs).sum.natAbs ≤ 2 ^ 2097 ∧ (vls qs).sum = S + (u - q0.2) := by
  have hjl := (List.getElem?_eq_some_iff.mp hj).1
  have hlq : (ps.take j ++ [(r, u)] ++ ps.drop (j + 1)).length ≤ 16 := by
    simp only [List.length_append, List.length_take, List.length_drop, List.length_singleton]
    omega
  have e51 : (2 : Nat) ^ 1650 ≤ 2 ^ 1651 := Nat.pow_le_pow_right (by decide) (by decide)
  refine ⟨ps.take j ++ [(r, u)] ++ ps.drop (j + 1), ?_, by simp, by omega, ?_, ?_, ?_⟩
  · unfold rfs
    rw [List.map_append, List.map_append, List.map_take, List.map_drop]; rfl
  · exact ((FL.snoc (fun q hq => hF q (List.mem_of_mem_take hq)) hu).app fun q hq => hF q (List.mem_of_mem_drop hq))
  · refine Nat.le_trans (sum_bound (K := K) (H := H) (m := 1651) hlq fun q hq => ?_) (Nat.pow_le_pow_right (by decide) (by decide))
    rcases List.mem_append.mp hq with z | z
    · rcases List.mem_append.mp z with z | z
      · exact Nat.le_trans (hB q (List.mem_of_mem_take z)) e51
      · rw [List.mem_singleton.mp z]; exact bu
    · exact Nat.le_trans (hB q (List.mem_of_mem_drop z)) e51
  · have h := sum_set (vs := vls ps) (i := j) (v := q0.2) (by unfold vls; rw [List.getElem?_map, hj]; rfl) u
    rw [hS] at h
    rw [← h]
    unfold vls
    rw [List.map_append, List.map_append, List.map_take, List.map_drop]; rfl
/-! ### the law's own check, in parts -/
def ts_ranks (K : PySem.W.Frag) : TS := (tSeq
                            (tAsg
                              (tCall (sp_exact_sum K) [] E0
                                (tCons
                                  (tOp rCat
                                    (tOp rCat (tSl (rSlL K) (tVar 1) tNoPart (tPart (tVar 9)))
                                      (tLst
                                        (tCons
                                          (tCall (sp_next_down K) [] E0 (tCons (tOp (rIxL K) (tVar 1) (tVar 9)) tNil))
                                          tNil)))
                                    (tSl (rSlL K) (tVar 1)
                                      (tPart (tOp (rI0 fun i j => V.int (i + j)) (tVar 9) (tC (V.int 1)))) tNoPart))
                                  tNil))
                              (gName 10))
                            (tSeq
                              (tAsg
                                (tCall (sp_exact_sum K) [] E0
                                  (tCons
                                    (tOp rCat
                                      (tOp rCat (tSl (rSlL K) (tVar 1) tNoPart (tPart (tVar 9)))
                                        (tLst
                                          (tCons
                                            (tCall (sp_next_up K) [] E0 (tCons (tOp (rIxL K) (tVar 1) (tVar 9)) tNil))
                                            tNil)))
                                      (tSl (rSlL K) (tVar 1)
                                        (tPart (tOp (rI0 fun i j => V.int (i + j)) (tVar 9) (tC (V.int 1)))) tNoPart))
                                    tNil))
                                (gName 11))
                              (tRet
                                (tChain (rI0 fun i j => V.bl (decide (i ≤ j))) (rI0 fun i j => V.bl (decide (i ≤ j)))
                                  (tCall (sp_rank_of K) [] E0 (tCons (tVar 10) tNil))
                                  (tCall (sp_rank_of K) [] E0 (tCons (tVar 2) tNil))
                                  (tCall (sp_rank_of K) [] E0 (tCons (tVar 11) tNil))))))
def ts_times (K : PySem.W.Frag) : TS := (tSeq
                    (tAsg
                      (tOp (rI0 fun i j => V.int (i - j))
                        (tCall sp__law_draw [] E0 (tCons (tVar 0) (tCons (tC (V.int 200)) tNil))) (tC (V.int 100)))
                      (gName 7))
                    (tSeq
                      (tAsg
                        (tCall (sp_exact_sum K) [] E0
                          (tCons
                            (tLc (iList K (tVar 1)) (gName 12) tYes
                              (tCall (sp__law_times K) [] E0 (tCons (tVar 12) (tCons (tVar 7) tNil))) [12])
                            tNil))
                        (gName 8))
                      (tSeq
                        (tIfS
                          (tTest
                            (tOp (rNeD K) (tCall (sp__law_ratio K) [] E0 (tCons (tVar 8) tNil))
                              (tCall (sp__law_ratio K) [] E0
                                (tCons (tCall (sp__law_times K) [] E0 (tCons (tVar 2) (tCons (tVar 7) tNil))) tNil))))
                          (tRet (tC (V.bl false))) tNext)
                        (tSeq
                          (tAsg
                            (tCall sp__law_draw [] E0
                              (tCons (tVar 0) (tCons (tCB (rLenS K) (tCons (tVar 1) tNil)) tNil)))
                            (gName 9))
                          (ts_ranks K)))))
def ts_mid (K : PySem.W.Frag) : TS := (tSeq
            (tAsg
              (tLc (iList K (tVar 1)) (gName 12) tYes
                (tMake (He.ga K (Str.ofString "Float")) (sp_Float___init__ K) [] E0
                  (tCons (tOp (rI0 fun i j => V.int (i - j)) (tC (V.int 0)) (tFld K (tVar 12) (Str.ofString "sign")))
                    (tCons (tFld K (tVar 12) (Str.ofString "top"))
                      (tCons (tFld K (tVar 12) (Str.ofString "power")) tNil))))
                [12])
              (gName 5))
            (tSeq (tAsg (tCall (sp__law_ratio K) [] E0 (tCons (tVar 2) tNil)) (gName 6))
              (tSeq
                (tIfS
                  (tTest
                    (tOp (rNeD K)
                      (tCall (sp__law_ratio K) [] E0 (tCons (tCall (sp_exact_sum K) [] E0 (tCons (tVar 5) tNil)) tNil))
                      (tTup
                        (tCons
                          (tOp (rI0 fun i j => V.int (i - j)) (tC (V.int 0)) (tOp (rIxT K) (tVar 6) (tC (V.int 0))))
                          (tCons (tOp (rIxT K) (tVar 6) (tC (V.int 1))) tNil)))))
                  (tRet (tC (V.bl false))) tNext)
                (tSeq
                  (tIfS
                    (tTest
                      (tOp rNe
                        (tFld K (tCall (sp_exact_sum K) [] E0 (tCons (tOp rCat (tVar 1) (tVar 5)) tNil))
                          (Str.ofString "top"))
                        (tC (V.int 0))))
                    (tRet (tC (V.bl false))) tNext)
                  (ts_times K)))))
section
variable {K : PySem.W.Frag}
theorem ranks_ok {H GJ : Hp} {Q : VK} {a l rt : Addr} {ps : List (Addr × Int)} {S : Int} {o3 o4 o5 o6 o7 o8 : Option V} {dJ : Int} (CFK : CF K) (q : ∀ H', Sa a H H' → Well H' a → Q (.bl true) H') (hB1 : ∀ q, q ∈ ps → q.2.natAbs ≤ 2 ^ 1650) (hlen : ps.length ≤ 7) (hSS : (vls ps).sum = S)
    (wJ : Well GJ a) (hlJ : GJ l = some (.lst (rfs ps))) (hFJ : FL K GJ ps) (fJ : FV K GJ rt (rnd S)) (sHJ : Sa a H GJ) (dJ0 : 0 ≤ dJ) (dJm : dJ < (ps.length : Int)) :
    ts_ranks K { nx := fun _ H' => Q .non H', rt := Q } [some (.ref a), some (.ref l), some (.ref rt), o3, o4, o5, o6, o7, o8, some (.int dJ), none, none, none] GJ := by
  obtain ⟨j, rfl⟩ : ∃ j : Nat, dJ = (j : Int) := ⟨dJ.toNat, by omega⟩
  have hj : j < ps.length := by omega
  obtain ⟨q0, hq0⟩ : ∃ q0, ps[j]? = some q0 := ⟨ps[j], List.getElem?_eq_getElem hj⟩
  have hm0 := List.mem_of_getElem? hq0
  have hr0 : (rfs ps)[j]? = some (.ref q0.1) := by rw [List.getElem?_map, hq0]; rfl
  have v0 := hFJ q0 hm0
  have b0 := hB1 q0 hm0
  obtain ⟨_, _, _, _, z0⟩ := id v0
  have iF := z0.isF
  have eU := urk_rk iF
  have ud : urk (rk q0.2 - 1) ≤ q0.2 := by
    have := urk_mono (show rk q0.2 - 1 ≤ rk q0.2 by omega)
    omega
  have uu : q0.2 ≤ urk (rk q0.2 + 1) := by
    have := urk_mono (show rk q0.2 ≤ rk q0.2 + 1 by omega)
    omega
  have bd := (rk_bound (by decide) b0 (-1) (.inr rfl)).2
  have bu := (rk_bound (by decide) b0 1 (.inl rfl)).2
  have l17 : (2 : Nat) ^ 1650 ≤ 2 ^ 1700 := Nat.pow_le_pow_right (by decide) (by decide)
  unfold ts_ranks
  refine g_seqO fun R hR => ?_
  wtm_at "go"
  rename_i p1 n1
  rw [cut_to]
  refine g_ixL (v := .ref q0.1) (by wtm_at "hp") (atI_nat hr0) ?_
  refine use_next_down ((v0).same (by wtm_at "sm")) (Nat.le_trans b0 l17) fun G2 r2 g2 m2 f2 => ?_
  wtm_at "go"
  rename_i p3 n3 h3
  refine g_cat (xs := (rfs ps).take j) (same_new n3 _ _ (g2 _ _ upd_same)) h3 (Nat.le_trans (show ((rfs ps).take j).length + 1 ≤ 1000 by rw [List.length_take, List.length_map]; omega) (by decide)) fun p4 n4 h4 => ?_
  rw [show (j : Int) + 1 = ((j + 1 : Nat) : Int) by omega]
  refine g_slL (xs := rfs ps) (by wtm_at "hp") fun p5 n5 => ?_
  rw [cut_from]
  refine g_cat (xs := (rfs ps).take j ++ [.ref r2]) (same_new n5 _ _ h4) upd_same (Nat.le_trans (show ((rfs ps).take j ++ [V.ref r2]).length + ((rfs ps).drop (j + 1)).length ≤ 1000 by rw [List.length_append, List.length_take, List.length_drop, List.length_map, List.length_singleton]; omega) (by decide)) fun p6 n6 h6 => ?_
  obtain ⟨qs, eqs, hnq, hlq, hFq, hbq, hsq⟩ := one_changed hq0 hlen (hFJ.same (show Same _ G2 by wtm_at "sm")) f2 hB1 bd hSS
  rw [← eqs] at h6 ⊢
  refine use_exact_sum (ps := qs) (sql_of h6) hnq hlq (hFq.same (by wtm_at "sm")) hbq fun G7 r7 g7 m7 f7 => ?_
  rw [hsq] at f7
  wtm_at "go"
  subst hR
  have s8 : Same GJ G7 := by wtm_at "sm"
  have hl8 := s8 _ _ hlJ
  have hF8 := hFJ.same s8
  have v8 := v0.same s8
  have fJ8 := fJ.same s8
  have w8 := wJ.same s8
  have sH8 : Sa a H G7 := sHJ.trans (Same.sa s8)
  clear s8 f2 hFq h6 eqs g7 m7 n6 n5 h4 n4 h3 n3 g2 m2 n1 fJ v0 hFJ hlJ wJ sHJ
  refine g_seqO fun R hR => ?_
  wtm_at "go"
  rename_i p1 n1
  rw [cut_to]
  refine g_ixL (v := .ref q0.1) (by wtm_at "hp") (atI_nat hr0) ?_
  refine use_next_up ((v8).same (by wtm_at "sm")) (Nat.le_trans b0 l17) fun GA rN gA mA fN => ?_
  wtm_at "go"
  rename_i p3 n3 h3
  refine g_cat (xs := (rfs ps).take j) (same_new n3 _ _ (gA _ _ upd_same)) h3 (Nat.le_trans (show ((rfs ps).take j).length + 1 ≤ 1000 by rw [List.length_take, List.length_map]; omega) (by decide)) fun p4 n4 h4 => ?_
  rw [show (j : Int) + 1 = ((j + 1 : Nat) : Int) by omega]
  refine g_slL (xs := rfs ps) (by wtm_at "hp") fun p5 n5 => ?_
  rw [cut_from]
  refine g_cat (xs := (rfs ps).take j ++ [.ref rN]) (same_new n5 _ _ h4) upd_same (Nat.le_trans (show ((rfs ps).take j ++ [V.ref rN]).length + ((rfs ps).drop (j + 1)).length ≤ 1000 by rw [List.length_append, List.length_take, List.length_drop, List.length_map, List.length_singleton]; omega) (by decide)) fun p6 n6 h6 => ?_
  obtain ⟨qs, eqs, hnq, hlq, hFq, hbq, hsq⟩ := one_changed hq0 hlen (hF8.same (show Same _ GA by wtm_at "sm")) fN hB1 bu hSS
  rw [← eqs] at h6 ⊢
  refine use_exact_sum (ps := qs) (sql_of h6) hnq hlq (hFq.same (by wtm_at "sm")) hbq fun GB rM gB mB fB => ?_
  rw [hsq] at fB
  wtm_at "go"
  have sB : Same G7 GB := by wtm_at "sm"
  have c1 : rk (rnd (S + (urk (rk q0.2 - 1) - q0.2))) ≤ rk (rnd S) := rk_mono (rnd_mono (by omega))
  have c2 : rk (rnd S) ≤ rk (rnd (S + (urk (rk q0.2 + 1) - q0.2))) := rk_mono (rnd_mono (by omega))
  subst hR
  wtm_at "go"
  refine use_rank_of (f7.same sB) fun GC gC => ?_
  wtm_at "go"
  refine use_rank_of (fJ8.same (by wtm_at "sm")) fun GD gD => ?_
  wtm_at "go"
  refine use_rank_of (fB.same (by wtm_at "sm")) fun GE gE => ?_
  wtm_at "go"
  rw [decide_eq_true c2]
  exact q _ (sH8.trans (Same.sa (by wtm_at "sm"))) (w8.same (by wtm_at "sm"))
end
end W85

set_option maxHeartbeats 4000000
set_option exponentiation.threshold 9000
namespace W85
open PySem PySem.Spec PyProof.Rows L2 WK Fm
local macro_rules | `(tactic| wtm_at "hp") => `(tactic| first
  | with_reducible assumption
  | with_reducible exact upd_same
  | with_reducible exact sqt_of upd_same
  | with_reducible exact sql_of upd_same
  | with_reducible exact sqt_s1 (by assumption) (by wtm_at "sm")
  | with_reducible exact sqt_s2 (by assumption) (by wtm_at "sm")
  | with_reducible exact FO.same (by assumption) (by wtm_at "sm")
  | with_reducible exact sqt_all (by assumption)
  | with_reducible exact sql_s1 (by assumption) (by wtm_at "sm")
  | with_reducible exact sql_s2 (by assumption) (by wtm_at "sm")
  | with_reducible exact at_s1 (by assumption) (by wtm_at "sm"))
local macro_rules | `(tactic| wtm_at "sd") => `(tactic| first
  | exact cdw_all (by assumption)
  | exact wide_mul (by assumption) (by assumption) (by decide) (by decide) (Nat.le_of_ble_eq_true rfl)
  | exact Or.inl ⟨by omega, by omega⟩
  | exact Or.inr ⟨by omega, by omega⟩
  | exact ⟨by omega, by decide⟩
  | exact cdw_of (by omega) (by omega)
  | exact cpow_of (by omega) (by omega) (by omega)
  | (dsimp only; omega)
  | (show (0 : Int) < _; omega)
  | (show (0 : Int) ≤ _; omega))
local macro_rules | `(tactic| wtm_at "sx") => `(tactic| simp only [x_seq, x_next, x_brk, x_cont, x_never, x_drop, x_asg, x_name, x_sub, x_ret, x_retN, x_ifS, x_parD, x_par3D, x_c, x_op, x_un, x_test, x_tB, x_yes, x_not, x_and, x_or, x_andV, x_orV, x_notV, x_ifE, x_chain, x_nil, x_cons, x_tupD, x_lstD, x_call, x_callX, x_cb, x_forR1, x_forR2, x_forL, x_forT, x_bits, x_part, x_nopart, x_sl, x_bm0, x_bm, x_lcL, x_lcT, x_lcR1, x_aug, x_ipI, x_ib, x_bi, x_onelB, x_two, x_onel, x_disp, x_pairs0, x_pairsS, x_dget2, x_fld, x_fldT, x_meth0, x_make, x_sfld, x_eqIS, x_neIS,
  x_var0, x_var1, x_var2, x_var3, x_var4, x_var5, x_var6, x_var7, x_var8, x_var9, x_var10, x_var11, x_var12, x_var13, x_var14, x_var15, List.set_cons_zero, x_set1, x_set2, x_set3, x_set4, x_set5, x_set6, x_set7, x_set8, x_set9, x_set10, x_set11, x_set12, x_set13, x_set14, x_set15, x_i0, x_iC, x_uI, x_bl, x_eqI, x_neI, x_eqS, x_neS, x_par, x_par3, x_gnil, x_gcons, x_one, x_rt, x_nx, x_bk, x_ct, cx_K, cx_K1, List.append_nil, List.cons_append, List.nil_append, if_true, if_false, ite_not, decide_true, decide_false, Bool.not_true, Bool.not_false, Bool.false_eq_true, decide_eq_true_eq, Bool.not_eq_true', Bool.not_eq_false', decide_eq_false_iff_not, true_and, and_true, reduceCtorEq, Int.reduceLT, Int.reduceLE, Int.reduceToNat, false_and, exists_false, or_false, false_or, wipe, List.map_cons, List.map_nil])
local macro_rules | `(tactic| wtm_at "g1") => `(tactic| first
  | with_reducible refine g_i0 ?_
  | with_reducible refine g_sign (by assumption) (by wtm_at "hp") ?_
  | with_reducible refine g_top (by assumption) (by wtm_at "hp") ?_
  | with_reducible refine g_power (by assumption) (by wtm_at "hp") ?_
  | with_reducible refine isi_F (by assumption) (by wtm_at "hp") ?_
  | with_reducible refine isi_ll (by wtm_at "hp") ?_
  | with_reducible refine g_inT (bb := false) (by wtm_at "hp") rfl rfl inV_iS ?_
  | with_reducible refine g_notInT (bb := false) (by wtm_at "hp") rfl rfl inV_iS ?_
  | with_reducible refine g_iC (by k_dflt (wtm_at "sd")) ?_
  | with_reducible refine g_ixT (by wtm_at "hp") rfl ?_
  | with_reducible refine g_pY (by k_dflt (wtm_at "cd")) ?_
  | with_reducible refine g_pX (by k_dflt (wtm_at "cd")) ?_
  | with_reducible refine g_size (by k_dflt exact (Nat.le_of_ble_eq_true rfl)) ?_
  | with_reducible refine isi_ii ?_
  | with_reducible refine isi_ib ?_
  | with_reducible refine isi_ss ?_
  | with_reducible refine isi_tt (by wtm_at "hp") ?_
  | with_reducible refine isi_bb ?_
  | with_reducible refine isi_is ?_
  | with_reducible refine g_inT (bb := true) (by wtm_at "hp") rfl rfl (by decide +kernel) ?_
  | with_reducible refine g_inT (bb := false) (by wtm_at "hp") rfl rfl (by decide +kernel) ?_
  | with_reducible refine g_notInT (bb := true) (by wtm_at "hp") rfl rfl (by decide +kernel) ?_
  | with_reducible refine g_notInT (bb := false) (by wtm_at "hp") rfl rfl (by decide +kernel) ?_
  | with_reducible refine g_ixL (by wtm_at "hp") rfl ?_
  | with_reducible refine g_tup (by wtm_at "hp") rfl ?_
  | with_reducible refine g_bl ?_
  | with_reducible refine g_eqI ?_
  | with_reducible refine g_neI ?_
  | with_reducible refine g_lenT (by wtm_at "hp") ?_
  | with_reducible refine g_lenL (by wtm_at "hp") ?_
  | with_reducible refine g_tl4 (by wtm_at "hp") ?_
  | with_reducible refine g_tl3 (by wtm_at "hp") ?_
  | with_reducible refine g_slL (by wtm_at "hp") ?_
  | with_reducible refine g_listL (by wtm_at "hp") ?_
  | with_reducible refine g_setL (by wtm_at "hp") rfl ?_
  | (with_reducible refine g_newT ?_; intro p np hp)
  | (with_reducible refine g_newL ?_; intro p np hp)
  | (with_reducible refine g_all ?_; intro p np)
  | with_reducible refine ⟨by k_dflt (wtm_at "sd"), ?_⟩
  | wtm_at "u1")
local macro_rules | `(tactic| wtm_at "cd") => `(tactic| first | omega | decide +kernel)
local macro_rules | `(tactic| wtm_at "go") => `(tactic| ((try wtm_at "sx"); repeat (wtm_at "g1"; try wtm_at "sx")))
local macro_rules | `(tactic| wtm_at "sm") => `(tactic| first
  | with_reducible assumption
  | with_reducible exact Same.refl _
  | with_reducible exact same_new (by assumption)
  | (with_reducible refine Same.trans ?_ (same_new (by assumption)); wtm_at "sm")
  | (with_reducible refine same_mut ?_ (by wtm_at "fr"); wtm_at "sm")
  | (with_reducible refine Same.trans ?_ (by assumption); wtm_at "sm"))
local macro_rules | `(tactic| wtm_at "fr") => `(tactic| first
  | with_reducible assumption
  | with_reducible exact free2 (by assumption) (by wtm_at "sm"))

local macro_rules | `(tactic| wtm_at "u1") => `(tactic| (with_reducible refine use_is_plain ?_; intro H1 s1))
local macro_rules | `(tactic| wtm_at "u1") => `(tactic| (with_reducible refine use_sign_of ?_; intro H1 s1))
local macro_rules | `(tactic| wtm_at "u1") => `(tactic| (with_reducible refine use_reduced (by assumption) ?_; intro H1 p1 s1 n1 h1))
local macro_rules | `(tactic| wtm_at "u1") => `(tactic| (with_reducible refine use_fits (by assumption) ?_; intro H1 s1))
local macro_rules | `(tactic| wtm_at "u1") => `(tactic| (with_reducible refine use_Float (by assumption) (by assumption) ?_; intro H1 r1 t1 p1 s1 n1 f1 v1))
local macro_rules | `(tactic| wtm_at "u1") => `(tactic| (with_reducible refine use_Float_is_finite (by wtm_at "hp") ?_; intro H1 s1))
local macro_rules | `(tactic| wtm_at "u1") => `(tactic| (with_reducible refine use_Float_ratio (by wtm_at "hp") (by assumption) ?_; intro H1 p1 s1 n1 h1))
local macro_rules | `(tactic| wtm_at "u1") => `(tactic| (with_reducible refine use_is_number (by wtm_at "hp") ?_; intro H1 s1))
local macro_rules | `(tactic| wtm_at "u1") => `(tactic| (with_reducible refine use_is_finite_float (by wtm_at "hp") ?_; intro H1 s1))
local macro_rules | `(tactic| wtm_at "u1") => `(tactic| (with_reducible refine use__law_draw (by assumption) (by k_dflt omega) (by k_dflt omega) ?_; intro H1 d1 s1 w1 d0 dm))
section
variable {P : Program} {w : World} {K : PySem.W.Frag} {mg : Str → Option Value} {base : Heap}
theorem times_ok {H GB : Hp} {Q : VK} {a l rt : Addr} {ps : List (Addr × Int)} {S : Int} {o3 o4 o5 o6 : Option V} (T : Tx K mg) (q : ∀ H', Sa a H H' → Well H' a → Q (.bl true) H') (hB : ∀ q, q ∈ ps → q.2.natAbs ≤ 2 ^ 1650 ∧ (2 : Int) ^ 574 ∣ q.2) (hn : ps ≠ []) (hlen : ps.length ≤ 7) (hSS : (vls ps).sum = S) (hS : S.natAbs ≤ 2 ^ (1650 + 4))
    (wB : Well GB a) (hlB : GB l = some (.lst (rfs ps))) (hFB : FL K GB ps) (fBt : FV K GB rt (rnd S)) (sHB : Sa a H GB) :
    ts_times K { nx := fun _ H' => Q .non H', rt := Q } [some (.ref a), some (.ref l), some (.ref rt), o3, o4, o5, o6, none, none, none, none, none, none] GB := by
  have CFK := T.cf_Float
  have hB1 : ∀ q, q ∈ ps → q.2.natAbs ≤ 2 ^ 1650 := fun q hq => (hB q hq).1
  have hn7 : ps.length < 16777216 := by omega
  unfold ts_times
  refine g_seqO fun R hR => ?_
  wtm_at "go"
  rename_i GC dC sC wC dC0 dCm
  have hlC := sC _ _ hlB (rfs_ne hlB wB)
  have hFC := FL_sa hFB wB sC
  have fC := FV_sa fBt wB sC
  have sHC : Sa a H GC := sHB.trans sC
  clear hlB hFB fBt sHB wB sC
  have dS : (2 : Int) ^ 574 ∣ S := by
    rw [← hSS]
    refine dvd_sum fun v hv => ?_
    obtain ⟨q0, hq0, rfl⟩ := List.mem_map.mp hv
    exact (hB q0 hq0).2
  have l18 : (2 : Nat) ^ 1650 ≤ 2 ^ 1800 := Nat.pow_le_pow_right (by decide) (by decide)
  subst hR
  refine g_seqO fun R hR => ?_
  wtm_at "go"
  refine lcL_flts (tms (dC - 100)) ps (sql_of hlC) hn7 (fun q0 G5 N hq0 g5 hN => ?_) (fun DD GD qsD gD mD eD vD FD => ?_)
  · obtain ⟨b1, b2⟩ := hB q0 hq0
    wtm_at "go"
    exact use__law_times ((hFC q0 hq0).same g5) b2 (Nat.le_trans b1 l18) (by omega) (by omega) fun G6 r6 g6 m6 f6 => hN _ _ g6 f6
  have hlD : qsD.length = ps.length := by
    have := congrArg List.length vD
    simpa using this
  have hnD : qsD ≠ [] := by
    intro e
    rw [e] at hlD
    exact hn (List.length_eq_zero_iff.mp hlD.symm)
  have hSD : (vls qsD).sum = tms (dC - 100) S := by
    show (qsD.map _).sum = _
    rw [vD, tms_sum (fun v hv => by obtain ⟨q0, hq0, rfl⟩ := List.mem_map.mp hv; exact (hB q0 hq0).2) (by omega)]
    exact congrArg _ hSS
  have bD : (tms (dC - 100) S).natAbs ≤ 2 ^ 2097 := Nat.le_trans (tms_abs hS (by omega) (by omega)) (Nat.pow_le_pow_right (by decide) (by decide))
  refine use_exact_sum (ps := qsD) (sql_of eD) hnD (by omega) FD (by rw [hSD]; exact bD) fun GE rE gE mE fE => ?_
  rw [hSD, tms_rnd dS (by omega)] at fE
  wtm_at "go"
  subst hR
  refine g_seqO fun R hR => ?_
  wtm_at "go"
  refine use__law_ratio fE fun aE bE LE _ _ GF pF gF mF eF => ?_
  wtm_at "go"
  refine use__law_times (fC.same (by wtm_at "sm")) (rnd_dvd dS) (Nat.le_trans (rnd_le hS) (Nat.pow_le_pow_right (by decide) (by decide))) (by omega) (by omega) fun GG rG gG mG fG2 => ?_
  refine use__law_ratio fG2 fun aG bG LG _ _ GI pI gI mI eI => ?_
  obtain ⟨rfl, rfl⟩ := LE.uniq LG
  refine g_neT (by wtm_at "hp") (by wtm_at "hp") ?_
  wtm_at "go"
  have sI : Same GC GI := by wtm_at "sm"
  have wI := wC.same sI
  have hlI := sI _ _ hlC
  have hFI := hFC.same sI
  have fI := fC.same sI
  have sHI : Sa a H GI := sHC.trans (Same.sa sI)
  have l0 : 0 < ps.length := Nat.pos_of_ne_zero fun e => hn (List.length_eq_zero_iff.mp e)
  clear sI eI gI mI gG mG fG2 eF gF mF gE mE fE eD FD gD mD hlC hFC fC sHC wC
  subst hR
  refine g_seqO fun R hR => ?_
  wtm_at "go"
  rw [List.length_map]
  refine use__law_draw wI (by omega) (by omega) fun GJ dJ sJ wJ dJ0 dJm => ?_
  have hlJ := sJ _ _ hlI (rfs_ne hlI wI)
  have hFJ := FL_sa hFI wI sJ
  have fJ := FV_sa fI wI sJ
  have sHJ : Sa a H GJ := sHI.trans sJ
  clear sHI fI hFI hlI wI sJ
  subst hR
  exact ranks_ok CFK q hB1 hlen hSS wJ hlJ hFJ fJ sHJ dJ0 dJm
end
end W85

set_option maxHeartbeats 4000000
set_option exponentiation.threshold 9000
namespace W85
open PySem PySem.Spec PyProof.Rows L2 WK Fm
local macro_rules | `(tactic| wtm_at "hp") => `(tactic| first
  | with_reducible assumption
  | with_reducible exact upd_same
  | with_reducible exact sqt_of upd_same
  | with_reducible exact sql_of upd_same
  | with_reducible exact sqt_s1 (by assumption) (by wtm_at "sm")
  | with_reducible exact sqt_s2 (by assumption) (by wtm_at "sm")
  | with_reducible exact FO.same (by assumption) (by wtm_at "sm")
  | with_reducible exact sqt_all (by assumption)
  | with_reducible exact sql_s1 (by assumption) (by wtm_at "sm")
  | with_reducible exact sql_s2 (by assumption) (by wtm_at "sm")
  | with_reducible exact at_s1 (by assumption) (by wtm_at "sm"))
local macro_rules | `(tactic| wtm_at "sd") => `(tactic| first
  | exact cdw_all (by assumption)
  | exact wide_mul (by assumption) (by assumption) (by decide) (by decide) (Nat.le_of_ble_eq_true rfl)
  | exact Or.inl ⟨by omega, by omega⟩
  | exact Or.inr ⟨by omega, by omega⟩
  | exact ⟨by omega, by decide⟩
  | exact cdw_of (by omega) (by omega)
  | exact cpow_of (by omega) (by omega) (by omega)
  | (dsimp only; omega)
  | (show (0 : Int) < _; omega)
  | (show (0 : Int) ≤ _; omega))
local macro_rules | `(tactic| wtm_at "sx") => `(tactic| simp only [x_seq, x_next, x_brk, x_cont, x_never, x_drop, x_asg, x_name, x_sub, x_ret, x_retN, x_ifS, x_parD, x_par3D, x_c, x_op, x_un, x_test, x_tB, x_yes, x_not, x_and, x_or, x_andV, x_orV, x_notV, x_ifE, x_chain, x_nil, x_cons, x_tupD, x_lstD, x_call, x_callX, x_cb, x_forR1, x_forR2, x_forL, x_forT, x_bits, x_part, x_nopart, x_sl, x_bm0, x_bm, x_lcL, x_lcT, x_lcR1, x_aug, x_ipI, x_ib, x_bi, x_onelB, x_two, x_onel, x_disp, x_pairs0, x_pairsS, x_dget2, x_fld, x_fldT, x_meth0, x_make, x_sfld, x_eqIS, x_neIS,
  x_var0, x_var1, x_var2, x_var3, x_var4, x_var5, x_var6, x_var7, x_var8, x_var9, x_var10, x_var11, x_var12, x_var13, x_var14, x_var15, List.set_cons_zero, x_set1, x_set2, x_set3, x_set4, x_set5, x_set6, x_set7, x_set8, x_set9, x_set10, x_set11, x_set12, x_set13, x_set14, x_set15, x_i0, x_iC, x_uI, x_bl, x_eqI, x_neI, x_eqS, x_neS, x_par, x_par3, x_gnil, x_gcons, x_one, x_rt, x_nx, x_bk, x_ct, cx_K, cx_K1, List.append_nil, List.cons_append, List.nil_append, if_true, if_false, ite_not, decide_true, decide_false, Bool.not_true, Bool.not_false, Bool.false_eq_true, decide_eq_true_eq, Bool.not_eq_true', Bool.not_eq_false', decide_eq_false_iff_not, true_and, and_true, reduceCtorEq, Int.reduceLT, Int.reduceLE, Int.reduceToNat, false_and, exists_false, or_false, false_or, wipe, List.map_cons, List.map_nil])
local macro_rules | `(tactic| wtm_at "g1") => `(tactic| first
  | with_reducible refine g_i0 ?_
  | with_reducible refine g_sign (by assumption) (by wtm_at "hp") ?_
  | with_reducible refine g_top (by assumption) (by wtm_at "hp") ?_
  | with_reducible refine g_power (by assumption) (by wtm_at "hp") ?_
  | with_reducible refine isi_F (by assumption) (by wtm_at "hp") ?_
  | with_reducible refine isi_ll (by wtm_at "hp") ?_
  | with_reducible refine g_inT (bb := false) (by wtm_at "hp") rfl rfl inV_iS ?_
  | with_reducible refine g_notInT (bb := false) (by wtm_at "hp") rfl rfl inV_iS ?_
  | with_reducible refine g_iC (by k_dflt (wtm_at "sd")) ?_
  | with_reducible refine g_ixT (by wtm_at "hp") rfl ?_
  | with_reducible refine g_pY (by k_dflt (wtm_at "cd")) ?_
  | with_reducible refine g_pX (by k_dflt (wtm_at "cd")) ?_
  | with_reducible refine g_size (by k_dflt exact (Nat.le_of_ble_eq_true rfl)) ?_
  | with_reducible refine isi_ii ?_
  | with_reducible refine isi_ib ?_
  | with_reducible refine isi_ss ?_
  | with_reducible refine isi_tt (by wtm_at "hp") ?_
  | with_reducible refine isi_bb ?_
  | with_reducible refine isi_is ?_
  | with_reducible refine g_inT (bb := true) (by wtm_at "hp") rfl rfl (by decide +kernel) ?_
  | with_reducible refine g_inT (bb := false) (by wtm_at "hp") rfl rfl (by decide +kernel) ?_
  | with_reducible refine g_notInT (bb := true) (by wtm_at "hp") rfl rfl (by decide +kernel) ?_
  | with_reducible refine g_notInT (bb := false) (by wtm_at "hp") rfl rfl (by decide +kernel) ?_
  | with_reducible refine g_ixL (by wtm_at "hp") rfl ?_
  | with_reducible refine g_tup (by wtm_at "hp") rfl ?_
  | with_reducible refine g_bl ?_
  | with_reducible refine g_eqI ?_
  | with_reducible refine g_neI ?_
  | with_reducible refine g_lenT (by wtm_at "hp") ?_
  | with_reducible refine g_lenL (by wtm_at "hp") ?_
  | with_reducible refine g_tl4 (by wtm_at "hp") ?_
  | with_reducible refine g_tl3 (by wtm_at "hp") ?_
  | with_reducible refine g_slL (by wtm_at "hp") ?_
  | with_reducible refine g_listL (by wtm_at "hp") ?_
  | with_reducible refine g_setL (by wtm_at "hp") rfl ?_
  | (with_reducible refine g_newT ?_; intro p np hp)
  | (with_reducible refine g_newL ?_; intro p np hp)
  | (with_reducible refine g_all ?_; intro p np)
  | with_reducible refine ⟨by k_dflt (wtm_at "sd"), ?_⟩
  | wtm_at "u1")
local macro_rules | `(tactic| wtm_at "cd") => `(tactic| first | omega | decide +kernel)
local macro_rules | `(tactic| wtm_at "go") => `(tactic| ((try wtm_at "sx"); repeat (wtm_at "g1"; try wtm_at "sx")))
local macro_rules | `(tactic| wtm_at "sm") => `(tactic| first
  | with_reducible assumption
  | with_reducible exact Same.refl _
  | with_reducible exact same_new (by assumption)
  | (with_reducible refine Same.trans ?_ (same_new (by assumption)); wtm_at "sm")
  | (with_reducible refine same_mut ?_ (by wtm_at "fr"); wtm_at "sm")
  | (with_reducible refine Same.trans ?_ (by assumption); wtm_at "sm"))
local macro_rules | `(tactic| wtm_at "fr") => `(tactic| first
  | with_reducible assumption
  | with_reducible exact free2 (by assumption) (by wtm_at "sm"))

local macro_rules | `(tactic| wtm_at "u1") => `(tactic| (with_reducible refine use_is_plain ?_; intro H1 s1))
local macro_rules | `(tactic| wtm_at "u1") => `(tactic| (with_reducible refine use_sign_of ?_; intro H1 s1))
local macro_rules | `(tactic| wtm_at "u1") => `(tactic| (with_reducible refine use_reduced (by assumption) ?_; intro H1 p1 s1 n1 h1))
local macro_rules | `(tactic| wtm_at "u1") => `(tactic| (with_reducible refine use_fits (by assumption) ?_; intro H1 s1))
local macro_rules | `(tactic| wtm_at "u1") => `(tactic| (with_reducible refine use_Float (by assumption) (by assumption) ?_; intro H1 r1 t1 p1 s1 n1 f1 v1))
local macro_rules | `(tactic| wtm_at "u1") => `(tactic| (with_reducible refine use_Float_is_finite (by wtm_at "hp") ?_; intro H1 s1))
local macro_rules | `(tactic| wtm_at "u1") => `(tactic| (with_reducible refine use_Float_ratio (by wtm_at "hp") (by assumption) ?_; intro H1 p1 s1 n1 h1))
local macro_rules | `(tactic| wtm_at "u1") => `(tactic| (with_reducible refine use_is_number (by wtm_at "hp") ?_; intro H1 s1))
local macro_rules | `(tactic| wtm_at "u1") => `(tactic| (with_reducible refine use_is_finite_float (by wtm_at "hp") ?_; intro H1 s1))
local macro_rules | `(tactic| wtm_at "u1") => `(tactic| (with_reducible refine use__law_draw (by assumption) (by k_dflt omega) (by k_dflt omega) ?_; intro H1 d1 s1 w1 d0 dm))
section
variable {P : Program} {w : World} {K : PySem.W.Frag} {mg : Str → Option Value} {base : Heap}
theorem mid_ok {H G' : Hp} {Q : VK} {a l rt : Addr} {ps : List (Addr × Int)} {S : Int} {o3 o4 : Option V} (T : Tx K mg) (q : ∀ H', Sa a H H' → Well H' a → Q (.bl true) H') (hB : ∀ q, q ∈ ps → q.2.natAbs ≤ 2 ^ 1650 ∧ (2 : Int) ^ 574 ∣ q.2) (hn : ps ≠ []) (hlen : ps.length ≤ 7) (hSS : (vls ps).sum = S) (hS : S.natAbs ≤ 2 ^ (1650 + 4))
    (hw : Well H a) (hl : H l = some (.lst (rfs ps))) (hF : FL K H ps) (fG' : FV K G' rt (rnd S)) (sG' : Same H G') :
    ts_mid K { nx := fun _ H' => Q .non H', rt := Q } [some (.ref a), some (.ref l), some (.ref rt), o3, o4, none, none, none, none, none, none, none, none] G' := by
  have CFK := T.cf_Float
  have hn7 : ps.length < 16777216 := by omega
  have l97 : (2 : Nat) ^ (1650 + 4) ≤ 2 ^ 2097 := Nat.pow_le_pow_right (by decide) (by decide)
  unfold ts_mid
  refine g_seqO fun R hR => ?_
  wtm_at "go"
  refine lcL_flts (fun v => -v) ps (by wtm_at "hp") hn7 (fun q0 G5 N hq0 g5 hN => ?_) (fun D5 G5 qs5 g5 m5 e5 v5 F5 => ?_)
  · obtain ⟨s0, t, p, f, z⟩ := (hF q0 hq0).same (sG'.trans g5)
    obtain ⟨w0, hn0, ev, hs, ea, hdv⟩ := V3.unsign z
    have hs' : Sgn (0 - s0) := by rcases hs with rfl | rfl; exact .inr rfl; exact .inl rfl
    have hfit := NF_fit hn0
    wtm_at "go"
    rename_i G6 r6 t6 p6 g6 m6 f6 z6
    have e4 : (0 - s0) * w0 = -q0.2 := by rw [ev, Int.zero_sub, Int.neg_mul]
    rw [e4] at z6
    exact hN _ _ (by wtm_at "sm") ⟨_, _, _, f6, z6⟩
  wtm_at "go"
  have hl5 : qs5.length = ps.length := by
    have := congrArg List.length v5
    simpa using this
  have hn5 : qs5 ≠ [] := by
    intro e
    rw [e] at hl5
    exact hn (List.length_eq_zero_iff.mp hl5.symm)
  have hS5 : (vls qs5).sum = -S := by
    show (qs5.map _).sum = _
    rw [v5, sum_map_neg]
    exact congrArg _ hSS
  have fG5 : FV K G5 rt (rnd S) := fG'.same g5
  have sG5 : Same H G5 := sG'.trans g5
  subst hR
  refine g_seqO fun R hR => ?_
  wtm_at "go"
  refine use__law_ratio fG5 fun aR bR LR lR1 lR2 G6 p6 g6 m6 e6 => ?_
  wtm_at "go"
  subst hR
  refine g_seqO fun R hR => ?_
  wtm_at "go"
  refine use_exact_sum (ps := qs5) (by wtm_at "hp") hn5 (by omega) (F5.same (by wtm_at "sm")) (by rw [hS5, Int.natAbs_neg]; omega) fun G7 r7 g7 m7 f7 => ?_
  rw [hS5, rnd_neg] at f7
  refine use__law_ratio f7 fun a8 b8 L8 _ _ G8 p8 g8 m8 e8 => ?_
  obtain ⟨ea8, eb8⟩ := L8.uniq LR.neg
  wtm_at "go"
  rename_i p9 n9 h9
  rw [ea8, eb8] at e8
  refine g_neT (by wtm_at "hp") (by wtm_at "hp") ?_
  wtm_at "go"
  generalize hG9 : upd G8 p9 (.tup [.int (0 - aR), .int bR]) = G9 at *
  have s9 : Same G5 G9 := by rw [← hG9]; wtm_at "sm"
  have s9H : Same H G9 := sG5.trans s9
  have e59 := s9 _ _ e5
  clear hG9 h9 n9 e8 m8 g8 g7 m7 f7
  subst hR
  refine g_seqO fun R hR => ?_
  wtm_at "go"
  refine g_cat (s9H _ _ hl) e59 (by rw [List.length_map, List.length_map]; exact Nat.le_trans (show ps.length + qs5.length ≤ 1000 by omega) (by decide)) fun pA nA hA => ?_
  have eA : rfs ps ++ rfs qs5 = rfs (ps ++ qs5) := by
    unfold rfs
    rw [List.map_append]
  rw [eA] at hA ⊢
  have hSA : (vls (ps ++ qs5)).sum = 0 := by
    unfold vls at hSS hS5 ⊢
    rw [List.map_append, List.sum_append]
    omega
  refine use_exact_sum (ps := ps ++ qs5) (sql_of hA) (by simp [hn]) (by rw [List.length_append]; omega) (((hF.same s9H).app (F5.same s9)).same (same_new nA)) (by rw [hSA]; exact Nat.zero_le _) fun GB rB gB mB fB => ?_
  rw [hSA, rnd_zero] at fB
  obtain ⟨sB, tB, pB, fB, zB⟩ := fB
  have hB0 := zB.zero.mpr rfl
  subst hB0
  wtm_at "go"
  have sB' : Same G5 GB := by wtm_at "sm"
  have sBH : Same H GB := sG5.trans sB'
  subst hR
  exact times_ok T q hB hn hlen hSS hS (hw.same sBH) (sBH _ _ hl) (hF.same sBH) (fG5.same sB') (Same.sa sBH)
end
end W85

set_option maxHeartbeats 4000000
set_option exponentiation.threshold 9000
namespace W85
open PySem PySem.Spec PyProof.Rows L2 WK Fm
local macro_rules | `(tactic| wtm_at "hp") => `(tactic| first
  | with_reducible assumption
  | with_reducible exact upd_same
  | with_reducible exact sqt_of upd_same
  | with_reducible exact sql_of upd_same
  | with_reducible exact sqt_s1 (by assumption) (by wtm_at "sm")
  | with_reducible exact sqt_s2 (by assumption) (by wtm_at "sm")
  | with_reducible exact FO.same (by assumption) (by wtm_at "sm")
  | with_reducible exact sqt_all (by assumption)
  | with_reducible exact sql_s1 (by assumption) (by wtm_at "sm")
  | with_reducible exact sql_s2 (by assumption) (by wtm_at "sm")
  | with_reducible exact at_s1 (by assumption) (by wtm_at "sm"))
local macro_rules | `(tactic| wtm_at "sd") => `(tactic| first
  | exact cdw_all (by assumption)
  | exact wide_mul (by assumption) (by assumption) (by decide) (by decide) (Nat.le_of_ble_eq_true rfl)
  | exact Or.inl ⟨by omega, by omega⟩
  | exact Or.inr ⟨by omega, by omega⟩
  | exact ⟨by omega, by decide⟩
  | exact cdw_of (by omega) (by omega)
  | exact cpow_of (by omega) (by omega) (by omega)
  | (dsimp only; omega)
  | (show (0 : Int) < _; omega)
  | (show (0 : Int) ≤ _; omega))
local macro_rules | `(tactic| wtm_at "sx") => `(tactic| simp only [x_seq, x_next, x_brk, x_cont, x_never, x_drop, x_asg, x_name, x_sub, x_ret, x_retN, x_ifS, x_parD, x_par3D, x_c, x_op, x_un, x_test, x_tB, x_yes, x_not, x_and, x_or, x_andV, x_orV, x_notV, x_ifE, x_chain, x_nil, x_cons, x_tupD, x_lstD, x_call, x_callX, x_cb, x_forR1, x_forR2, x_forL, x_forT, x_bits, x_part, x_nopart, x_sl, x_bm0, x_bm, x_lcL, x_lcT, x_lcR1, x_aug, x_ipI, x_ib, x_bi, x_onelB, x_two, x_onel, x_disp, x_pairs0, x_pairsS, x_dget2, x_fld, x_fldT, x_meth0, x_make, x_sfld, x_eqIS, x_neIS,
  x_var0, x_var1, x_var2, x_var3, x_var4, x_var5, x_var6, x_var7, x_var8, x_var9, x_var10, x_var11, x_var12, x_var13, x_var14, x_var15, List.set_cons_zero, x_set1, x_set2, x_set3, x_set4, x_set5, x_set6, x_set7, x_set8, x_set9, x_set10, x_set11, x_set12, x_set13, x_set14, x_set15, x_i0, x_iC, x_uI, x_bl, x_eqI, x_neI, x_eqS, x_neS, x_par, x_par3, x_gnil, x_gcons, x_one, x_rt, x_nx, x_bk, x_ct, cx_K, cx_K1, List.append_nil, List.cons_append, List.nil_append, if_true, if_false, ite_not, decide_true, decide_false, Bool.not_true, Bool.not_false, Bool.false_eq_true, decide_eq_true_eq, Bool.not_eq_true', Bool.not_eq_false', decide_eq_false_iff_not, true_and, and_true, reduceCtorEq, Int.reduceLT, Int.reduceLE, Int.reduceToNat, false_and, exists_false, or_false, false_or, wipe, List.map_cons, List.map_nil])
local macro_rules | `(tactic| wtm_at "g1") => `(tactic| first
  | with_reducible refine g_i0 ?_
  | with_reducible refine g_sign (by assumption) (by wtm_at "hp") ?_
  | with_reducible refine g_top (by assumption) (by wtm_at "hp") ?_
  | with_reducible refine g_power (by assumption) (by wtm_at "hp") ?_
  | with_reducible refine isi_F (by assumption) (by wtm_at "hp") ?_
  | with_reducible refine isi_ll (by wtm_at "hp") ?_
  | with_reducible refine g_inT (bb := false) (by wtm_at "hp") rfl rfl inV_iS ?_
  | with_reducible refine g_notInT (bb := false) (by wtm_at "hp") rfl rfl inV_iS ?_
  | with_reducible refine g_iC (by k_dflt (wtm_at "sd")) ?_
  | with_reducible refine g_ixT (by wtm_at "hp") rfl ?_
  | with_reducible refine g_pY (by k_dflt (wtm_at "cd")) ?_
  | with_reducible refine g_pX (by k_dflt (wtm_at "cd")) ?_
  | with_reducible refine g_size (by k_dflt exact (Nat.le_of_ble_eq_true rfl)) ?_
  | with_reducible refine isi_ii ?_
  | with_reducible refine isi_ib ?_
  | with_reducible refine isi_ss ?_
  | with_reducible refine isi_tt (by wtm_at "hp") ?_
  | with_reducible refine isi_bb ?_
  | with_reducible refine isi_is ?_
  | with_reducible refine g_inT (bb := true) (by wtm_at "hp") rfl rfl (by decide +kernel) ?_
  | with_reducible refine g_inT (bb := false) (by wtm_at "hp") rfl rfl (by decide +kernel) ?_
  | with_reducible refine g_notInT (bb := true) (by wtm_at "hp") rfl rfl (by decide +kernel) ?_
  | with_reducible refine g_notInT (bb := false) (by wtm_at "hp") rfl rfl (by decide +kernel) ?_
  | with_reducible refine g_ixL (by wtm_at "hp") rfl ?_
  | with_reducible refine g_tup (by wtm_at "hp") rfl ?_
  | with_reducible refine g_bl ?_
  | with_reducible refine g_eqI ?_
  | with_reducible refine g_neI ?_
  | with_reducible refine g_lenT (by wtm_at "hp") ?_
  | with_reducible refine g_lenL (by wtm_at "hp") ?_
  | with_reducible refine g_tl4 (by wtm_at "hp") ?_
  | with_reducible refine g_tl3 (by wtm_at "hp") ?_
  | with_reducible refine g_slL (by wtm_at "hp") ?_
  | with_reducible refine g_listL (by wtm_at "hp") ?_
  | with_reducible refine g_setL (by wtm_at "hp") rfl ?_
  | (with_reducible refine g_newT ?_; intro p np hp)
  | (with_reducible refine g_newL ?_; intro p np hp)
  | (with_reducible refine g_all ?_; intro p np)
  | with_reducible refine ⟨by k_dflt (wtm_at "sd"), ?_⟩
  | wtm_at "u1")
local macro_rules | `(tactic| wtm_at "cd") => `(tactic| first | omega | decide +kernel)
local macro_rules | `(tactic| wtm_at "go") => `(tactic| ((try wtm_at "sx"); repeat (wtm_at "g1"; try wtm_at "sx")))
local macro_rules | `(tactic| wtm_at "sm") => `(tactic| first
  | with_reducible assumption
  | with_reducible exact Same.refl _
  | with_reducible exact same_new (by assumption)
  | (with_reducible refine Same.trans ?_ (same_new (by assumption)); wtm_at "sm")
  | (with_reducible refine same_mut ?_ (by wtm_at "fr"); wtm_at "sm")
  | (with_reducible refine Same.trans ?_ (by assumption); wtm_at "sm"))
local macro_rules | `(tactic| wtm_at "fr") => `(tactic| first
  | with_reducible assumption
  | with_reducible exact free2 (by assumption) (by wtm_at "sm"))

local macro_rules | `(tactic| wtm_at "u1") => `(tactic| (with_reducible refine use_is_plain ?_; intro H1 s1))
local macro_rules | `(tactic| wtm_at "u1") => `(tactic| (with_reducible refine use_sign_of ?_; intro H1 s1))
local macro_rules | `(tactic| wtm_at "u1") => `(tactic| (with_reducible refine use_reduced (by assumption) ?_; intro H1 p1 s1 n1 h1))
local macro_rules | `(tactic| wtm_at "u1") => `(tactic| (with_reducible refine use_fits (by assumption) ?_; intro H1 s1))
local macro_rules | `(tactic| wtm_at "u1") => `(tactic| (with_reducible refine use_Float (by assumption) (by assumption) ?_; intro H1 r1 t1 p1 s1 n1 f1 v1))
local macro_rules | `(tactic| wtm_at "u1") => `(tactic| (with_reducible refine use_Float_is_finite (by wtm_at "hp") ?_; intro H1 s1))
local macro_rules | `(tactic| wtm_at "u1") => `(tactic| (with_reducible refine use_Float_ratio (by wtm_at "hp") (by assumption) ?_; intro H1 p1 s1 n1 h1))
local macro_rules | `(tactic| wtm_at "u1") => `(tactic| (with_reducible refine use_is_number (by wtm_at "hp") ?_; intro H1 s1))
local macro_rules | `(tactic| wtm_at "u1") => `(tactic| (with_reducible refine use_is_finite_float (by wtm_at "hp") ?_; intro H1 s1))
local macro_rules | `(tactic| wtm_at "u1") => `(tactic| (with_reducible refine use__law_draw (by assumption) (by k_dflt omega) (by k_dflt omega) ?_; intro H1 d1 s1 w1 d0 dm))
section
variable {P : Program} {w : World} {K : PySem.W.Frag} {mg : Str → Option Value} {base : Heap}
def sp__law_is_right (K : PySem.W.Frag) : Sp := fun vs H Q _ => ∃ (a l : Addr) (ps : List (Addr × Int)), vs = [.ref a, .ref l] ∧ Well H a ∧ H l = some (.lst (rfs ps)) ∧ ps ≠ [] ∧ ps.length ≤ 7 ∧ FL K H ps ∧ (∀ q, q ∈ ps → q.2.natAbs ≤ 2 ^ 1650 ∧ (2 : Int) ^ 574 ∣ q.2) ∧ ∀ H', Sa a H H' → Well H' a → Q (.bl true) H'
theorem kn__law_is_right (T : Tx K mg) : Kn P w K mg base 10 "_law_is_right" ["well", "numbers"] (sp__law_is_right K) := by
  obtain ⟨fd, F⟩ := T.d__law_is_right
  refine kn_mk F T.g__law_is_right sc__law_is_right (fun _ _ _ _ _ _ us hl => match us, hl with | [_, _], _ => rfl) (fun vs H Q E h => ?_) (fun cdv A outer s H vs Q E hr h => ?_)
  · obtain ⟨a, l, ps, rfl, _⟩ := h
    rfl
  · obtain ⟨a, l, ps, rfl, hw, hl, hn, hlen, hF, hB, q⟩ := h
    refine ⟨_, (pss_cons (ps_par (i := 2) (j := 3) (by rfl) sc__law_is_right.nd rfl rfl (by decide) rfl rfl (pa_cons (pc (kn_exact_sum T) (hr.mono (by decide)) (pa_cons (pv 1) pa_nil)) (pa_cons (pe_callTy (call_listK K) (by rfl) T.n_list (by decide +kernel) (pa_cons (pv 1) pa_nil)) pa_nil)) (by rfl))
      (pss_cons (ps_for PassesOwn.never rfl (pi_range1 rfl T.n_range (pa_cons pe_int pa_nil)) (pg_name (i := 4) sc__law_is_right.nd rfl (Or.inl rfl)) (pss_cons (ps_set (i := 3) sc__law_is_right.nd rfl (Or.inl rfl) (pc (kn__law_swept T) (hr.mono (by decide)) (pa_cons (pv 3) pa_nil)))
      (pss_one (ps_if (PW.pt (pw_or (pt_cmpR (op_neDK K (hr.units)) (pc (kn__law_exact T) (hr.mono (by decide)) (pa_cons (pv 3) pa_nil)) (pc (kn__law_exact T) (hr.mono (by decide)) (pa_cons (pv 1) pa_nil)) (nomark _)) (pw_or1 (pt_cmpR (op_neDK K (hr.units)) (pc (kn__law_ratio T) (hr.mono (by decide)) (pa_cons (pc (kn_exact_sum T) (hr.mono (by decide)) (pa_cons (pv 3) pa_nil)) pa_nil)) (pc (kn__law_ratio T) (hr.mono (by decide)) (pa_cons (pv 2) pa_nil)) (nomark _))))) (pss_one (ps_ret pe_bl)) pss_nil))))
      (pss_cons (ps_if (PW.pt (pw_and (pt_cmpR op_eq (pe_callB (call_lenK K) (by rfl) T.n_len (by decide +kernel) (pa_cons (pv 1) pa_nil)) pe_int (nomark _)) (pw_and1 (pt_cmpR (op_neDK K (hr.units)) (pc (kn__law_ratio T) (hr.mono (by decide)) (pa_cons (pe_ix (ix_tupK K) (pc (kn_split_sum T) (hr.mono (by decide)) (pa_cons (pe_ix (ix_listK K) (pv 1) pe_int (fun _ _ => rfl)) (pa_cons (pe_ix (ix_listK K) (pv 1) pe_int (fun _ _ => rfl)) pa_nil))) pe_int (fun _ _ => rfl)) pa_nil)) (pc (kn__law_ratio T) (hr.mono (by decide)) (pa_cons (pv 2) pa_nil)) (nomark _))))) (pss_one (ps_ret pe_bl)) pss_nil)
      (pss_cons (ps_setLc (i := 5) (own := [("number", 12)]) (g := gName 12) (by rfl) sc__law_is_right.nd rfl rfl (sw_true rfl rfl rfl (by decide +kernel)) (pi_listK K (pv 1)) (blkOk_by (own := [("number", 12)]) (N := ["well", "numbers", "told", "row", "turn", "opposite", "ratio", "power", "moved", "at", "less", "more", "number"]) (sc := defScope s__law_is_right) (by decide +kernel)) (fun _ _ _ _ _ => pg_name (i := 12) sc__law_is_right.nd rfl (Or.inl rfl)) (fun _ _ _ _ _ => pts_nil) (fun _ _ _ _ _ => (pcM (kn_Float T) (hr.mono (by decide)) (pa_cons (pe_op op_sub pe_int (pe_fldK K (pv 12))) (pa_cons (pe_fldK K (pv 12)) (pa_cons (pe_fldK K (pv 12)) pa_nil))))))
      (pss_cons (ps_set (i := 6) sc__law_is_right.nd rfl (Or.inl rfl) (pc (kn__law_ratio T) (hr.mono (by decide)) (pa_cons (pv 2) pa_nil)))
      (pss_cons (ps_if (pt_cmpR (op_neDK K (hr.units)) (pc (kn__law_ratio T) (hr.mono (by decide)) (pa_cons (pc (kn_exact_sum T) (hr.mono (by decide)) (pa_cons (pv 5) pa_nil)) pa_nil)) (pe_tup (pa_cons (pe_op op_sub pe_int (pe_ix (ix_tupK K) (pv 6) pe_int (fun _ _ => rfl))) (pa_cons (pe_ix (ix_tupK K) (pv 6) pe_int (fun _ _ => rfl)) pa_nil))) (nomark _)) (pss_one (ps_ret pe_bl)) pss_nil)
      (pss_cons (ps_if (pt_cmpR op_ne (pe_fldK K (pc (kn_exact_sum T) (hr.mono (by decide)) (pa_cons (pe_op op_cat (pv 1) (pv 5)) pa_nil))) pe_int (nomark _)) (pss_one (ps_ret pe_bl)) pss_nil)
      (pss_cons (ps_set (i := 7) sc__law_is_right.nd rfl (Or.inr rfl) (pe_op op_sub (pc (kn__law_draw T) (hr.mono (by decide)) (pa_cons (pv 0) (pa_cons pe_int pa_nil))) pe_int))
      (pss_cons (ps_set (i := 8) sc__law_is_right.nd rfl (Or.inl rfl) (pc (kn_exact_sum T) (hr.mono (by decide)) (pa_cons (pe_lc (own := [("number", 12)]) (g := gName 12) (by rfl) sc__law_is_right.nd (pi_listK K (pv 1)) (blkOk_by (own := [("number", 12)]) (N := ["well", "numbers", "told", "row", "turn", "opposite", "ratio", "power", "moved", "at", "less", "more", "number"]) (sc := defScope s__law_is_right) (by decide +kernel)) (fun _ _ _ _ _ => pg_name (i := 12) sc__law_is_right.nd rfl (Or.inl rfl)) (fun _ _ _ _ _ => pts_nil) (fun _ _ _ _ _ => (pc (kn__law_times T) (hr.mono (by decide)) (pa_cons (pv 12) (pa_cons (pv 7) pa_nil))))) pa_nil)))
      (pss_cons (ps_if (pt_cmpR (op_neDK K (hr.units)) (pc (kn__law_ratio T) (hr.mono (by decide)) (pa_cons (pv 8) pa_nil)) (pc (kn__law_ratio T) (hr.mono (by decide)) (pa_cons (pc (kn__law_times T) (hr.mono (by decide)) (pa_cons (pv 2) (pa_cons (pv 7) pa_nil))) pa_nil)) (nomark _)) (pss_one (ps_ret pe_bl)) pss_nil)
      (pss_cons (ps_set (i := 9) sc__law_is_right.nd rfl (Or.inl rfl) (pc (kn__law_draw T) (hr.mono (by decide)) (pa_cons (pv 0) (pa_cons (pe_callB (call_lenK K) (by rfl) T.n_len (by decide +kernel) (pa_cons (pv 1) pa_nil)) pa_nil))))
      (pss_cons (ps_set (i := 10) sc__law_is_right.nd rfl (Or.inl rfl) (pc (kn_exact_sum T) (hr.mono (by decide)) (pa_cons (pe_op op_cat (pe_op op_cat (pe_slice (sl_listK K) (pv 1) po_none (po_some (pv 9))) (pe_lst (pa_cons (pc (kn_next_down T) (hr.mono (by decide)) (pa_cons (pe_ix (ix_listK K) (pv 1) (pv 9) (fun _ _ => rfl)) pa_nil)) pa_nil))) (pe_slice (sl_listK K) (pv 1) (po_some (pe_op op_add (pv 9) pe_int)) po_none)) pa_nil)))
      (pss_cons (ps_set (i := 11) sc__law_is_right.nd rfl (Or.inl rfl) (pc (kn_exact_sum T) (hr.mono (by decide)) (pa_cons (pe_op op_cat (pe_op op_cat (pe_slice (sl_listK K) (pv 1) po_none (po_some (pv 9))) (pe_lst (pa_cons (pc (kn_next_up T) (hr.mono (by decide)) (pa_cons (pe_ix (ix_listK K) (pv 1) (pv 9) (fun _ _ => rfl)) pa_nil)) pa_nil))) (pe_slice (sl_listK K) (pv 1) (po_some (pe_op op_add (pv 9) pe_int)) po_none)) pa_nil)))
      (pss_one (ps_ret (pe_chain op_le op_le (pc (kn_rank_of T) (hr.mono (by decide)) (pa_cons (pv 10) pa_nil)) (pc (kn_rank_of T) (hr.mono (by decide)) (pa_cons (pv 2) pa_nil)) (pc (kn_rank_of T) (hr.mono (by decide)) (pa_cons (pv 11) pa_nil)))))))))))))))))), st_as (σ' := [some _, some _, none, none, none, none, none, none, none, none, none, none, none]) rfl ?_⟩
    have CFK := T.cf_Float
    have hB1 : ∀ q, q ∈ ps → q.2.natAbs ≤ 2 ^ 1650 := fun q hq => (hB q hq).1
    have hS := sum_bound (K := K) (H := H) (by omega) hB1
    have l97 : (2 : Nat) ^ (1650 + 4) ≤ 2 ^ 2097 := Nat.pow_le_pow_right (by decide) (by decide)
    wtm_at "go"
    refine use_exact_sum (by wtm_at "hp") hn (by omega) hF (by omega) fun G1 rt g1 m1 ft => ?_
    wtm_at "go"
    rename_i lr nr
    generalize hSS : (vls ps).sum = S at *
    have hn7 : ps.length < 16777216 := by omega
    refine loopR1 (by decide) (fun i σ G => ∃ (lr : Addr) (qs : List (Addr × Int)) (o4 : Option V), σ = [some (.ref a), some (.ref l), some (.ref rt), some (.ref lr), o4, none, none, none, none, none, none, none, none] ∧ Same H G ∧ FV K G rt (rnd S) ∧ G lr = some (.lst (rfs qs)) ∧ qs ≠ [] ∧ qs.length ≤ 7 ∧ FL K G qs ∧
      (∀ q, q ∈ qs → q.2.natAbs ≤ 2 ^ (1650 + 6 * i)) ∧ (vls qs).sum = S) ⟨lr, ps, none, rfl, by wtm_at "sm", ft.same (same_new nr), upd_same, hn, hlen, (hF.same g1).same (same_new nr), hB1, hSS⟩ (fun i σ G hi I => ?_) (fun σ G I => ?_)
    · obtain ⟨lr, qs, o4, rfl, sG, fG, hlr, hq1, hq2, hFq, hBq, hSq⟩ := I
      wtm_at "go"
      refine use__law_swept (sql_of hlr) hq1 hq2 (by omega) hFq hBq fun G2 l2 qs2 g2 m2 e2 n2 len2 F2 B2 S2 => ?_
      wtm_at "go"
      refine use__law_exact (sql_of e2) (by omega) F2 fun a1 b1 L1 G3 p3 g3 m3 e3 => ?_
      wtm_at "go"
      refine use__law_exact (ps := ps) (by wtm_at "hp") (by omega) (hF.same (by wtm_at "sm")) fun a2 b2 L2 G4 p4 g4 m4 e4 => ?_
      rw [S2, hSq] at L1
      rw [hSS] at L2
      obtain ⟨rfl, rfl⟩ := L1.uniq L2
      refine g_neT (by wtm_at "hp") (by wtm_at "hp") ?_
      wtm_at "go"
      refine use_exact_sum (ps := qs2) (by wtm_at "hp") n2 (by omega) (F2.same (by wtm_at "sm")) (by rw [S2, hSq]; omega) fun G5 r5 g5 m5 f5 => ?_
      rw [S2, hSq] at f5
      refine use__law_ratio f5 fun a3 b3 L3 _ _ G6 p6 g6 m6 e6 => ?_
      wtm_at "go"
      have f7 : FV K G6 rt (rnd S) := fG.same (by wtm_at "sm")
      refine use__law_ratio f7 fun a4 b4 L4 _ _ G7 p7 g7 m7 e7 => ?_
      obtain ⟨rfl, rfl⟩ := L3.uniq L4
      refine g_neT (by wtm_at "hp") (by wtm_at "hp") ?_
      wtm_at "go"
      have sE : Same G2 G7 := by wtm_at "sm"
      exact ⟨l2, qs2, some (.int (i : Int)), rfl, by wtm_at "sm", f7.same g7, sE _ _ e2, n2, len2, F2.same sE, fun q hq => by rw [show 1650 + 6 * (i + 1) = 1650 + 6 * i + 6 by omega]; exact B2 q hq, S2.trans hSq⟩
    · obtain ⟨lr, qs, o4, rfl, sG, fG, hlr, hq1, hq2, hFq, hBq, hSq⟩ := I
      dsimp only
      refine g_seqO fun R hR => ?_
      have tail : ∀ G', Same H G' → FV K G' rt (rnd S) → R [some (.ref a), some (.ref l), some (.ref rt), some (.ref lr), o4, none, none, none, none, none, none, none, none] G' := by
        intro G' sG' fG'
        rw [hR]
        exact mid_ok T q hB hn hlen hSS hS hw hl hF fG' sG'
      wtm_at "go"
      by_cases c : (ps.length : Int) = 2
      · rw [List.length_map, if_pos c]
        match ps, c with
        | [q1, q2], _ =>
          refine g_ixL (xs := rfs [q1, q2]) (v := .ref q1.1) (sql_of (sG _ _ hl)) (atI_nat (j := 0) rfl) ?_
          wtm_at "go"
          have hq1' := hF q1 (List.mem_cons_self ..)
          have hq2' := hF q2 (List.mem_cons_of_mem _ (List.mem_cons_self ..))
          have b1 := hB1 q1 (List.mem_cons_self ..)
          have b2 := hB1 q2 (List.mem_cons_of_mem _ (List.mem_cons_self ..))
          have l50 : (2 : Nat) ^ 1650 * 2 ≤ 2 ^ 2097 := by
            rw [← Nat.pow_succ]
            exact Nat.pow_le_pow_right (by decide) (by decide)
          have eS : q1.2 + q2.2 = S := by
            rw [← hSS]
            show q1.2 + q2.2 = q1.2 + (q2.2 + 0)
            omega
          refine use_split_sum (hq1'.same sG) (hq2'.same sG) (by omega) (by omega) fun G5 p5 r5 r6 g5 m5 e5 f5 f6 => ?_
          wtm_at "go"
          rw [eS] at f5
          refine use__law_ratio f5 fun a3 b3 L3 _ _ G6 p6 g6 m6 e6 => ?_
          wtm_at "go"
          have f7 : FV K G6 rt (rnd S) := fG.same (by wtm_at "sm")
          refine use__law_ratio f7 fun a4 b4 L4 _ _ G7 p7 g7 m7 e7 => ?_
          obtain ⟨rfl, rfl⟩ := L3.uniq L4
          refine g_neT (by wtm_at "hp") (by wtm_at "hp") ?_
          wtm_at "go"
          exact tail G7 (by wtm_at "sm") (f7.same g7)
      · rw [List.length_map, if_neg c]
        exact tail G sG fG
theorem use__law_is_right {H : Hp} {Q : VK} {E : XK} {a l : Addr} {ps : List (Addr × Int)} (hw : Well H a) (hl : H l = some (.lst (rfs ps))) (hn : ps ≠ []) (hlen : ps.length ≤ 7) (hF : FL K H ps) (hB : ∀ q, q ∈ ps → q.2.natAbs ≤ 2 ^ 1650 ∧ (2 : Int) ^ 574 ∣ q.2) (q : ∀ H', Sa a H H' → Well H' a → Q (.bl true) H') : sp__law_is_right K [.ref a, .ref l] H Q E := ⟨a, l, ps, rfl, hw, hl, hn, hlen, hF, hB, q⟩
end
end W85

set_option maxHeartbeats 4000000
set_option exponentiation.threshold 9000
namespace W85
open PySem PySem.Spec PyProof.Rows L2 WK Fm
local macro_rules | `(tactic| wtm_at "hp") => `(tactic| first
  | with_reducible assumption
  | with_reducible exact upd_same
  | with_reducible exact sqt_of upd_same
  | with_reducible exact sql_of upd_same
  | with_reducible exact sqt_s1 (by assumption) (by wtm_at "sm")
  | with_reducible exact sqt_s2 (by assumption) (by wtm_at "sm")
  | with_reducible exact FO.same (by assumption) (by wtm_at "sm")
  | with_reducible exact sqt_all (by assumption)
  | with_reducible exact sql_s1 (by assumption) (by wtm_at "sm")
  | with_reducible exact sql_s2 (by assumption) (by wtm_at "sm")
  | with_reducible exact at_s1 (by assumption) (by wtm_at "sm"))
local macro_rules | `(tactic| wtm_at "sd") => `(tactic| first
  | exact cdw_all (by assumption)
  | exact wide_mul (by assumption) (by assumption) (by decide) (by decide) (Nat.le_of_ble_eq_true rfl)
  | exact Or.inl ⟨by omega, by omega⟩
  | exact Or.inr ⟨by omega, by omega⟩
  | exact ⟨by omega, by decide⟩
  | exact cdw_of (by omega) (by omega)
  | exact cpow_of (by omega) (by omega) (by omega)
  | (dsimp only; omega)
  | (show (0 : Int) < _; omega)
  | (show (0 : Int) ≤ _; omega))
local macro_rules | `(tactic| wtm_at "sx") => `(tactic| simp only [x_seq, x_next, x_brk, x_cont, x_never, x_drop, x_asg, x_name, x_sub, x_ret, x_retN, x_ifS, x_parD, x_par3D, x_c, x_op, x_un, x_test, x_tB, x_yes, x_not, x_and, x_or, x_andV, x_orV, x_notV, x_ifE, x_chain, x_nil, x_cons, x_tupD, x_lstD, x_call, x_callX, x_cb, x_forR1, x_forR2, x_forL, x_forT, x_bits, x_part, x_nopart, x_sl, x_bm0, x_bm, x_lcL, x_lcT, x_lcR1, x_aug, x_ipI, x_ib, x_bi, x_onelB, x_two, x_onel, x_disp, x_pairs0, x_pairsS, x_dget2, x_fld, x_fldT, x_meth0, x_make, x_sfld, x_eqIS, x_neIS,
  x_var0, x_var1, x_var2, x_var3, x_var4, x_var5, x_var6, x_var7, x_var8, x_var9, x_var10, x_var11, x_var12, x_var13, x_var14, x_var15, List.set_cons_zero, x_set1, x_set2, x_set3, x_set4, x_set5, x_set6, x_set7, x_set8, x_set9, x_set10, x_set11, x_set12, x_set13, x_set14, x_set15, x_i0, x_iC, x_uI, x_bl, x_eqI, x_neI, x_eqS, x_neS, x_par, x_par3, x_gnil, x_gcons, x_one, x_rt, x_nx, x_bk, x_ct, cx_K, cx_K1, List.append_nil, List.cons_append, List.nil_append, if_true, if_false, ite_not, decide_true, decide_false, Bool.not_true, Bool.not_false, Bool.false_eq_true, decide_eq_true_eq, Bool.not_eq_true', Bool.not_eq_false', decide_eq_false_iff_not, true_and, and_true, reduceCtorEq, Int.reduceLT, Int.reduceLE, Int.reduceToNat, false_and, exists_false, or_false, false_or, wipe, List.map_cons, List.map_nil])
local macro_rules | `(tactic| wtm_at "g1") => `(tactic| first
  | with_reducible refine g_i0 ?_
  | with_reducible refine g_sign (by assumption) (by wtm_at "hp") ?_
  | with_reducible refine g_top (by assumption) (by wtm_at "hp") ?_
  | with_reducible refine g_power (by assumption) (by wtm_at "hp") ?_
  | with_reducible refine isi_F (by assumption) (by wtm_at "hp") ?_
  | with_reducible refine isi_ll (by wtm_at "hp") ?_
  | with_reducible refine g_inT (bb := false) (by wtm_at "hp") rfl rfl inV_iS ?_
  | with_reducible refine g_notInT (bb := false) (by wtm_at "hp") rfl rfl inV_iS ?_
  | with_reducible refine g_iC (by k_dflt (wtm_at "sd")) ?_
  | with_reducible refine g_ixT (by wtm_at "hp") rfl ?_
  | with_reducible refine g_pY (by k_dflt (wtm_at "cd")) ?_
  | with_reducible refine g_pX (by k_dflt (wtm_at "cd")) ?_
  | with_reducible refine g_size (by k_dflt exact (Nat.le_of_ble_eq_true rfl)) ?_
  | with_reducible refine isi_ii ?_
  | with_reducible refine isi_ib ?_
  | with_reducible refine isi_ss ?_
  | with_reducible refine isi_tt (by wtm_at "hp") ?_
  | with_reducible refine isi_bb ?_
  | with_reducible refine isi_is ?_
  | with_reducible refine g_inT (bb := true) (by wtm_at "hp") rfl rfl (by decide +kernel) ?_
  | with_reducible refine g_inT (bb := false) (by wtm_at "hp") rfl rfl (by decide +kernel) ?_
  | with_reducible refine g_notInT (bb := true) (by wtm_at "hp") rfl rfl (by decide +kernel) ?_
  | with_reducible refine g_notInT (bb := false) (by wtm_at "hp") rfl rfl (by decide +kernel) ?_
  | with_reducible refine g_ixL (by wtm_at "hp") rfl ?_
  | with_reducible refine g_tup (by wtm_at "hp") rfl ?_
  | with_reducible refine g_bl ?_
  | with_reducible refine g_eqI ?_
  | with_reducible refine g_neI ?_
  | with_reducible refine g_lenT (by wtm_at "hp") ?_
  | with_reducible refine g_lenL (by wtm_at "hp") ?_
  | with_reducible refine g_tl4 (by wtm_at "hp") ?_
  | with_reducible refine g_tl3 (by wtm_at "hp") ?_
  | with_reducible refine g_slL (by wtm_at "hp") ?_
  | with_reducible refine g_listL (by wtm_at "hp") ?_
  | with_reducible refine g_setL (by wtm_at "hp") rfl ?_
  | (with_reducible refine g_newT ?_; intro p np hp)
  | (with_reducible refine g_newL ?_; intro p np hp)
  | (with_reducible refine g_all ?_; intro p np)
  | with_reducible refine ⟨by k_dflt (wtm_at "sd"), ?_⟩
  | wtm_at "u1")
local macro_rules | `(tactic| wtm_at "cd") => `(tactic| first | omega | decide +kernel)
local macro_rules | `(tactic| wtm_at "go") => `(tactic| ((try wtm_at "sx"); repeat (wtm_at "g1"; try wtm_at "sx")))
local macro_rules | `(tactic| wtm_at "sm") => `(tactic| first
  | with_reducible assumption
  | with_reducible exact Same.refl _
  | with_reducible exact same_new (by assumption)
  | (with_reducible refine Same.trans ?_ (same_new (by assumption)); wtm_at "sm")
  | (with_reducible refine same_mut ?_ (by wtm_at "fr"); wtm_at "sm")
  | (with_reducible refine Same.trans ?_ (by assumption); wtm_at "sm"))
local macro_rules | `(tactic| wtm_at "fr") => `(tactic| first
  | with_reducible assumption
  | with_reducible exact free2 (by assumption) (by wtm_at "sm"))

local macro_rules | `(tactic| wtm_at "u1") => `(tactic| (with_reducible refine use_is_plain ?_; intro H1 s1))
local macro_rules | `(tactic| wtm_at "u1") => `(tactic| (with_reducible refine use_sign_of ?_; intro H1 s1))
local macro_rules | `(tactic| wtm_at "u1") => `(tactic| (with_reducible refine use_reduced (by assumption) ?_; intro H1 p1 s1 n1 h1))
local macro_rules | `(tactic| wtm_at "u1") => `(tactic| (with_reducible refine use_fits (by assumption) ?_; intro H1 s1))
local macro_rules | `(tactic| wtm_at "u1") => `(tactic| (with_reducible refine use_Float (by assumption) (by assumption) ?_; intro H1 r1 t1 p1 s1 n1 f1 v1))
local macro_rules | `(tactic| wtm_at "u1") => `(tactic| (with_reducible refine use_Float_is_finite (by wtm_at "hp") ?_; intro H1 s1))
local macro_rules | `(tactic| wtm_at "u1") => `(tactic| (with_reducible refine use_Float_ratio (by wtm_at "hp") (by assumption) ?_; intro H1 p1 s1 n1 h1))
local macro_rules | `(tactic| wtm_at "u1") => `(tactic| (with_reducible refine use_is_number (by wtm_at "hp") ?_; intro H1 s1))
local macro_rules | `(tactic| wtm_at "u1") => `(tactic| (with_reducible refine use_is_finite_float (by wtm_at "hp") ?_; intro H1 s1))
local macro_rules | `(tactic| wtm_at "u1") => `(tactic| (with_reducible refine use__law_draw (by assumption) (by k_dflt omega) (by k_dflt omega) ?_; intro H1 d1 s1 w1 d0 dm))
theorem wells_sa {ws : List Addr} {L W : Addr} {H H' : Hp} (hL : H L = some (.lst (ws.map V.ref))) (hW : ∀ r, r ∈ ws → Well H r) (hm : W ∈ ws) (s : Sa W H H') (w : Well H' W) : H' L = some (.lst (ws.map V.ref)) ∧ ∀ r, r ∈ ws → Well H' r := by
  constructor
  · refine s _ _ hL fun z => ?_
    obtain ⟨x, y, z', hx⟩ := hW W hm
    rw [z, hx] at hL
    have hL := HO.lst.inj (Option.some.inj hL)
    have : V.ref W ∈ ws.map V.ref := List.mem_map_of_mem hm
    rw [← hL] at this
    simp at this
  · intro r hr
    by_cases e : r = W
    · rw [e]; exact w
    · obtain ⟨x, y, z, hx⟩ := hW r hr
      exact ⟨x, y, z, s _ _ hx e⟩

theorem one_pow {s t p : Int} (h : V3 s t p (U (-59))) : s = 1 ∧ t = 1 ∧ p = -59 := by
  obtain ⟨w, n, ev, hs, ea, _⟩ : ∃ w, NF t p w ∧ U (-59) = s * w ∧ Sgn s ∧ True ∧ True := by
    obtain ⟨hs, w, n, e⟩ := h
    exact ⟨w, n, e, hs, trivial, trivial⟩
  have hu := U_pos (-59)
  have w0 := n.v0
  have s1 : s = 1 := by
    rcases hs with e | e
    · exact e
    · rw [e] at ev
      omega
  subst s1
  rw [Int.one_mul] at ev
  have ew := n.v
  rcases n.h with ⟨h1, h2⟩ | ⟨h1, h2, h3, h4, h5⟩
  · rw [h1, Int.zero_mul] at ew
    omega
  · have e1 : t.natAbs * 2 ^ (p + 1074).toNat = 2 ^ 1015 := by
      rw [← natAbs_mul_U p (by omega), ← ew, ← ev]
      show ((2 : Int) ^ 1015).natAbs = _
      rw [Int.natAbs_pow]
      rfl
    obtain ⟨i, _, ei⟩ := Mt.dvd_pow_two 1015 t.natAbs ⟨_, e1.symm⟩
    have i0 : i = 0 := by
      cases i with
      | zero => rfl
      | succ i =>
        rw [Nat.pow_succ] at ei
        omega
    rw [i0, Nat.pow_zero] at ei
    have t1 : t = 1 := by omega
    refine ⟨rfl, t1, ?_⟩
    rw [ei, Nat.one_mul] at e1
    have b := congrArg bits e1
    have b1 := bits_scale (n := 1) (by decide) (p + 1074).toNat
    have b2 := bits_scale (n := 1) (by decide) 1015
    rw [Nat.mul_one] at b1 b2
    omega
section
variable {P : Program} {w : World} {K : PySem.W.Frag} {mg : Str → Option Value} {base : Heap}
/-! ### the own == -/
def RE (K : PySem.W.Frag) : Addr → Addr → Hp → Prop := fun a b H => ∃ s t p, FO K H a s t p ∧ FO K H b s t p
theorem g_eqT3 {H : Hp} {Q : VK} {p q : Addr} {a b c : Int} (h1 : SqT K H p [.int a, .int b, .int c]) (h2 : SqT K H q [.int a, .int b, .int c]) (k : Q (.bl true) H) : rEqD K (.ref p) (.ref q) H Q :=
  have l : PyData.canLay0 (.tuple [.int a, .int b, .int c]) = true := cl_tup (cl_cons cl_int (cl_cons cl_int (cl_cons cl_int cl_nil)))
  g_eqD (b := true) (dp_tup h1 (.cons (.int _) (.cons (.int _) (.cons (.int _) .nil)))) (dp_tup h2 (.cons (.int _) (.cons (.int _) (.cons (.int _) .nil)))) (sh_of l (by simp only [PyData.depth, PyData.depthAll]; omega)) (sh_of l (by simp only [PyData.depth, PyData.depthAll]; omega)) (SeqAt.eqv_refl _ l) k
theorem eq_ok (T : Tx K mg) : ∃ fd, FnOk P w K mg base CX0 1 (He.ma K (FC K) "__eq__") fd ["self", "other"] (spEq (RE K)) ∧ Binds K fd ["self", "other"] [] := by
  obtain ⟨fd, F⟩ := T.d_Float___eq__
  refine ⟨fd, fn_mk F sc_Float___eq__ (fun vs H Q E h => ?_) (fun cdv A outer s H vs Q E hr h => ?_), F.bindsN (fun _ _ _ _ _ _ us hl => match us, hl with | [_, _], _ => rfl)⟩
  · obtain ⟨a, b, rfl, _⟩ := h
    rfl
  · obtain ⟨a, b, rfl, ⟨s0, t, p, f1, f2⟩, q⟩ := h
    refine ⟨_, (pss_cons (ps_if (pt_not (pt_val (pe_callB (call_isiK1 K) (by rfl) T.n_isinstance (by decide +kernel) (pa_cons (pv 1) (pa_cons (pe_gr T.g_Float) pa_nil))))) pss_never pss_nil)
      (pss_one (ps_ret (pe_cmpR (op_eqDK K (hr.units)) (pe_tup (pa_cons (pe_fldK K (pv 0)) (pa_cons (pe_fldK K (pv 0)) (pa_cons (pe_fldK K (pv 0)) pa_nil)))) (pe_tup (pa_cons (pe_fldK K (pv 1)) (pa_cons (pe_fldK K (pv 1)) (pa_cons (pe_fldK K (pv 1)) pa_nil)))) (nomark _))))), st_as (σ' := [some _, some _]) rfl ?_⟩
    have CFK := T.cf_Float
    wtm_at "go"
    refine g_eqT3 (by wtm_at "hp") (by wtm_at "hp") ?_
    exact q _ (show Same H _ by wtm_at "sm")
theorem op_eqF {X : Cx} {K : PySem.W.Frag} (T : Tx K X.mg) (hr : Room 1 X.A) (hK : X.K = K := by rfl) : OpR X (compareOp .Eq) (rEqG (DIns (FC K) (RE K))) := by
  subst hK
  obtain ⟨fd, F, hb⟩ := eq_ok (P := X.prog) (w := X.w) (base := X.base) T
  exact op_eqG (rcG_ins (E := E0) F T.e_Float T.m_Float___eq__.fn hb pass0) hr
def sp_law (K : PySem.W.Frag) : Sp := fun vs H Q _ => ∃ (a : Addr) (ns : List Int), vs = [.ref a] ∧ SqL K H a (ns.map V.int) ∧ ns.length ≤ 63 ∧ ∀ H', Q (.bl true) H'
theorem law_ok {fd : FuncData} (T : Tx K mg) (F : FunD K "law" "law" (defArgs s_law) (defBody s_law) (defScope s_law) [] [] (He.ga K "law") fd) : FnOk P w K mg base CX0 11 (He.ga K "law") fd ["script"] (sp_law K) := by
  refine fn_mk F sc_law (fun vs H Q E h => ?_) (fun cdv A outer s H vs Q E hr h => ?_)
  · obtain ⟨a, ns, rfl, _⟩ := h
    rfl
  · obtain ⟨a, ns, rfl, hS, hl, k⟩ := h
    refine ⟨_, (pss_cons (ps_for PassesOwn.never rfl (pi_listK K (pc (kn__law_wells T) (hr.mono (by decide)) (pa_cons (pv 0) (pa_cons pe_int pa_nil)))) (pg_name (i := 1) sc_law.nd rfl (Or.inl rfl)) (pss_one (ps_for PassesOwn.never rfl (pi_range1 rfl T.n_range (pa_cons pe_int pa_nil)) (pg_name (i := 2) sc_law.nd rfl (Or.inl rfl)) (pss_one (ps_if (pt_not (pt_val (pc (kn__law_is_right T) (hr.mono (by decide)) (pa_cons (pv 1) (pa_cons (pc (kn__law_numbers T) (hr.mono (by decide)) (pa_cons (pv 1) pa_nil)) pa_nil))))) (pss_one (ps_ret pe_bl)) pss_nil)))))
      (pss_cons (ps_par (i := 3) (j := 4) (by rfl) sc_law.nd rfl rfl (by decide) rfl rfl (pa_cons (pcM (kn_Float T) (hr.mono (by decide)) (pa_cons pe_int (pa_cons pe_int (pa_cons pe_int pa_nil)))) (pa_cons (pcM (kn_Float T) (hr.mono (by decide)) (pa_cons pe_int (pa_cons pe_int (pa_cons (pe_k (v := .int (-60)) (pe_op op_sub pe_int pe_int) k_sub) pa_nil)))) pa_nil)) (by rfl))
      (pss_one (ps_ret (pe_cmpR (op_eqF T (hr.mono (by decide))) (pc (kn_exact_sum T) (hr.mono (by decide)) (pa_cons (pe_lst (pa_cons (pv 3) (pa_cons (pv 4) (pa_cons (pv 4) (pa_cons (pcM (kn_Float T) (hr.mono (by decide)) (pa_cons (pe_k (v := .int (-1)) (pe_op op_sub pe_int pe_int) k_sub) (pa_cons pe_int (pa_cons pe_int pa_nil)))) pa_nil))))) pa_nil)) (pcM (kn_Float T) (hr.mono (by decide)) (pa_cons pe_int (pa_cons pe_int (pa_cons (pe_k (v := .int (-59)) (pe_op op_sub pe_int pe_int) k_sub) pa_nil)))) (nomark _)))))), st_as (σ' := [some _, none, none, none, none]) rfl ?_⟩
    have CFK := T.cf_Float
    wtm_at "go"
    refine use__law_wells hS hl fun ws H1 L s1 nL hL hW => ?_
    refine loopL (ws.map V.ref) (fun i σ H' => (∃ o1 o2 o3 o4, σ = [some (.ref a), o1, o2, o3, o4]) ∧ H' L = some (.lst (ws.map V.ref)) ∧ ∀ r, r ∈ ws → Well H' r) ⟨⟨_, _, _, _, rfl⟩, hL, hW⟩ (fun i σ H' hi I => sql_of I.2.1) (fun i v σ H' hv I => ?_) (fun σ H' I => ?_)
    · obtain ⟨⟨o1, o2, o3, o4, rfl⟩, hL, hW⟩ := I
      have hm := List.mem_of_getElem? hv
      obtain ⟨W, hWm, rfl⟩ := List.mem_map.mp hm
      wtm_at "go"
      refine loopR1 (by decide) (fun j σ H2 => (∃ o2 o3 o4, σ = [some (.ref a), some (.ref W), o2, o3, o4]) ∧ Sa W H' H2 ∧ Well H2 W) ⟨⟨_, _, _, rfl⟩, Sa.refl _ _, hW W hWm⟩ (fun j σ H2 hj I => ?_) (fun σ H2 I => ?_)
      · obtain ⟨⟨o2, o3, o4, rfl⟩, sa, w0⟩ := I
        wtm_at "go"
        refine use__law_numbers w0 fun G1 l1 ps sa1 w1 n1 h1 hn hlen hF hB => ?_
        refine use__law_is_right w1 h1 hn hlen hF hB fun G2 sa2 w2 => ?_
        wtm_at "go"
        exact ⟨⟨_, _, _, rfl⟩, sa.trans (sa1.trans sa2), w2⟩
      · obtain ⟨⟨o2, o3, o4, rfl⟩, sa, w0⟩ := I
        exact ⟨⟨_, _, _, _, rfl⟩, wells_sa hL hW hWm sa w0⟩
    · obtain ⟨⟨o1, o2, o3, o4, rfl⟩, hL, hW⟩ := I
      have hs1 : Sgn 1 := .inl rfl
      have hs2 : Sgn (-1) := .inr rfl
      have F1 := (new_fit (t := 1) (p := 0) (by decide) (by decide) (by decide) (by decide)).1
      have F2 := (new_fit (t := 1) (p := -60) (by decide) (by decide) (by decide) (by decide)).1
      have F3 := (new_fit (t := 1) (p := -59) (by decide) (by decide) (by decide) (by decide)).1
      wtm_at "go"
      rename_i G1 r1 t1 p1 s1 n1 f1 v1 G2 r2 t2 p2 s2 n2 f2 v2 G3 r4 t4 p4 s4 n4 f4 v4 pl nl hll
      have e59 : U (-59) = 2 * U (-60) := by
        have z := U_add (p := -60) 1 (by decide)
        rw [show (-60 : Int) + (1 : Nat) = -59 by decide, Int.pow_one] at z
        exact z
      have hsum : (vls [(r1, 1 * (1 * U 0)), (r2, 1 * (1 * U (-60))), (r2, 1 * (1 * U (-60))), (r4, -1 * (1 * U 0))]).sum = U (-59) := by
        show 1 * (1 * U 0) + (1 * (1 * U (-60)) + (1 * (1 * U (-60)) + (-1 * (1 * U 0) + 0))) = U (-59)
        omega
      have hab : (U (-59)).natAbs = 2 ^ 1015 := by
        show ((2 : Int) ^ 1015).natAbs = _
        rw [Int.natAbs_pow]
        rfl
      have hFi : IsFi (U (-59)) := by
        unfold IsFi
        rw [hab]
        exact isF_pow 1015
      have sP : Same G3 (upd G3 pl (.lst [.ref r1, .ref r2, .ref r2, .ref r4])) := same_new nl
      have hFL : FL K (upd G3 pl (.lst [.ref r1, .ref r2, .ref r2, .ref r4])) [(r1, 1 * (1 * U 0)), (r2, 1 * (1 * U (-60))), (r2, 1 * (1 * U (-60))), (r4, -1 * (1 * U 0))] := by
        intro q hq
        simp only [List.mem_cons, List.not_mem_nil, or_false] at hq
        rcases hq with rfl | rfl | rfl | rfl
        · exact ⟨_, _, _, f1.same (show Same G1 _ by wtm_at "sm"), v1⟩
        · exact ⟨_, _, _, f2.same (show Same G2 _ by wtm_at "sm"), v2⟩
        · exact ⟨_, _, _, f2.same (show Same G2 _ by wtm_at "sm"), v2⟩
        · exact ⟨_, _, _, f4.same (show Same G3 _ by wtm_at "sm"), v4⟩
      refine use_exact_sum (ps := [(r1, 1 * (1 * U 0)), (r2, 1 * (1 * U (-60))), (r2, 1 * (1 * U (-60))), (r4, -1 * (1 * U 0))]) (sql_of hll) (by simp) (by simp) hFL (by rw [hsum, hab]; exact Nat.pow_le_pow_right (by decide) (by decide)) fun G5 r5 g5 m5 f5 => ?_
      rw [hsum, rnd_fix hFi] at f5
      obtain ⟨s5, t5, p5, f5, v5⟩ := f5
      refine use_Float hs1 F3 fun G6 r6 t6 p6 g6 m6 f6 v6 => ?_
      rw [Int.one_mul, Int.one_mul] at v6
      obtain ⟨rfl, rfl, rfl⟩ := one_pow v5
      obtain ⟨_, rfl, rfl⟩ := one_pow v6
      have f5' := f5.same g6
      obtain ⟨dx5, h5⟩ := id f5'
      obtain ⟨dx6, h6⟩ := id f6
      exact ⟨⟨r5, r6, _, _, _, _, rfl, rfl, h5, h6, 1, 1, -59, f5', f6⟩, fun H' _ => k H'⟩
end
end W85

set_option maxHeartbeats 0
namespace W85
open PySem PySem.Spec PyProof.Rows L2 WK Fm
def cfB (K : PySem.W.Frag) : Bool := (He.Fa.cls "Float").ok K && ((He.Fa.noat "Float" "sign").ok K && ((He.Fa.noat "Float" "top").ok K && ((He.Fa.noat "Float" "power").ok K &&
  (decide (PySem.W.findIn K (.ref (FC K)) "__class__" = some (some (.builtin "object.__class__"))) && (decide (PySem.W.specialIn K (.builtin "object.__class__") "__get__" = some (some (.builtin "getset_descriptor.__get__"))) &&
  (decide (PySem.W.takesIn K (.builtin "object.__class__") = some true) && decide (PySem.W.mroIn K (FC K) (.type "object") = some true)))))))
theorem cfB_ok {K : PySem.W.Frag} (h : cfB K = true) : CF K := by
  unfold cfB at h
  simp only [Bool.and_eq_true] at h
  obtain ⟨h1, h2, h3, h4, h5, h6, h7, h8⟩ := h
  exact ⟨He.cls_ok h1, He.noat_ok h2, He.noat_ok h3, He.noat_ok h4, of_decide_eq_true h5, of_decide_eq_true h6, of_decide_eq_true h7, of_decide_eq_true h8⟩
def dfn (n : Str) (i : Nat) : He.DefD := ⟨(n, none), n, n, defArgs (top i), defBody (top i), defScope (top i), [], []⟩
def dfm (c m q : Str) (s : Stmt) : He.DefD := ⟨(c, some m), m, q, defArgs s, defBody s, defScope s, [], []⟩
def fn : List He.DefD := [dfm "Float" "__init__" "Float.__init__" s_Float___init__, dfm "Float" "__eq__" "Float.__eq__" s_Float___eq__, dfm "Float" "is_finite" "Float.is_finite" s_Float_is_finite, dfm "Float" "ratio" "Float.ratio" s_Float_ratio, dfn "is_plain" 9, dfn "reduced" 10, dfn "fits" 11, dfn "sign_of" 12, dfn "nearest" 15, dfn "is_number" 16, dfn "added" 17, dfn "is_finite_float" 21, dfn "check_finite" 22, dfn "spread_out" 23, dfn "rank_of" 24, dfn "of_rank" 25, dfn "next_up" 26, dfn "next_down" 27, dfn "lowered" 28, dfn "as_fraction" 29, dfn "exact_sum" 30, dfn "float_of" 31, dfn "split_by" 32, dfn "split_sum" 33, dfn "_law_well" 35, dfn "_law_draw" 36, dfn "_law_one" 37, dfn "_law_wells" 38, dfn "_law_low" 41, dfn "_law_numbers" 43, dfn "_law_exact" 44, dfn "_law_swept" 45, dfn "_law_times" 46, dfn "_law_is_right" 47, dfn "_law_raised" 48, dfn "_law_ratio" 49, dfn "law" 50]
def fa : List He.Fa := [.mkr "Float", .meth "Float" "__eq__", .meth "Float" "is_finite", .meth "Float" "ratio", .glo "is_plain", .glo "reduced", .glo "fits", .glo "sign_of", .glo "nearest", .glo "is_number", .glo "added", .glo "is_finite_float", .glo "check_finite", .glo "spread_out", .glo "rank_of", .glo "of_rank", .glo "next_up", .glo "next_down", .glo "lowered", .glo "as_fraction", .glo "exact_sum", .glo "float_of", .glo "split_by", .glo "split_sum", .glo "_law_well", .glo "_law_draw", .glo "_law_one", .glo "_law_wells", .glo "_law_low", .glo "_law_numbers", .glo "_law_exact", .glo "_law_swept", .glo "_law_times", .glo "_law_is_right", .glo "_law_raised", .glo "_law_ratio", .glo "law", .glo "infinity", .glo "nan", .glo "Float", .glo "InvalidArgument", .int "GREATEST_RANK" (9218868437227405312), .int "HALF_ROOM" (4503599627370496), .int "LOWEST" (-1074), .int "ROOM" (9007199254740992), .int "TOO_GREAT" (1024), .free "NotImplemented", .free "abs", .free "all", .free "any", .free "bool", .free "divmod", .free "int", .free "isinstance", .free "len", .free "list", .free "max", .free "min", .free "range", .free "str"]
def exs : List (PySem.W.Frag → Bool) := [fun K => cfB K, fun K => decide (PySem.W.kitOne K (.type "int") (.ref (He.ga K "Float")) = some false), fun K => decide (PySem.W.findIn K (.ref (FC K)) "__eq__" = some (some (.ref (He.ma K (FC K) "__eq__"))))]
def ex (K : PySem.W.Frag) : Bool := exs.all fun b => b K
theorem ex_at {K : PySem.W.Frag} (h : ex K = true) (i : Nat) {b : PySem.W.Frag → Bool} (e : exs[i]? = some b := by rfl) : b K = true := List.all_eq_true.mp h b (List.mem_of_getElem? e)
theorem tx {K : PySem.W.Frag} {h : Heap} {mg : Str → Option Value} (X : K.In h) (G : h.Ns mainGlobals mg) (c : He.SaysD fa fn K) (c2 : ex K = true) : Tx K mg where
  d_Float___init__ := c.def_ 0 (d := dfm "Float" "__init__" "Float.__init__" s_Float___init__) rfl
  k_Float := He.mkr_ok (c.fact 0 (f := .mkr "Float") rfl)
  d_Float___eq__ := c.def_ 1 (d := dfm "Float" "__eq__" "Float.__eq__" s_Float___eq__) rfl
  m_Float___eq__ := He.meth_ok (c.fact 1 (f := .meth "Float" "__eq__") rfl)
  d_Float_is_finite := c.def_ 2 (d := dfm "Float" "is_finite" "Float.is_finite" s_Float_is_finite) rfl
  m_Float_is_finite := He.meth_ok (c.fact 2 (f := .meth "Float" "is_finite") rfl)
  d_Float_ratio := c.def_ 3 (d := dfm "Float" "ratio" "Float.ratio" s_Float_ratio) rfl
  m_Float_ratio := He.meth_ok (c.fact 3 (f := .meth "Float" "ratio") rfl)
  g_is_plain := He.glo_ok X G (c.fact 4 (f := .glo "is_plain") rfl)
  d_is_plain := c.def_ 4 (d := dfn "is_plain" 9) rfl
  g_reduced := He.glo_ok X G (c.fact 5 (f := .glo "reduced") rfl)
  d_reduced := c.def_ 5 (d := dfn "reduced" 10) rfl
  g_fits := He.glo_ok X G (c.fact 6 (f := .glo "fits") rfl)
  d_fits := c.def_ 6 (d := dfn "fits" 11) rfl
  g_sign_of := He.glo_ok X G (c.fact 7 (f := .glo "sign_of") rfl)
  d_sign_of := c.def_ 7 (d := dfn "sign_of" 12) rfl
  g_nearest := He.glo_ok X G (c.fact 8 (f := .glo "nearest") rfl)
  d_nearest := c.def_ 8 (d := dfn "nearest" 15) rfl
  g_is_number := He.glo_ok X G (c.fact 9 (f := .glo "is_number") rfl)
  d_is_number := c.def_ 9 (d := dfn "is_number" 16) rfl
  g_added := He.glo_ok X G (c.fact 10 (f := .glo "added") rfl)
  d_added := c.def_ 10 (d := dfn "added" 17) rfl
  g_is_finite_float := He.glo_ok X G (c.fact 11 (f := .glo "is_finite_float") rfl)
  d_is_finite_float := c.def_ 11 (d := dfn "is_finite_float" 21) rfl
  g_check_finite := He.glo_ok X G (c.fact 12 (f := .glo "check_finite") rfl)
  d_check_finite := c.def_ 12 (d := dfn "check_finite" 22) rfl
  g_spread_out := He.glo_ok X G (c.fact 13 (f := .glo "spread_out") rfl)
  d_spread_out := c.def_ 13 (d := dfn "spread_out" 23) rfl
  g_rank_of := He.glo_ok X G (c.fact 14 (f := .glo "rank_of") rfl)
  d_rank_of := c.def_ 14 (d := dfn "rank_of" 24) rfl
  g_of_rank := He.glo_ok X G (c.fact 15 (f := .glo "of_rank") rfl)
  d_of_rank := c.def_ 15 (d := dfn "of_rank" 25) rfl
  g_next_up := He.glo_ok X G (c.fact 16 (f := .glo "next_up") rfl)
  d_next_up := c.def_ 16 (d := dfn "next_up" 26) rfl
  g_next_down := He.glo_ok X G (c.fact 17 (f := .glo "next_down") rfl)
  d_next_down := c.def_ 17 (d := dfn "next_down" 27) rfl
  g_lowered := He.glo_ok X G (c.fact 18 (f := .glo "lowered") rfl)
  d_lowered := c.def_ 18 (d := dfn "lowered" 28) rfl
  g_as_fraction := He.glo_ok X G (c.fact 19 (f := .glo "as_fraction") rfl)
  d_as_fraction := c.def_ 19 (d := dfn "as_fraction" 29) rfl
  g_exact_sum := He.glo_ok X G (c.fact 20 (f := .glo "exact_sum") rfl)
  d_exact_sum := c.def_ 20 (d := dfn "exact_sum" 30) rfl
  g_float_of := He.glo_ok X G (c.fact 21 (f := .glo "float_of") rfl)
  d_float_of := c.def_ 21 (d := dfn "float_of" 31) rfl
  g_split_by := He.glo_ok X G (c.fact 22 (f := .glo "split_by") rfl)
  d_split_by := c.def_ 22 (d := dfn "split_by" 32) rfl
  g_split_sum := He.glo_ok X G (c.fact 23 (f := .glo "split_sum") rfl)
  d_split_sum := c.def_ 23 (d := dfn "split_sum" 33) rfl
  g__law_well := He.glo_ok X G (c.fact 24 (f := .glo "_law_well") rfl)
  d__law_well := c.def_ 24 (d := dfn "_law_well" 35) rfl
  g__law_draw := He.glo_ok X G (c.fact 25 (f := .glo "_law_draw") rfl)
  d__law_draw := c.def_ 25 (d := dfn "_law_draw" 36) rfl
  g__law_one := He.glo_ok X G (c.fact 26 (f := .glo "_law_one") rfl)
  d__law_one := c.def_ 26 (d := dfn "_law_one" 37) rfl
  g__law_wells := He.glo_ok X G (c.fact 27 (f := .glo "_law_wells") rfl)
  d__law_wells := c.def_ 27 (d := dfn "_law_wells" 38) rfl
  g__law_low := He.glo_ok X G (c.fact 28 (f := .glo "_law_low") rfl)
  d__law_low := c.def_ 28 (d := dfn "_law_low" 41) rfl
  g__law_numbers := He.glo_ok X G (c.fact 29 (f := .glo "_law_numbers") rfl)
  d__law_numbers := c.def_ 29 (d := dfn "_law_numbers" 43) rfl
  g__law_exact := He.glo_ok X G (c.fact 30 (f := .glo "_law_exact") rfl)
  d__law_exact := c.def_ 30 (d := dfn "_law_exact" 44) rfl
  g__law_swept := He.glo_ok X G (c.fact 31 (f := .glo "_law_swept") rfl)
  d__law_swept := c.def_ 31 (d := dfn "_law_swept" 45) rfl
  g__law_times := He.glo_ok X G (c.fact 32 (f := .glo "_law_times") rfl)
  d__law_times := c.def_ 32 (d := dfn "_law_times" 46) rfl
  g__law_is_right := He.glo_ok X G (c.fact 33 (f := .glo "_law_is_right") rfl)
  d__law_is_right := c.def_ 33 (d := dfn "_law_is_right" 47) rfl
  g__law_raised := He.glo_ok X G (c.fact 34 (f := .glo "_law_raised") rfl)
  d__law_raised := c.def_ 34 (d := dfn "_law_raised" 48) rfl
  g__law_ratio := He.glo_ok X G (c.fact 35 (f := .glo "_law_ratio") rfl)
  d__law_ratio := c.def_ 35 (d := dfn "_law_ratio" 49) rfl
  g_law := He.glo_ok X G (c.fact 36 (f := .glo "law") rfl)
  d_law := c.def_ 36 (d := dfn "law" 50) rfl
  g_infinity := He.glo_ok X G (c.fact 37 (f := .glo "infinity") rfl)
  g_nan := He.glo_ok X G (c.fact 38 (f := .glo "nan") rfl)
  g_Float := He.glo_ok X G (c.fact 39 (f := .glo "Float") rfl)
  g_InvalidArgument := He.glo_ok X G (c.fact 40 (f := .glo "InvalidArgument") rfl)
  c_GREATEST_RANK := He.int_ok X G (c.fact 41 (f := .int "GREATEST_RANK" (9218868437227405312)) rfl)
  c_HALF_ROOM := He.int_ok X G (c.fact 42 (f := .int "HALF_ROOM" (4503599627370496)) rfl)
  c_LOWEST := He.int_ok X G (c.fact 43 (f := .int "LOWEST" (-1074)) rfl)
  c_ROOM := He.int_ok X G (c.fact 44 (f := .int "ROOM" (9007199254740992)) rfl)
  c_TOO_GREAT := He.int_ok X G (c.fact 45 (f := .int "TOO_GREAT" (1024)) rfl)
  n_NotImplemented := He.free_ok X G (c.fact 46 (f := .free "NotImplemented") rfl)
  n_abs := He.free_ok X G (c.fact 47 (f := .free "abs") rfl)
  n_all := He.free_ok X G (c.fact 48 (f := .free "all") rfl)
  n_any := He.free_ok X G (c.fact 49 (f := .free "any") rfl)
  n_bool := He.free_ok X G (c.fact 50 (f := .free "bool") rfl)
  n_divmod := He.free_ok X G (c.fact 51 (f := .free "divmod") rfl)
  n_int := He.free_ok X G (c.fact 52 (f := .free "int") rfl)
  n_isinstance := He.free_ok X G (c.fact 53 (f := .free "isinstance") rfl)
  n_len := He.free_ok X G (c.fact 54 (f := .free "len") rfl)
  n_list := He.free_ok X G (c.fact 55 (f := .free "list") rfl)
  n_max := He.free_ok X G (c.fact 56 (f := .free "max") rfl)
  n_min := He.free_ok X G (c.fact 57 (f := .free "min") rfl)
  n_range := He.free_ok X G (c.fact 58 (f := .free "range") rfl)
  n_str := He.free_ok X G (c.fact 59 (f := .free "str") rfl)
  cf_Float := cfB_ok (ex_at c2 0 (b := fun K => cfB K) rfl)
  f_Float := of_decide_eq_true (ex_at c2 1 (b := fun K => decide (PySem.W.kitOne K (.type "int") (.ref (He.ga K "Float")) = some false)) rfl)
  e_Float := of_decide_eq_true (ex_at c2 2 (b := fun K => decide (PySem.W.findIn K (.ref (FC K)) "__eq__" = some (some (.ref (He.ma K (FC K) "__eq__"))))) rfl)
def names0 : List Str := ["_wall", "__name__", "LuaError", "InvalidArgument", "ROOM", "LOWEST", "TOO_GREAT", "Float", "is_plain", "reduced", "fits", "sign_of", "nan", "infinity", "nearest", "is_number", "added", "HALF_ROOM", "GREATEST_RANK", "is_finite_float", "check_finite", "spread_out", "rank_of", "of_rank", "next_up"]
def names1 : List Str := ["next_down", "lowered", "as_fraction", "exact_sum", "float_of", "split_by", "split_sum", "_law_well", "_law_draw", "_law_one", "_law_wells", "_law_great", "_law_float", "_law_low", "_law_less", "_law_numbers", "_law_exact", "_law_swept", "_law_times", "_law_is_right", "_law_raised", "_law_ratio"]
def names : List Str := names0 ++ names1
abbrev R : PySem.W.OpenRow := PySem.W.OpenLaw.row PySem.Challenge.rw_walkmade_k85_whole_sums_through_their_pa
abbrev AlY : Type := He.AlD × Bool
def obY (g : Addr → Option Obj) : AlY := (He.obsDG 4 fa fn g, ex (He.frG g (He.asD g 4)))
def hk : PySem.W.Hook where
  α := AlY
  obs := fun s => obY s.heap.get?
  val := fun _ => (He.valD fn, true)
  says := fun _ h => ∃ K : PySem.W.Frag, K.In h ∧ He.SaysD fa fn K ∧ ex K = true
  of := fun _ _ e => ⟨_, He.frG_in, congrArg (fun z : AlY => z.1) e, congrArg (fun z : AlY => z.2) e⟩
  keeps := fun _ _ _ ⟨K, hK, c⟩ k => ⟨K, PySem.W.Frag.In.keeps hK k, c⟩
def ob (s : PySem.W.SharedT) : AlY := obY (HandSHeadRun.getT s)
theorem ob_eq (s : PySem.W.SharedT) : ob s = hk.obs s.abs := by
  have e : HandSHeadRun.getT s = s.abs.heap.get? := funext (HandSHeadRun.getT_eq s)
  show obY _ = obY _
  rw [e]
theorem run (w : World) : HandSHeadRun.RunEq R (PySem.W.view R.prog [50]) hk ob 6000 names w := by
  intro os
  kernel_rfl
end W85
open PySem PySem.W PySem.Calls PyProof.Rows
theorem PySem.Challenge.cw_walkmade_k85_whole_sums_through_their_pa_holds : PySem.Challenge.rw_walkmade_k85_whole_sums_through_their_pa.Holds := by
  w_on; o_law
  refine HandSHeadRun.head_any (r := W85.R) (q := view W85.R.prog [50]) (H := W85.hk) (ob := W85.ob) (M := 6000) (loose := W85.names) (d := HandSHeadRun.topDef W85.R.prog 50) (kwd := []) W85.ob_eq
    (by kernel_rfl) (fun s => by kernel_rfl) W85.run (by kernel_rfl) (by kernel_rfl) (by kernel_rfl) (by rfl) (by first | assumption | decide +kernel) (by decide +kernel) ⟨rfl, rfl, rfl, rfl, rfl, by decide +kernel⟩ ?hw ?hc
  case hw => w_witness2
  case hc =>
    refine L2.walk_ofE (l := PySem.Challenge.rw_walkmade_k85_whole_sums_through_their_pa) (n := 63) (k := 11) (x := "script") (CX := L2.CX0) rfl (by decide) (by kernel_rfl) ⟨rfl, by decide, by decide⟩ ?F (fun _ _ _ _ z => z)
    intro w mg fa h Y G hmg0
    obtain ⟨K, KX, c, c2⟩ := Y
    have hmg : mg ("law" : PySem.Str) = some (.ref fa) := by
      have e : (HandSHeadRun.topDef W85.R.prog 50).name = ("law" : PySem.Str) := by kernel_rfl
      rw [← e]
      exact hmg0
    have T := W85.tx KX G c c2
    have eg := hmg.symm.trans T.g_law
    cases eg
    obtain ⟨fd, F⟩ := T.d_law
    refine ⟨K, fd, W85.sp_law K, KX, fun s v => ?_, fun H a ns hl _ hS => ⟨a, ns, rfl, hS, hl, fun _ => rfl⟩, fun base _ _ => ?_⟩
    · exact L2.FunD.bindsA (ps := ["script"]) F (fun _ _ _ _ _ _ us hl => match us, hl with | [_], _ => rfl) s [v] rfl
    · exact W85.law_ok T F
