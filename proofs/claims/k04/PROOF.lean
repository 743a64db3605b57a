import PyProof.Rows.All
import Wide.All
import OpenK.AllK
import Wide.FinOn
import HandS.ForMost
import HandS.Evl
import HandS.Codes
import HandS.WideBits
import HandS.Wide
import HandS.IsInst
import HandS.Property
import HandS.Star
import HandS.Steps
import HandS.NoneIn
import HandS.Set
import HandS.SetFor
import HandS.Strs
import PySem.Challenge.RW_gapreach_k04_cells_by_trying
set_option Elab.async false
set_option linter.all false
set_option maxRecDepth 100000
set_option maxHeartbeats 4000000
namespace Gx
open PySem L2
/-! ### a list of three whole numbers that a def changes, known to its callers by what stays true of it -/
/-- at f stands a list of three whole numbers, the first one at least 0 -/
def FlowP (f : Addr) (h : Heap) : Prop := ∃ (x y z : Int) (t u v : Tok) (n : Nat), 0 ≤ x ∧ h.get? f = some { cls := .type "list", data := .seq #[.int x t, .int y u, .int z v] n }
def FlowO (f : Addr) : HO := .ext (FlowP f)
def three (x y z : Int) : HO := .lst [.int x, .int y, .int z]
section
variable {P : Program} {w : World} {K : PySem.W.Frag} {mg : Str → Option Value} {base : Heap} {H : Hp} {h : Heap} {f : Addr}
theorem flow_open (ok : HOk P w H h) (hf : H f = some (FlowO f)) : ∃ x y z, 0 ≤ x ∧ HOk P w (upd H f (three x y z)) h := by
  have q : ObjOk P w H h f (FlowO f) := ok f _ hf
  obtain ⟨⟨x, y, z, t, u, v, n, hx, e⟩, _, _⟩ := q
  refine ⟨x, y, z, hx, ok.write (by rw [hf]; trivial) (Or.inl rfl) (fun _ _ _ q => q) ⟨_, e⟩ ?_⟩
  exact ⟨(by decide : 3 ≤ sizeLine), _, n, .cons ⟨t, rfl⟩ (.cons ⟨u, rfl⟩ (.cons ⟨v, rfl⟩ .nil)), e⟩
theorem flow_close {x y z : Int} (ok : HOk P w H h) (hf : H f = some (three x y z)) (hx : 0 ≤ x) : HOk P w (upd H f (FlowO f)) h := by
  have q : ObjOk P w H h f (three x y z) := ok f _ hf
  obtain ⟨_, its, n, r, e⟩ := q
  have hp : FlowP f h := by
    cases r with
    | cons r1 r =>
      cases r with
      | cons r2 r =>
        cases r with
        | cons r3 r =>
          cases r
          obtain ⟨t, rfl⟩ := r1
          obtain ⟨u, rfl⟩ := r2
          obtain ⟨v, rfl⟩ := r3
          exact ⟨x, y, z, t, u, v, n, hx, e⟩
  refine ok.write (by rw [hf]; trivial) (Or.inl rfl) (fun _ _ _ q => q) ⟨_, e⟩ ?_
  exact ⟨hp, ⟨_, e⟩, fun h1 h2 p1 k => by
    obtain ⟨x, y, z, t, u, v, n, hx, e⟩ := p1
    exact ⟨x, y, z, t, u, v, n, hx, k _ e⟩⟩
/-- a def that is proved for the list as it stands keeps its promise for the list by what stays true of it -/
theorem flow_view {k : Nat} {fa : Addr} {fd : FuncData} {ps : List Str} {sp sp' : Sp} (F : FnOk P w K mg base CX0 k fa fd ps sp)
    (hs : ∀ vs H Q E, sp' vs H Q E → ∃ f, H f = some (FlowO f) ∧ ∀ x y z, 0 ≤ x → sp vs (upd H f (three x y z)) (fun v H' => (∃ x' y' z', 0 ≤ x' ∧ H' f = some (three x' y' z')) ∧ Q v (upd H' f (FlowO f))) E) :
    FnOk P w K mg base CX0 k fa fd ps sp' := by
  refine ⟨fun vs H Q E q => ?_, fun A outer s H args us vs Q E hr he hb hv q => ?_⟩
  · obtain ⟨f, _, k⟩ := hs vs H Q E q
    exact F.len _ _ _ _ (k 0 0 0 (Int.le_refl 0))
  · obtain ⟨f, hf, k⟩ := hs vs H Q E q
    obtain ⟨x, y, z, hx, ok1⟩ := flow_open he.hok hf
    have nf : ∀ b, H b = none → b ≠ f := fun b n e => by rw [e, hf] at n; cases n
    have mu : Mut (H f) := by rw [hf]; trivial
    have hof : ∃ o, s.heap.get? f = some o := by
      have q : ObjOk P w H s.heap f (FlowO f) := he.hok f _ hf
      exact q.2.1
    have he1 : Env0 P w K mg base A outer s (upd H f (three x y z)) :=
      ⟨he.frames, he.mod, fun b o e => ⟨(he.bs b o e).1, by rw [upd_ne (nf b (he.bs b o e).2)]; exact (he.bs b o e).2⟩, he.bsz, he.funs, fun b hb => by rw [upd_ne (nf b (he.frf b hb))]; exact he.frf b hb, ok1, he.bare⟩
    refine codeAny_mono (F.run A outer s _ args us vs _ E hr he1 hb hv (k x y z hx)) fun r s' hq => ?_
    cases r with
    | error e => exact hq.elim
    | ok fl =>
      cases fl with
      | ret u =>
        obtain ⟨v, H', os, bare, un, hok, rv, ⟨x', y', z', hx', e'⟩, q'⟩ := hq
        refine ⟨v, upd H' f (FlowO f), os, bare, ?_, flow_close hok e' hx', rv, q'⟩
        have u1 : Un (frs outer) [] H (upd H f (three x y z)) s.heap s.heap := Un.write mu (Or.inl rfl) (fun _ _ _ q => q) hof
        have hof' : ∃ o, s'.heap.get? f = some o := by
          have q : ObjOk P w H' s'.heap f (three x' y' z') := hok f _ e'
          obtain ⟨_, its, n, r, e⟩ := q
          exact ⟨_, e⟩
        have u2 : Un (frs outer) [] H' (upd H' f (FlowO f)) s'.heap s'.heap := Un.write (by rw [e']; trivial) (Or.inl rfl) (fun _ _ _ q => q) hof'
        exact (u1.trans un).trans u2
      | next => exact hq.elim
      | brk => exact hq.elim
      | cont => exact hq.elim
end
end Gx

namespace Gx
open PySem L2
/-! ### readings, from the left: each of these takes one step -/
section
variable {σ : L2.St} {H H' : Hp} {Q : VK} {K : PySem.W.Frag} {v x y : V} {ta tb te tc : TE} {tt tu : TT} {t u : TS} {D : Ends} {i j : Nat} {r : R2}
theorem g_var (h : σ[i]? = some (some v)) (q : Q v H) : tVar i σ H Q := ⟨v, h, q⟩
theorem g_c (q : Q v H) : tC v σ H Q := q
theorem g_op (q : ta σ H fun x H1 => tb σ H1 fun y H2 => r x y H2 Q) : tOp r ta tb σ H Q := q
theorem g_I0 {g : Int → Int → V} {a b : Int} (q : Q (g a b) H) : rI0 g (.int a) (.int b) H Q := ⟨a, b, rfl, rfl, q⟩
theorem g_I {C : Int → Int → Prop} {g : Int → Int → V} {a b : Int} (hc : C a b) (q : Q (g a b) H) : rI C g (.int a) (.int b) H Q := ⟨a, b, rfl, rfl, hc, q⟩
theorem g_mod {a b : Int} (hb : 0 < b) (q : ∀ r, 0 ≤ r → r < b → Q (.int r) H) : rI (fun _ j => 0 < j) (fun i j => .int (i % j)) (.int a) (.int b) H Q :=
  ⟨a, b, rfl, rfl, hb, q _ (Int.emod_nonneg _ (by omega)) (Int.emod_lt_of_pos _ hb)⟩
theorem g_Imul {a b : Int} (hc : CMul a b) (q : Q (.int (a * b)) H) : rI CMul (fun i j => .int (i * j)) (.int a) (.int b) H Q := ⟨a, b, rfl, rfl, hc, q⟩
theorem g_Idiv {a b : Int} (hc : CDivW a b) (q : Q (.int (a / b)) H) : rI CDivW (fun i j => .int (i / j)) (.int a) (.int b) H Q := ⟨a, b, rfl, rfl, hc, q⟩
theorem g_Imod {a b : Int} (hc : 0 < b) (q : Q (.int (a % b)) H) : rI (fun _ j => 0 < j) (fun i j => .int (i % j)) (.int a) (.int b) H Q := ⟨a, b, rfl, rfl, hc, q⟩
theorem g_pow3 {a b : Int} (hc : CPow a b) (q : Q (.int (a ^ b.toNat)) H) : rI CPow (fun i j => .int (i ^ j.toNat)) (.int a) (.int b) H Q := ⟨a, b, rfl, rfl, hc, q⟩
theorem g_un {r : V → Hp → VK → Prop} (q : ta σ H fun x H1 => r x H1 Q) : tUn r ta σ H Q := q
theorem g_U {g : Int → V} {a : Int} (q : Q (g a) H) : rU g (.int a) H Q := ⟨a, rfl, q⟩
theorem g_eq (h : scal x y = true) (q : Q (.bl (decide (x = y))) H) : rEq x y H Q := ⟨h, q⟩
theorem g_ne (h : scal x y = true) (q : Q (.bl (!decide (x = y))) H) : rNe x y H Q := ⟨h, q⟩
theorem g_exbl {b : Bool} {P : Bool → Prop} (h : P b) : ∃ k, V.bl b = V.bl k ∧ P k := ⟨b, rfl, h⟩
theorem g_test {Q : Bool → Hp → Prop} (q : te σ H fun x H1 => ∃ k, x = .bl k ∧ Q k H1) : tTest te σ H Q := q
theorem g_B {Q : Bool → Hp → Prop} (q : te σ H fun x H1 => ∃ k, x = .bl k ∧ Q k H1) : tB te σ H Q := q
theorem g_not {Q : Bool → Hp → Prop} (q : tt σ H fun c H1 => Q (!c) H1) : tNot tt σ H Q := q
theorem g_and {Q : Bool → Hp → Prop} (q : tt σ H fun c H1 => if c = true then tu σ H1 Q else Q false H1) : tAnd tt tu σ H Q := q
theorem g_or {Q : Bool → Hp → Prop} (q : tt σ H fun c H1 => if c = true then Q true H1 else tu σ H1 Q) : tOr tt tu σ H Q := q
theorem g_andV (q : ta σ H fun x H1 => ∃ c, x = .bl c ∧ if c = true then tb σ H1 Q else Q (.bl false) H1) : tAndV ta tb σ H Q := q
theorem g_orV (q : ta σ H fun x H1 => ∃ c, x = .bl c ∧ if c = true then Q (.bl true) H1 else tb σ H1 Q) : tOrV ta tb σ H Q := q
theorem g_notV (q : ta σ H fun x H1 => ∃ c, x = .bl c ∧ Q (.bl (!c)) H1) : tNotV ta σ H Q := q
theorem g_ifE (q : tt σ H fun c H1 => if c = true then ta σ H1 Q else tb σ H1 Q) : tIf tt ta tb σ H Q := q
theorem g_isN (q : ta σ H fun x H1 => Q (.bl (decide (x = .non))) H1) : tIsN ta σ H Q := q
theorem g_cons {tr : TA} {Q : List V → Hp → Prop} (q : ta σ H fun x H1 => tr σ H1 fun xs H2 => Q (x :: xs) H2) : tCons ta tr σ H Q := q
theorem g_nil {Q : List V → Hp → Prop} (q : Q [] H) : tNil σ H Q := q
theorem g_CB {r : List V → Hp → VK → Prop} {tr : TA} (q : tr σ H fun vs H1 => r vs H1 Q) : tCB r tr σ H Q := q
theorem g_chain {r' : R2} (q : ta σ H fun x H1 => tb σ H1 fun y H2 => r x y H2 fun z H3 => ∃ k, z = .bl k ∧ (if k = true then tc σ H3 fun w' H4 => r' y w' H4 Q else Q (.bl false) H3)) : tChain r r' ta tb tc σ H Q := q
-- statements
theorem g_seq (q : t { D with nx := u D } σ H) : tSeq t u D σ H := q
theorem g_next (q : D.nx σ H) : tNext D σ H := q
theorem g_asg {g : TG} (q : te σ H fun x H1 => g x σ H1 D.nx) : tAsg te g D σ H := q
theorem g_name {Q : L2.St → Hp → Prop} (q : Q (σ.set i (some v)) H) : gName i v σ H Q := q
theorem g_sub {to ti : TE} {s : TSet} {Q : L2.St → Hp → Prop} (q : to σ H fun o H1 => ti σ H1 fun i H2 => s o i v H2 fun H3 => Q σ H3) : gSub to ti s v σ H Q := q
theorem g_drop (q : te σ H fun _ H1 => D.nx σ H1) : tDrop te D σ H := q
theorem g_ret (q : te σ H D.rt) : tRet te D σ H := q
theorem g_retN (q : D.rt .non H) : tRetN D σ H := q
theorem g_ifS (q : tt σ H fun b H1 => if b = true then t D σ H1 else u D σ H1) : tIfS tt t u D σ H := q
theorem g_par {ts : TA} (q : ts σ H fun vs H1 => ∃ v w, vs = [v, w] ∧ D.nx ((σ.set i (some v)).set j (some w)) H1) : tPar i j ts D σ H := q
theorem g_expar {v w : V} {P : V → V → Prop} (h : P v w) : ∃ a b, [v, w] = [a, b] ∧ P a b := ⟨v, w, rfl, h⟩
-- tests decided
theorem g_ite {c : Prop} [Decidable c] {A B : Prop} (h1 : c → A) (h2 : ¬ c → B) : if decide c = true then A else B := by
  by_cases h : c
  · rw [if_pos (decide_eq_true h)]
    exact h1 h
  · rw [if_neg (by rw [decide_eq_false h]; exact Bool.false_ne_true)]
    exact h2 h
theorem g_iteN {c : Prop} [Decidable c] {A B : Prop} (h1 : ¬ c → A) (h2 : c → B) : if (!decide c) = true then A else B := by
  by_cases h : c
  · rw [if_neg (by rw [decide_eq_true h]; exact Bool.false_ne_true)]
    exact h2 h
  · rw [if_pos (by rw [decide_eq_false h]; rfl)]
    exact h1 h
/-- an if whose two ways meet: what holds where they meet is said once -/
theorem g_iteJ {c : Prop} [Decidable c] {N Bk Ct : L2.St → Hp → Prop} {R : VK} (Mid : L2.St → Hp → Prop) (tail : ∀ σ' H', Mid σ' H' → N σ' H')
    (h1 : ∀ N' : L2.St → Hp → Prop, (∀ σ' H', Mid σ' H' → N' σ' H') → c → t ⟨N', R, Bk, Ct⟩ σ H) (h2 : ∀ N' : L2.St → Hp → Prop, (∀ σ' H', Mid σ' H' → N' σ' H') → ¬ c → u ⟨N', R, Bk, Ct⟩ σ H) :
    if decide c = true then t ⟨N, R, Bk, Ct⟩ σ H else u ⟨N, R, Bk, Ct⟩ σ H := g_ite (fun h => h1 N tail h) fun h => h2 N tail h
theorem g_iteNJ {c : Prop} [Decidable c] {N Bk Ct : L2.St → Hp → Prop} {R : VK} (Mid : L2.St → Hp → Prop) (tail : ∀ σ' H', Mid σ' H' → N σ' H')
    (h1 : ∀ N' : L2.St → Hp → Prop, (∀ σ' H', Mid σ' H' → N' σ' H') → ¬ c → t ⟨N', R, Bk, Ct⟩ σ H) (h2 : ∀ N' : L2.St → Hp → Prop, (∀ σ' H', Mid σ' H' → N' σ' H') → c → u ⟨N', R, Bk, Ct⟩ σ H) :
    if (!decide c) = true then t ⟨N, R, Bk, Ct⟩ σ H else u ⟨N, R, Bk, Ct⟩ σ H := g_iteN (fun h => h1 N tail h) fun h => h2 N tail h
theorem g_iteJB {b : Bool} {N Bk Ct : L2.St → Hp → Prop} {R : VK} (Mid : L2.St → Hp → Prop) (tail : ∀ σ' H', Mid σ' H' → N σ' H')
    (h1 : ∀ N' : L2.St → Hp → Prop, (∀ σ' H', Mid σ' H' → N' σ' H') → b = true → t ⟨N', R, Bk, Ct⟩ σ H) (h2 : ∀ N' : L2.St → Hp → Prop, (∀ σ' H', Mid σ' H' → N' σ' H') → b = false → u ⟨N', R, Bk, Ct⟩ σ H) :
    if b = true then t ⟨N, R, Bk, Ct⟩ σ H else u ⟨N, R, Bk, Ct⟩ σ H := by
  cases b with
  | true => rw [if_pos rfl]; exact h1 N tail rfl
  | false => rw [if_neg Bool.false_ne_true]; exact h2 N tail rfl
-- a subscript
theorem g_ixL {p : Addr} {xs : List V} {k : Int} (h : SqL K H p xs) (ha : atI xs k = some v) (q : Q v H) : rIxL K (.ref p) (.int k) H Q := ⟨p, xs, k, v, rfl, rfl, h, ha, q⟩
theorem g_setL {p : Addr} {xs : List V} {k : Int} {n : Nat} {Q : Hp → Prop} (h : H p = some (.lst xs)) (hn : ixN xs.length k = some n) (q : Q (upd H p (.lst (xs.set n v)))) : rSetL (.ref p) (.int k) v H Q := ⟨p, xs, k, n, rfl, rfl, h, hn, q⟩
theorem g_bits {to : TE} (q : to σ H fun x H1 => ∃ i, x = .int i ∧ Q (.int (Builtin.Int.intBits i : Nat)) H1) : tBits to σ H Q := q
theorem g_exint {a : Int} {P : Int → Prop} (h : P a) : ∃ i, V.int a = V.int i ∧ P i := ⟨a, rfl, h⟩
/-- a for's turns, the source known -/
def FW (g : TG) (tb : TS) (D : Ends) (J : It) (σ : L2.St) (H : Hp) : Prop := ∃ W : Nat → Nat → L2.St → Hp → Prop, (∃ m, W 0 m σ H) ∧ ∀ i m σ H, W i m σ H →
  (J.stop i H ∧ D.nx σ H) ∨ (J.go i H ∧ ∃ N : L2.St → Hp → Prop, (∀ σ' H', N σ' H' → ∃ m', m' < m ∧ W (i + 1) m' σ' H') ∧ ∀ x H', J.yld i H x H' → g x σ H' fun σ2 H2 => tb { D with nx := N, ct := N, bk := D.nx } σ2 H2)
theorem g_for {wi : TI} {g : TG} {tb : TS} (q : wi σ H fun J H1 => FW g tb D J σ H1) : tFor wi g tb D σ H := q
theorem g_iRng1 {ta : TA} {R : It → Hp → Prop} (q : ta σ H fun vs H1 => ∃ n : Int, vs = [.int n] ∧ -(2 ^ 62) ≤ n ∧ n < 2 ^ 62 ∧ R (Itr 0 n.toNat) H1) : iRng1 ta σ H R := q
theorem g_exR1 {n : Int} {R : Int → Prop} (h1 : -(2 ^ 62) ≤ n) (h2 : n < 2 ^ 62) (q : R n) : ∃ k : Int, [V.int n] = [V.int k] ∧ -(2 ^ 62) ≤ k ∧ k < 2 ^ 62 ∧ R k := ⟨n, rfl, h1, h2, q⟩
theorem g_iRng2 {ta : TA} {R : It → Hp → Prop} (q : ta σ H fun vs H1 => ∃ i j : Int, vs = [.int i, .int j] ∧ (-(2 ^ 62) ≤ i ∧ i < 2 ^ 62 ∧ -(2 ^ 62) ≤ j ∧ j < 2 ^ 62) ∧ R (Itr i (j - i).toNat) H1) : iRng2 ta σ H R := q
theorem g_exR2 {n m : Int} {R : Int → Int → Prop} (h : -(2 ^ 62) ≤ n ∧ n < 2 ^ 62 ∧ -(2 ^ 62) ≤ m ∧ m < 2 ^ 62) (q : R n m) : ∃ i j : Int, [V.int n, V.int m] = [V.int i, V.int j] ∧ (-(2 ^ 62) ≤ i ∧ i < 2 ^ 62 ∧ -(2 ^ 62) ≤ j ∧ j < 2 ^ 62) ∧ R i j := ⟨n, m, rfl, h, q⟩
theorem g_iList {tl : TE} {R : It → Hp → Prop} (q : tl σ H fun x H1 => ∃ a, x = .ref a ∧ (∃ xs, SqL K H1 a xs) ∧ R (Itl K a) H1) : iList K tl σ H R := q
theorem g_exL {a : Addr} {xs : List V} {R : Addr → Prop} (h : SqL K H a xs) (q : R a) : ∃ b, V.ref a = V.ref b ∧ (∃ xs, SqL K H b xs) ∧ R b := ⟨a, rfl, ⟨xs, h⟩, q⟩
theorem g_iTup {tl : TE} {R : It → Hp → Prop} (q : tl σ H fun x H1 => ∃ a, x = .ref a ∧ (∃ xs, SqT K H1 a xs) ∧ R (Itt K a) H1) : iTup K tl σ H R := q
theorem g_exT {a : Addr} {xs : List V} {R : Addr → Prop} (h : SqT K H a xs) (q : R a) : ∃ b, V.ref a = V.ref b ∧ (∃ xs, SqT K H b xs) ∧ R b := ⟨a, rfl, ⟨xs, h⟩, q⟩
theorem fw_range {lo : Int} {n : Nat} {g : TG} {tb : TS} (Pv : Nat → L2.St → Hp → Prop) (h0 : Pv 0 σ H)
    (hs : ∀ i σ H, i < n → Pv i σ H → g (.int (lo + (i : Int))) σ H fun σ2 H2 => tb { D with nx := Pv (i + 1), ct := Pv (i + 1), bk := D.nx } σ2 H2) (hd : ∀ σ H, Pv n σ H → D.nx σ H) : FW g tb D (Itr lo n) σ H := for_range Pv h0 hs hd
theorem fw_list {a : Addr} {xs : List V} {g : TG} {tb : TS} (Pv : Nat → L2.St → Hp → Prop) (h0 : Pv 0 σ H) (hl : ∀ i σ H, i ≤ xs.length → Pv i σ H → SqL K H a xs)
    (hs : ∀ i x σ H, xs[i]? = some x → Pv i σ H → g x σ H fun σ2 H2 => tb { D with nx := Pv (i + 1), ct := Pv (i + 1), bk := D.nx } σ2 H2) (hd : ∀ σ H, Pv xs.length σ H → D.nx σ H) : FW g tb D (Itl K a) σ H := for_list Pv h0 hl hs hd
theorem fw_tup {a : Addr} {xs : List V} {g : TG} {tb : TS} (Pv : Nat → L2.St → Hp → Prop) (h0 : Pv 0 σ H) (hl : ∀ i σ H, i ≤ xs.length → Pv i σ H → SqT K H a xs)
    (hs : ∀ i x σ H, xs[i]? = some x → Pv i σ H → g x σ H fun σ2 H2 => tb { D with nx := Pv (i + 1), ct := Pv (i + 1), bk := D.nx } σ2 H2) (hd : ∀ σ H, Pv xs.length σ H → D.nx σ H) : FW g tb D (Itt K a) σ H := for_tup Pv h0 hl hs hd
end
end Gx

namespace Gx
open PySem L2
/-- the built-in names that the text leaves alone -/
structure Bt (mg : Str → Option Value) : Prop where
  n_len : mg "len" = none
  n_abs : mg "abs" = none
  n_max : mg "max" = none
  n_min : mg "min" = none
  n_range : mg "range" = none
  n_sorted : mg "sorted" = none
  n_set : mg "set" = none
  n_list : mg "list" = none
  n_tuple : mg "tuple" = none
  n_dict : mg "dict" = none
  n_int : mg "int" = none
  n_str : mg "str" = none
  n_bool : mg "bool" = none
  n_all : mg "all" = none
  n_any : mg "any" = none
  n_sum : mg "sum" = none
  n_isinstance : mg "isinstance" = none
  n_repr : mg "repr" = none
  n_zip : mg "zip" = none
  n_enumerate : mg "enumerate" = none
/-- a def of the module, as it stands behind the top -/
structure Dn (K : PySem.W.Frag) (mg : Str → Option Value) (x : Str) (st : Stmt) (ps : List Str) (f : Addr) (fd : FuncData) : Prop where
  fn : Fun K x x st f fd
  mgf : mg x = some (.ref f)
  bd : Binds K fd ps []
section
variable {P : Program} {w : World} {K : PySem.W.Frag} {mg : Str → Option Value} {base : Heap}
theorem cal_of {x : Str} {st : Stmt} {ps : List Str} {f : Addr} {fd : FuncData} {k : Nat} {sp : Sp} (D : Dn K mg x st ps f fd) (F : FnOk P w K mg base CX0 k f fd ps sp) : C8.Cal P w K mg base k x sp [] :=
  ⟨f, fd, ps, [], F, D.mgf, D.fn.kp, D.bd, .nil⟩
end
/-! ### what a draw's def does to the list that it draws from -/
def spDip0 : Sp := fun vs H Q _ => ∃ (f : Addr) (x y z m : Int), vs = [.ref f, .int m] ∧ H f = some (three x y z) ∧ 0 ≤ x ∧ 0 < m ∧ m.natAbs < 2 ^ 1000 ∧
  ∀ r x' y' z' : Int, 0 ≤ r → r < m → 0 ≤ x' → Q (.int r) (upd H f (three x' y' z'))
/-- a number from 0 below m; all that was tracked stays -/
def spDip : Sp := fun vs H Q _ => ∃ (f : Addr) (m : Int), vs = [.ref f, .int m] ∧ H f = some (FlowO f) ∧ 0 < m ∧ m.natAbs < 2 ^ 1000 ∧
  ∀ (r : Int) (H' : Hp), 0 ≤ r → r < m → Same H H' → Q (.int r) H'
theorem dip_view {P : Program} {w : World} {K : PySem.W.Frag} {mg : Str → Option Value} {base : Heap} {k : Nat} {fa : Addr} {fd : FuncData} {ps : List Str} (F : FnOk P w K mg base CX0 k fa fd ps spDip0) : FnOk P w K mg base CX0 k fa fd ps spDip := by
  refine flow_view F fun vs H Q E h => ?_
  obtain ⟨f, m, rfl, hf, h0, hm, k⟩ := h
  refine ⟨f, hf, fun x y z hx => ⟨f, x, y, z, m, rfl, upd_same, hx, h0, hm, fun r x' y' z' h1 h2 h3 => ⟨⟨x', y', z', h3, upd_same⟩, k r _ h1 h2 fun b o e => ?_⟩⟩⟩
  by_cases hb : b = f
  · subst hb
    rw [hf] at e
    cases e
    exact upd_same
  · rw [upd_ne hb, upd_ne hb, upd_ne hb]
    exact e
/-- a def that makes such a list -/
theorem flow_made {P : Program} {w : World} {K : PySem.W.Frag} {mg : Str → Option Value} {base : Heap} {k : Nat} {fa : Addr} {fd : FuncData} {ps : List Str} {sp sp' : Sp} (F : FnOk P w K mg base CX0 k fa fd ps sp)
    (hs : ∀ vs H Q E, sp' vs H Q E → sp vs H (fun v H' => ∃ f x y z, v = .ref f ∧ 0 ≤ x ∧ H' f = some (three x y z) ∧ Q v (upd H' f (FlowO f))) E) : FnOk P w K mg base CX0 k fa fd ps sp' := by
  refine ⟨fun vs H Q E q => F.len _ _ _ _ (hs vs H Q E q), fun A outer s H args us vs Q E hr he hb hv q => ?_⟩
  refine codeAny_mono (F.run A outer s _ args us vs _ E hr he hb hv (hs vs H Q E q)) fun r s' hq => ?_
  cases r with
  | error e => exact hq.elim
  | ok fl =>
    cases fl with
    | ret u =>
      obtain ⟨v, H', os, bare, un, hok, rv, f, x, y, z, ev, hx, e', q'⟩ := hq
      have there : ∃ o, s'.heap.get? f = some o := by
        have q : ObjOk P w H' s'.heap f (three x y z) := hok f _ e'
        obtain ⟨_, its, n, r, e⟩ := q
        exact ⟨_, e⟩
      exact ⟨v, upd H' f (FlowO f), os, bare, un.trans (Un.write (by rw [e']; trivial) (Or.inl rfl) (fun _ _ _ q => q) there), flow_close hok e' hx, rv, q'⟩
    | next => exact hq.elim
    | brk => exact hq.elim
    | cont => exact hq.elim
end Gx

namespace Gx
open PySem L2
/-! ### heaps that keep what they had -/
theorem same_get {H H' : Hp} {a : Addr} {o : HO} (s : Same H H') (h : H a = some o) : H' a = some o := s a o h
theorem same_new {H : Hp} {p : Addr} {o : HO} (h : H p = none) : Same H (upd H p o) := fun a u e => by
  rw [upd_ne (ne_of_none e h)]
  exact e
theorem same_mut {H H' : Hp} {p : Addr} {o : HO} (s : Same H H') (h : H p = none) : Same H (upd H' p o) := fun a u ha => by
  rw [upd_ne (ne_of_none ha h)]
  exact s a u ha
theorem same_sq {K : PySem.W.Frag} {H H' : Hp} {a : Addr} {xs : List V} (e : Same H H') (h : SqL K H a xs) : SqL K H' a xs := e.seq h
theorem same_rd {H H' : Hp} {a : Addr} {u : HO} (e : Same H H') (h : Rd H a u) : Rd H' a u := by
  rcases h with h | ⟨o, h⟩
  · exact Or.inl (e a _ h)
  · exact Or.inr ⟨o, e a _ h⟩
theorem same_sqT {K : PySem.W.Frag} {H H' : Hp} {a : Addr} {xs : List V} (e : Same H H') (h : SqT K H a xs) : SqT K H' a xs := by
  rcases h with h | h
  · exact Or.inl (same_rd e h)
  · exact Or.inr h
theorem same_free {H H' : Hp} {p : Addr} (e : Same H H') (h : H' p = none) : H p = none := e.free h
theorem big_le {n : Nat} (h : n ≤ 100000) : n ≤ sizeLine := Nat.le_trans h (by decide)
theorem big_lt {n : Nat} (h : n < 100000) : n < sizeLine := Nat.lt_of_lt_of_le h (by decide)
section
variable {σ : L2.St} {H H0 : Hp} {Q : VK} {K : PySem.W.Frag} {v x y : V} {E : XK}
/-! ### displays -/
def MkL (xs : List V) (H : Hp) (Q : VK) : Prop := xs.length ≤ sizeLine ∧ ∀ p, H p = none → Q (.ref p) (upd H p (.lst xs))
def MkT (xs : List V) (H : Hp) (Q : VK) : Prop := xs.length ≤ sizeLine ∧ ∀ p, H p = none → Q (.ref p) (upd H p (.tup xs))
theorem g_lst {ts : TA} (q : ts σ H fun xs H1 => MkL xs H1 Q) : tLst ts σ H Q := q
theorem g_tup {ts : TA} (q : ts σ H fun xs H1 => MkT xs H1 Q) : tTup ts σ H Q := q
theorem g_mkL {xs : List V} (hl : xs.length ≤ 100000) (k : ∀ p H', H p = none → Same H H' → H' p = some (.lst xs) → Q (.ref p) H') : MkL xs H Q :=
  ⟨big_le hl, fun p hp => k p _ hp (same_new hp) upd_same⟩
theorem g_mkT {xs : List V} (hl : xs.length ≤ 100000) (k : ∀ p H', H p = none → Same H H' → H' p = some (.tup xs) → Q (.ref p) H') : MkT xs H Q :=
  ⟨big_le hl, fun p hp => k p _ hp (same_new hp) upd_same⟩
/-! ### an item of a written list at a drawn place: what all of them have -/
theorem atI_in {xs : List V} {i : Int} (h0 : 0 ≤ i) (h1 : i < xs.length) : ∃ v, atI xs i = some v ∧ v ∈ xs := by
  have hj : i.toNat < xs.length := by omega
  refine ⟨xs[i.toNat], ?_, List.getElem_mem hj⟩
  have e : ((i.toNat : Nat) : Int) = i := by omega
  have z := atI_nat (List.getElem?_eq_getElem hj)
  rw [e] at z
  exact z
theorem g_ixP {p : Addr} {xs : List V} {i : Int} (P : V → Prop) (h : H p = some (.lst xs)) (h0 : 0 ≤ i) (h1 : i < xs.length) (all : ∀ x ∈ xs, P x) (q : ∀ v, P v → Q v H) : rIxL K (.ref p) (.int i) H Q := by
  obtain ⟨v, e, m⟩ := atI_in h0 h1
  exact ⟨p, xs, i, v, rfl, rfl, SqL.of h, e, q v (all v m)⟩
/-- .. of ints -/
theorem g_ixI {p : Addr} {xs : List V} {i : Int} (P : Int → Prop) (h : H p = some (.lst xs)) (h0 : 0 ≤ i) (h1 : i < xs.length) (all : ∀ x ∈ xs, ∃ n, x = .int n ∧ P n) (q : ∀ n, P n → Q (.int n) H) : rIxL K (.ref p) (.int i) H Q :=
  g_ixP _ h h0 h1 all fun v ⟨n, e, pn⟩ => by subst e; exact q n pn
theorem all_nil {P : V → Prop} : ∀ x ∈ ([] : List V), P x := fun _ h => nomatch h
theorem all_cons {P : V → Prop} {x : V} {xs : List V} (h : P x) (r : ∀ y ∈ xs, P y) : ∀ y ∈ x :: xs, P y := fun y hy => by
  rcases List.mem_cons.mp hy with rfl | hy
  · exact h
  · exact r y hy
/-- an int of a list of ints, at any place of it -/
theorem g_ixN {p : Addr} {ns : List Int} {i : Int} (h : SqL K H p (ns.map V.int)) (h0 : 0 ≤ i) (h1 : i < ns.length) (q : ∀ n, n ∈ ns → ns[i.toNat]? = some n → Q (.int n) H) : rIxL K (.ref p) (.int i) H Q := by
  have hj : i.toNat < ns.length := by omega
  have e : ((i.toNat : Nat) : Int) = i := by omega
  have z : (ns.map V.int)[i.toNat]? = some (.int ns[i.toNat]) := by rw [List.getElem?_map, List.getElem?_eq_getElem hj] <;> rfl
  have z2 := atI_nat z
  rw [e] at z2
  exact ⟨p, _, i, _, rfl, rfl, h, z2, q _ (List.getElem_mem hj) (List.getElem?_eq_getElem hj)⟩
/-! ### append, and calls of built-ins -/
theorem g_BM {T : String} {r : V → List V → Hp → VK → Prop} {to : TE} {t : TA} (q : to σ H fun x H1 => tyV K T x H1 ∧ t σ H1 fun xs H2 => r x xs H2 Q) : tBM K T r to t σ H Q := q
theorem g_BM0 {T : String} {r : V → List V → Hp → VK → Prop} {to : TE} (q : to σ H fun x H1 => tyV K T x H1 ∧ r x [] H1 Q) : tBM0 K T r to σ H Q := q
theorem ty_list {p : Addr} {xs : List V} (h : H p = some (.lst xs)) : tyV K "list" (.ref p) H := Or.inl ⟨rfl, xs, SqL.of h⟩
theorem g_tyL {p : Addr} {xs : List V} {P : Prop} (h : H p = some (.lst xs)) (q : P) : tyV K "list" (.ref p) H ∧ P := ⟨ty_list h, q⟩
theorem g_app {p : Addr} {xs : List V} (s : Same H0 H) (n : H0 p = none) (h : H p = some (.lst xs)) (hl : xs.length < 100000) (k : ∀ H', Same H0 H' → H' p = some (.lst (xs ++ [y])) → Q .non H') : rAppend (.ref p) [y] H Q :=
  ⟨p, xs, y, rfl, rfl, h, big_lt hl, k _ (same_mut s n) upd_same⟩
def rLenQ (K : PySem.W.Frag) : List V → Hp → VK → Prop := fun xs H Q => ∃ p ys, xs = [.ref p] ∧ (SqL K H p ys ∨ SqT K H p ys) ∧ Q (.int ys.length) H
def rAbsQ : List V → Hp → VK → Prop := fun xs H Q => ∃ i, xs = [.int i] ∧ Q (.int (if i < 0 then -i else i)) H
def rMaxQ : List V → Hp → VK → Prop := fun xs H Q => ∃ i j, xs = [.int i, .int j] ∧ Q (.int (if j > i then j else i)) H
def rMinQ : List V → Hp → VK → Prop := fun xs H Q => ∃ i j, xs = [.int i, .int j] ∧ Q (.int (if j < i then j else i)) H
def rIntQ : List V → Hp → VK → Prop := fun xs H Q => (∃ i, xs = [.int i] ∧ Q (.int i) H) ∨ ∃ k, xs = [.bl k] ∧ Q (.int (if k then 1 else 0)) H
def rListQ (K : PySem.W.Frag) : List V → Hp → VK → Prop := fun xs H Q => ∃ p ys, xs = [.ref p] ∧ (SqL K H p ys ∨ SqT K H p ys) ∧ ∀ l, H l = none → Q (.ref l) (upd H l (.lst ys))
theorem cr_lenQ {X : Cx} : CallR X (.builtin "len") (rLenQ X.K) := call_len_seq
theorem cr_absQ {X : Cx} : CallR X (.builtin "abs") rAbsQ := call_abs
theorem cr_maxQ {X : Cx} (hc : X.calm = true) : CallR X (.builtin "max") rMaxQ := call_max2 hc
theorem cr_minQ {X : Cx} (hc : X.calm = true) : CallR X (.builtin "min") rMinQ := call_min2 hc
theorem cr_intQ {X : Cx} : CallR X (.type "int") rIntQ := call_int1
theorem cr_listQ {X : Cx} : CallR X (.type "list") (rListQ X.K) := call_list_of
theorem g_len {p : Addr} {xs : List V} (h : SqL K H p xs) (q : Q (.int (xs.length : Int)) H) : rLenQ K [V.ref p] H Q := ⟨p, xs, rfl, .inl h, q⟩
theorem g_lenT {p : Addr} {xs : List V} (h : SqT K H p xs) (q : Q (.int (xs.length : Int)) H) : rLenQ K [V.ref p] H Q := ⟨p, xs, rfl, .inr h, q⟩
theorem g_min2 {a b : Int} (q : ∀ c, c ≤ a → c ≤ b → (c = a ∨ c = b) → Q (.int c) H) : rMinQ [V.int a, V.int b] H Q :=
  ⟨a, b, rfl, by split <;> exact q _ (by omega) (by omega) (by omega)⟩
theorem g_max2 {a b : Int} (q : ∀ c, a ≤ c → b ≤ c → (c = a ∨ c = b) → Q (.int c) H) : rMaxQ [V.int a, V.int b] H Q :=
  ⟨a, b, rfl, by split <;> exact q _ (by omega) (by omega) (by omega)⟩
theorem g_abs {a : Int} (q : ∀ c, 0 ≤ c → (c = a ∨ c = -a) → Q (.int c) H) : rAbsQ [V.int a] H Q :=
  ⟨a, rfl, by split <;> exact q _ (by omega) (by omega)⟩
theorem g_intB {b : Bool} (q : Q (.int (if b = true then 1 else 0)) H) : rIntQ [V.bl b] H Q := .inr ⟨b, rfl, q⟩
theorem g_listof {p : Addr} {xs : List V} (h : SqL K H p xs) (k : ∀ l H', H l = none → Same H H' → H' l = some (.lst xs) → Q (.ref l) H') : rListQ K [V.ref p] H Q :=
  ⟨p, xs, rfl, .inl h, fun l hl => k l _ hl (same_new hl) upd_same⟩
theorem bt_len : bootBuiltins "len" = some (.builtin "len") := by decide +kernel
theorem bt_abs : bootBuiltins "abs" = some (.builtin "abs") := by decide +kernel
theorem bt_max : bootBuiltins "max" = some (.builtin "max") := by decide +kernel
theorem bt_min : bootBuiltins "min" = some (.builtin "min") := by decide +kernel
theorem bt_sorted : bootBuiltins "sorted" = some (.builtin "sorted") := by decide +kernel
theorem bt_all : bootBuiltins "all" = some (.builtin "all") := by decide +kernel
theorem bt_any : bootBuiltins "any" = some (.builtin "any") := by decide +kernel
theorem bt_sum : bootBuiltins "sum" = some (.builtin "sum") := by decide +kernel
theorem bt_repr : bootBuiltins "repr" = some (.builtin "repr") := by decide +kernel
theorem bt_isinstance : bootBuiltins "isinstance" = some (.builtin "isinstance") := by decide +kernel
theorem bt_int : bootBuiltins "int" = some (.type "int") := by decide +kernel
theorem bt_bool : bootBuiltins "bool" = some (.type "bool") := by decide +kernel
theorem bt_str : bootBuiltins "str" = some (.type "str") := by decide +kernel
theorem bt_list : bootBuiltins "list" = some (.type "list") := by decide +kernel
theorem bt_tuple : bootBuiltins "tuple" = some (.type "tuple") := by decide +kernel
theorem bt_dict : bootBuiltins "dict" = some (.type "dict") := by decide +kernel
theorem bt_set : bootBuiltins "set" = some (.type "set") := by decide +kernel
/-! ### a power, written out -/
theorem g_pow {a b c : Int} (hc : CPow a b) (e : a ^ b.toNat = c) (q : Q (.int c) H) : rI CPow (fun i j => .int (i ^ j.toNat)) (.int a) (.int b) H Q := ⟨a, b, rfl, rfl, hc, by show Q (.int (a ^ b.toNat)) H; rw [e]; exact q⟩
/-! ### calls of defs -/
theorem g_call {sp : Sp} {dvs : List V} {t : TA} (q : t σ H fun vs H1 => sp (vs ++ dvs) H1 Q E) : tCall sp dvs E t σ H Q := q
theorem g_dip {f : Addr} {m : Int} (hf : H f = some (FlowO f)) (hm : 0 < m) (hb : m.natAbs < 2 ^ 1000) (k : ∀ r H', 0 ≤ r → r < m → Same H H' → Q (.int r) H') : spDip ([V.ref f, V.int m] ++ []) H Q E :=
  ⟨f, m, rfl, hf, hm, hb, fun r H' h0 h1 s => k r H' h0 h1 s⟩
end
/-- below ten thousand million .. (a hundred signs) a number has fewer than a thousand bits -/
theorem small_bits {m : Int} (h : -10000000000000000000000000000000000000000000000000000000000000000000000000000000 ≤ m) (h2 : m ≤ 10000000000000000000000000000000000000000000000000000000000000000000000000000000) : m.natAbs < 2 ^ 1000 := by
  have e : (10000000000000000000000000000000000000000000000000000000000000000000000000000000 : Nat) < 2 ^ 1000 := by decide
  exact Nat.lt_of_le_of_lt (show m.natAbs ≤ 10000000000000000000000000000000000000000000000000000000000000000000000000000000 by omega) e
end Gx

/-! Defs that call repr: they run where no repr is under way (guards), so their promise is kept there -/
namespace Gx
open PySem L2 PySem.Spec PyProof.Rows
structure FnG (P : Program) (w : World) (K : PySem.W.Frag) (mg : Str → Option Value) (base : Heap) (k : Nat) (f : Addr) (fd : FuncData) (ps : List Str) (sp : Sp) : Prop where
  size : ∀ vs H Q E, sp vs H Q E → vs.length = ps.length
  goes : ∀ (A : Around) (outer : List Env) (s : Shared) (H : Hp) (args : Args) (us : List Value) (vs : List V) (Q : VK) (E : XK), A.guards = some [] → Room k A → Env0 P w K mg base A outer s H →
    BindsTo s fd args (ps.zip us) → Vals vs us → sp vs H Q E → codeAny (model P w) A (.call (.ref f) args) (CR CX0 outer P w H s Q E) s
section
variable {P : Program} {w : World} {K : PySem.W.Frag} {mg : Str → Option Value} {base : Heap}
/-- such a def, by its body -/
theorem fnG_of {x qual : Str} {st : Stmt} {f : Addr} {fd : FuncData} {N ps : List Str} {k : Nat} {sp : Sp} (F : Fun K x qual st f fd) (S : FnScope N ps (defScope st)) (size : ∀ vs H Q E, sp vs H Q E → vs.length = ps.length)
    (body : ∀ (cdv : Value) (A : Around) (outer : List Env) (s : Shared) (H : Hp) (vs : List V) (Q : VK) (E : XK), A.guards = some [] → Room k (A.deeper (envOfC qual (defScope st) s.heap.objs.size f cdv)) → sp vs H Q E →
      ∃ t, PSs (cxOf CX0 P w K mg base N qual (defScope st) f cdv A outer s H E).nox (defBody st) t ∧ t { nx := fun _ H' => Q .non H', rt := Q } (start N vs) H) : FnG P w K mg base (k + 1) f fd ps sp := by
  obtain ⟨oc, od, kV, doc, pm, an, cdv, ct, osl, rfl, at_f, code⟩ := F.ex
  refine ⟨size, fun A outer s H args us vs Q E gd room e0 bnd rel hsp => ?_⟩
  have inK : K.In s.heap := e0.mod.kin.keeps fun b o e => (e0.bs b o e).1
  have named : ∀ y ∈ ps.zip us, (defScope st).names.lookup y.1 = some .local ∨ ((defScope st).names.lookup y.1 = some .cell ∧ ((cellsFrom (s.heap.objs.size + 1) (defScope st).names []).lookup y.1).isSome = true) := fun y hy =>
    (S.par y.1 (List.of_mem_zip hy).1).imp id fun q => ⟨q, PySem.W.cellsFrom_some _ _ _ (.inl q)⟩
  refine codeAny_call_function room.depth (inK _ _ at_f) rfl S.co S.gen rfl (PySem.W.codeRec_of inK code) (bnd _ _ _ _ (wpAny_newFunctionEnv_cells S.kind named fun env eqn s1 inc => ?_))
  subst eqn
  refine ⟨(e0.mod.nolimit.keeps fun b o e => (e0.bs b o e).1).keeps inc.toInCall.keep, codeAny_func ?_⟩
  obtain ⟨t, der, rd⟩ := body cdv A outer s H vs Q E gd (room.deeper _) hsp
  have I1 := inv_start (CX := CX0) (E := E) S room.hd e0 (size _ _ _ _ hsp) rel inc
  refine wpAny_mono (der.nox.run [] s1 (start N vs) H _ I1 rd) (fun fl s2 done => ?_) fun _ _ z => z
  cases fl with
  | ret u => obtain ⟨v, σ2, H2, J, rv, q⟩ := done; exact ⟨v, H2, J.os, J.bare, J.base, J.hok, rv, q⟩
  | next => obtain ⟨σ2, H2, J, q⟩ := done; exact ⟨V.non, H2, J.os, J.bare, J.base, J.hok, rfl, q⟩
  | brk => obtain ⟨_, _, _, no⟩ := done; exact no.elim
  | cont => obtain ⟨_, _, _, no⟩ := done; exact no.elim
/-- .. by its name -/
structure CalG (P : Program) (w : World) (K : PySem.W.Frag) (mg : Str → Option Value) (base : Heap) (k : Nat) (x : Str) (sp : Sp) : Prop where
  at_ : ∃ (f : Addr) (fd : FuncData) (ps : List Str), FnG P w K mg base k f fd ps sp ∧ mg x = some (.ref f) ∧ PySem.W.keepIn K (.ref f) = true ∧ Binds K fd ps []
theorem calG_of {x : Str} {st : Stmt} {ps : List Str} {f : Addr} {fd : FuncData} {k : Nat} {sp : Sp} (D : Dn K mg x st ps f fd) (F : FnG P w K mg base k f fd ps sp) : CalG P w K mg base k x sp :=
  ⟨f, fd, ps, F, D.mgf, D.fn.kp, D.bd⟩
end
section
variable {X : Cx} {k j : Nat} {x : Str} {sp : Sp} {e : Expr} {es : List Expr} {t : TA} {p pos : Pos}
theorem pe_cG (c : CalG X.prog X.w X.K X.mg X.base k x sp) (gd : X.A.guards = some []) (hr : Room j X.A) (hk : k ≤ j) (hg : Gl X x) (ha : PA X (e :: es) t)
    (hdb : (x == ("__debug__" : Str)) = false := by decide) (he : starEach (e :: es) X.env = (false, eval e X.env) :: starEach es X.env := by rfl) (hpl : (backTo pos (starEach es X.env)).any (·.1) = false := by rfl) :
    PE X (.Call (.Name x p) (e :: es) [] pos) (tCall sp [] (fun _ _ _ => False) t) := by
  obtain ⟨f, fd, ps, F, named, kept, bnd⟩ := c.at_
  refine ⟨fun pins s σ H Q I h => wpAny_Call_Name_kw (ld_glob I hg named ?_ hdb)⟩
  refine PySem.W.callWith_K (h₀ := X.base) I.ok.mod.kin kept (thn (ha.run pos pins s σ H _ I h) fun us s1 got => ?_) he hpl
  obtain ⟨vs, H1, I1, rel, q⟩ := got
  rw [List.append_nil] at q
  refine ⟨I1.kIn, wpAny_call (codeAny_mono (F.goes X.A X.stack s1 H1 ⟨us, []⟩ us vs Q _ gd (hr.mono hk) I1.env0 ?_ rel q) fun r s2 done => ?_)⟩
  · have b := bnd s1 us I1.kIn (by rw [List.append_nil, ← rel.length]; exact F.size _ _ _ _ q)
    rw [List.append_nil] at b
    exact b
  · cases r with
    | error er => exact done.elim
    | ok fl =>
      cases fl with
      | ret u => exact I1.after done
      | next => exact done.elim
      | brk => exact done.elim
      | cont => exact done.elim
/-- repr of data at any depth -/
def rReprQ (K : PySem.W.Frag) : List V → Hp → VK → Prop := fun xs H Q => ∃ a d, xs = [V.ref a] ∧ Dp K H (.ref a) d ∧ SeqAt.shaped d = true ∧ d.showable = true ∧ d.shown.length ≤ sizeLine ∧ Q (.str d.shown) H
theorem cr_repr (gd : X.A.guards = some []) (hr : Room j X.A) : CallR X (.builtin "repr") (rReprQ X.K) := by
  intro pins s σ H xs us Q I rel h
  obtain ⟨a, d, rfl, dp, sh, sw, sz, q⟩ := h
  cases rel with
  | cons r1 r2 =>
    cases r2
    obtain rfl := r1
    obtain ⟨as, rd⟩ := Dp.reads I d _ _ dp rfl
    have u := hr.units
    have dd := SeqAt.depth_of_shaped sh
    refine repr_of_reads' rd sw (PyData.noDict_hsm (PyData.hasDict_of_canLay d (SeqAt.canLay_of_shaped sh))) gd (by have := hr.un; omega) (fun _ _ z => z) (fun h' u tk kept => ?_) sz
    exact ⟨.str d.shown, H, I.kept kept, ⟨u, rfl⟩, q⟩
end
/-! ### the law's own call -/
section
theorem law_callG {P : Program} {w : World} {K : PySem.W.Frag} {mg mb : Str → Option Value} {k : Nat} {fa a : Addr} {fd : FuncData} {x : Str} {sp : Sp} {s1 : Shared} {vs : List Value} {ns : List Int}
    (inK : K.In s1.heap) (gn : s1.heap.Ns mainGlobals mg) (bn : s1.heap.Ns builtinsNs mb) (bb : ∀ x : Str, x ≠ "__name__" → mb x = bootBuiltins x) (lim : s1.heap.NoLimit) (gens : s1.gens = #[])
    (la : s1.heap.get? a = some { cls := .type "list", data := .seq vs.toArray }) (li : IntsAre vs ns) (ll : ns.length ≤ sizeLine) (room : Room k callerA)
    (F : ∀ base : Heap, K.In base → base.Ns mainGlobals mg → FnG P w K mg base k fa fd [x] sp) (bnd : ∀ (s : Shared) (u : Value), BindsTo s fd ⟨[u], []⟩ [(x, u)])
    (goal : ∀ H : Hp, SqL K H a (ns.map V.int) → sp [.ref a] H (fun v _ => v = .bl true) fun _ _ _ => False) :
    codeAny (model P w) callerA (.call (.ref fa) ⟨[.ref a], []⟩) (fun r s' => r = .ok (.ret (.bool true)) ∧ OldK s1.heap s'.heap ∧ s'.os = s1.os ∧ AllBare s'.gens) s1 := by
  have rel := vals_ints li
  have key : ∀ H : Hp, Only H → SqL K H a (ns.map V.int) → HOk P w H s1.heap → (∀ b u, H b = some u → b = a ∧ K.lookup a = none) →
      codeAny (model P w) callerA (.call (.ref fa) ⟨[.ref a], []⟩) (fun r s' => r = .ok (.ret (.bool true)) ∧ OldK s1.heap s'.heap ∧ s'.os = s1.os ∧ AllBare s'.gens) s1 := by
    intro H only sq hok at_a
    have nd : ∀ {b : Addr} {o : Obj} {es : Array DictEntry} {ep : Nat}, s1.heap.get? b = some o → o.data = .dict es ep → H b = none := fun {b o es ep} e d => by
      cases q : H b with
      | none => rfl
      | some u =>
        obtain ⟨rfl, _⟩ := at_a b u q
        rw [la] at e
        obtain rfl := Option.some.inj e
        exact (show False by cases (show Data.seq vs.toArray _ = Data.dict es ep from d)).elim
    have hid : ∀ {b : Addr} {m : Str → Option Value}, s1.heap.Ns b m → (hidT s1.heap H).Ns b m := fun {b m} ⟨o, es, ep, e, d, r⟩ => ⟨o, es, ep, hidT_get e (nd e d), d, r⟩
    have inB : K.In (hidT s1.heap H) := fun b o e => hidT_get (inK b o e) (by
      cases q : H b with
      | none => rfl
      | some u =>
        obtain ⟨rfl, no⟩ := at_a b u q
        rw [no] at e
        cases e)
    have md : Mod K mg (hidT s1.heap H) := ⟨inB, hid gn, ⟨mb, hid bn, bb⟩, (by obtain ⟨mc, h1, h2⟩ := lim; exact ⟨mc, hid h1, h2⟩)⟩
    have st : Env0 P w K mg (hidT s1.heap H) callerA [] s1 H := ⟨rfl, md, fun b o e => of_hidT e, Nat.le_of_eq (hidT_size _ _), trivial, (fun b hb => nomatch hb), hok, .of_eq gens⟩
    refine codeAny_mono ((F _ inB (hid gn)).goes callerA [] s1 H ⟨[.ref a], []⟩ [.ref a] [.ref a] _ _ rfl room st (bnd s1 (.ref a)) (.cons rfl .nil) (goal H sq)) fun r s2 done => ?_
    cases r with
    | error e => exact done.elim
    | ok fl =>
      cases fl with
      | next => exact done.elim
      | brk => exact done.elim
      | cont => exact done.elim
      | ret u =>
        obtain ⟨v, H2, os, bare, un, hok2, rv, q⟩ := done
        obtain rfl : v = .bl true := q
        obtain rfl : u = Value.bool true := rv
        refine ⟨rfl, OldK.of_keep fun b o e => ?_, os, bare⟩
        cases q : H b with
        | none => exact un.keep b o e q (fun z => nomatch z) (fun z => nomatch z)
        | some u =>
          rcases only b with z | ⟨ob, xs, z⟩
          · exact absurd (q.symm.trans z) (by simp)
          · have e1 := (hok b _ z).1
            have e2 := (hok2 b _ (un.frzs b ob _ z)).1
            obtain rfl := Option.some.inj (e.symm.trans e1)
            exact e2
  cases hk : K.lookup a with
  | some o =>
    have e := (inK a o hk).symm.trans la
    obtain rfl := Option.some.inj e
    exact key (fun _ => none) (fun _ => .inl rfl) (.inr ⟨_, vs.toArray, _, hk, rfl, rfl, rfl, by rw [List.size_toArray, li.length]; exact ll, by simpa using rel⟩) (fun b u z => by cases (show (none : Option HO) = some u from z)) fun b u z => by cases (show (none : Option HO) = some u from z)
  | none =>
    have one : ∀ (b : Addr) (u : HO), (if b = a then some (HO.frz { cls := .type "list", data := .seq vs.toArray } (.lst (ns.map V.int))) else none) = some u → b = a ∧ u = HO.frz { cls := .type "list", data := .seq vs.toArray } (.lst (ns.map V.int)) := fun b u z => by
      split at z
      · exact ⟨by assumption, (Option.some.inj z).symm⟩
      · cases z
    refine key (fun b => if b = a then some (.frz { cls := .type "list", data := .seq vs.toArray } (.lst (ns.map V.int))) else none) (fun b => ?_) (.inl (.inr ⟨{ cls := .type "list", data := .seq vs.toArray }, if_pos rfl⟩)) (fun b u z => ?_) fun b u z => ⟨(one b u z).1, hk⟩
    · by_cases hb : b = a
      · exact .inr ⟨_, _, if_pos hb⟩
      · exact .inl (if_neg hb)
    · obtain ⟨rfl, rfl⟩ := one b u z
      exact ⟨la, by rw [List.length_map]; exact ll, vs, _, rel, la⟩
theorem walkG {l : PySem.W.OpenLaw} {n k : Nat} {q : Program} {loose : List Str} {XP : (Str → Option Value) → Heap → Prop} {YP : World → Heap → Prop} {d : DefRec} {K : Params → PySem.W.Frag} {sp : PySem.W.Frag → Sp} {x : Str}
    (hn : l.most = some n) (hn2 : n ≤ sizeLine) (hdf : d.params.defaults = []) (hr : Room k callerA) (hY : ∀ (w : World) (h : Heap), YP w h → (K w.params).In h)
    (F : ∀ (w : World) (mg : Str → Option Value) (fa : Addr) (h : Heap), (K w.params).In h → h.Ns mainGlobals mg → mg d.name = some (.ref fa) →
      ∃ fd : FuncData, (∀ (s : Shared) (u : Value), BindsTo s fd ⟨[u], []⟩ [(x, u)]) ∧ ∀ base : Heap, (K w.params).In base → base.Ns mainGlobals mg → FnG l.prog w (K w.params) mg base k fa fd [x] (sp (K w.params)))
    (hsp : ∀ (K : PySem.W.Frag) (H : Hp) (a : Addr) (ns : List Int), ns.length ≤ n → SqL K H a (ns.map V.int) → sp K [.ref a] H (fun v _ => v = .bl true) fun _ _ _ => False) :
    PySem.W.WalkO q loose XP YP l.row.toRowW d [] (fun f vs => PySem.call f vs) := by
  refine Att.attach_call hn hdf fun w s₀ s1 mg mb fa o pm cd doc a vs ns G Y ho hd hcd named hobj hints few hg => ?_
  have inK := hY w _ Y
  obtain ⟨fd, bnd, mk⟩ := F w mg fa _ inK G.T.g named
  exact law_callG inK G.T.g G.T.b G.T.builtins G.T.nolimit hg hobj hints (Nat.le_trans few hn2) hr mk bnd fun H sq => hsp (K w.params) H a ns few sq
end
end Gx

set_option exponentiation.threshold 5000
/-! Data: what two of them have in common, how long their texts are -/
namespace Gx
open PySem L2
mutual
/-- no truth value, no dict -/
def bare : PyData → Bool
  | .none | .int _ | .str _ => true
  | .bool _ | .dict _ => false
  | .list xs | .tuple xs => bareAll xs
def bareAll : List PyData → Bool
  | [] => true
  | x :: xs => bare x && bareAll xs
end
theorem bareAll_iff : ∀ {xs : List PyData}, bareAll xs = true ↔ ∀ x ∈ xs, bare x = true
  | [] => by simp [bareAll]
  | x :: xs => by simp [bareAll, bareAll_iff (xs := xs)]
mutual
theorem eqv_is : ∀ d e : PyData, bare d = true → bare e = true → (PyData.eqv d e = true ↔ d = e)
  | .none, .none, _, _ => by simp [PyData.eqv]
  | .none, .int _, _, _ => by simp [PyData.eqv]
  | .none, .str _, _, _ => by simp [PyData.eqv]
  | .none, .list _, _, _ => by simp [PyData.eqv]
  | .none, .tuple _, _, _ => by simp [PyData.eqv]
  | .int _, .none, _, _ => by simp [PyData.eqv]
  | .int i, .int j, _, _ => by simp [PyData.eqv]
  | .int _, .str _, _, _ => by simp [PyData.eqv]
  | .int _, .list _, _, _ => by simp [PyData.eqv]
  | .int _, .tuple _, _, _ => by simp [PyData.eqv]
  | .str _, .none, _, _ => by simp [PyData.eqv]
  | .str _, .int _, _, _ => by simp [PyData.eqv]
  | .str x, .str y, _, _ => by simp [PyData.eqv]
  | .str _, .list _, _, _ => by simp [PyData.eqv]
  | .str _, .tuple _, _, _ => by simp [PyData.eqv]
  | .list _, .none, _, _ => by simp [PyData.eqv]
  | .list _, .int _, _, _ => by simp [PyData.eqv]
  | .list _, .str _, _, _ => by simp [PyData.eqv]
  | .list xs, .list ys, h1, h2 => by
    simp only [PyData.eqv, PyData.list.injEq]
    exact eqv_isAll xs ys (by simpa [bare] using h1) (by simpa [bare] using h2)
  | .list _, .tuple _, _, _ => by simp [PyData.eqv]
  | .tuple _, .none, _, _ => by simp [PyData.eqv]
  | .tuple _, .int _, _, _ => by simp [PyData.eqv]
  | .tuple _, .str _, _, _ => by simp [PyData.eqv]
  | .tuple _, .list _, _, _ => by simp [PyData.eqv]
  | .tuple xs, .tuple ys, h1, h2 => by
    simp only [PyData.eqv, PyData.tuple.injEq]
    exact eqv_isAll xs ys (by simpa [bare] using h1) (by simpa [bare] using h2)
  | .bool _, _, h, _ => by simp [bare] at h
  | .dict _, _, h, _ => by simp [bare] at h
  | _, .bool _, _, h => by simp [bare] at h
  | _, .dict _, _, h => by simp [bare] at h
theorem eqv_isAll : ∀ xs ys : List PyData, bareAll xs = true → bareAll ys = true → (PyData.eqvAll xs ys = true ↔ xs = ys)
  | [], [], _, _ => by simp [PyData.eqvAll]
  | [], _ :: _, _, _ => by simp [PyData.eqvAll]
  | _ :: _, [], _, _ => by simp [PyData.eqvAll]
  | x :: xs, y :: ys, h1, h2 => by
    simp only [bareAll, Bool.and_eq_true] at h1 h2
    simp only [PyData.eqvAll, Bool.and_eq_true, eqv_is x y h1.1 h2.1, eqv_isAll xs ys h1.2 h2.2, List.cons.injEq]
end
theorem eqv_yes {d e : PyData} (h1 : bare d = true) (h2 : bare e = true) (h : d = e) : PyData.eqv d e = true := (eqv_is d e h1 h2).mpr h
theorem eqv_no {d e : PyData} (h1 : bare d = true) (h2 : bare e = true) (h : ¬ d = e) : PyData.eqv d e = false := by
  cases q : PyData.eqv d e with
  | false => rfl
  | true => exact absurd ((eqv_is d e h1 h2).mp q) h
/-! ### small data -/
mutual
/-- ints of at most eighty digits, short texts, lists and tuples of such -/
def small : PyData → Bool
  | .none | .bool _ => true
  | .int i => decide (-100000000000000000000000000000000000000000000000000000000000000000000000000000000 ≤ i) && decide (i ≤ 100000000000000000000000000000000000000000000000000000000000000000000000000000000)
  | .str x => decide ((PySem.reprText x).length ≤ 100) && PyData.strOk x
  | .list xs | .tuple xs => smallAll xs
  | .dict _ => false
def smallAll : List PyData → Bool
  | [] => true
  | x :: xs => small x && smallAll xs
end
theorem smallAll_iff : ∀ {xs : List PyData}, smallAll xs = true ↔ ∀ x ∈ xs, small x = true
  | [] => by simp [smallAll]
  | x :: xs => by simp [smallAll, smallAll_iff (xs := xs)]
theorem log_of {i : Int} (h : (decide (-100000000000000000000000000000000000000000000000000000000000000000000000000000000 ≤ i) && decide (i ≤ 100000000000000000000000000000000000000000000000000000000000000000000000000000000)) = true) : i.natAbs.log2 < 1920 := by
  simp only [Bool.and_eq_true, decide_eq_true_eq] at h
  have b : i.natAbs < 2 ^ 1000 := by
    have e : (100000000000000000000000000000000000000000000000000000000000000000000000000000000 : Nat) < 2 ^ 1000 := by decide
    omega
  exact Nat.lt_of_lt_of_le (PySem.Flt.log2_lt_of (by decide : 0 < 1000) b) (by decide)
mutual
theorem small_show : ∀ d : PyData, small d = true → d.showable = true
  | .none, _ => by simp only [PyData.showable]
  | .bool _, _ => by simp only [PyData.showable]
  | .str _, _ => by simp only [PyData.showable]
  | .int i, h => by
    simp only [small] at h
    simp only [PyData.showable, decide_eq_true_eq]
    exact log_of h
  | .list xs, h => by
    simp only [small] at h
    simp only [PyData.showable]
    exact small_showAll xs h
  | .tuple xs, h => by
    simp only [small] at h
    simp only [PyData.showable]
    exact small_showAll xs h
  | .dict _, h => by simp [small] at h
theorem small_showAll : ∀ xs : List PyData, smallAll xs = true → PyData.showableAll xs = true
  | [], _ => by simp only [PyData.showableAll]
  | x :: xs, h => by
    simp only [smallAll, Bool.and_eq_true] at h
    simp only [PyData.showableAll, small_show x h.1, small_showAll xs h.2, Bool.and_self]
end
mutual
theorem small_lay : ∀ d : PyData, small d = true → d.canLay0 = true
  | .none, _ => by simp only [PyData.canLay0]
  | .bool _, _ => by simp only [PyData.canLay0]
  | .str _, h => by
    simp only [small, Bool.and_eq_true] at h
    simp only [PyData.canLay0]
    exact h.2
  | .int i, h => by simp only [PyData.canLay0]
  | .list xs, h => by
    simp only [small] at h
    simp only [PyData.canLay0]
    exact small_layAll xs h
  | .tuple xs, h => by
    simp only [small] at h
    simp only [PyData.canLay0]
    exact small_layAll xs h
  | .dict _, h => by simp [small] at h
theorem small_layAll : ∀ xs : List PyData, smallAll xs = true → PyData.canLayAll0 xs = true
  | [], _ => by simp only [PyData.canLayAll0]
  | x :: xs, h => by
    simp only [smallAll, Bool.and_eq_true] at h
    simp only [PyData.canLayAll0, small_lay x h.1, small_layAll xs h.2, Bool.and_self]
end
/-! ### the length of a text -/
mutual
def cnt : PyData → Nat
  | .none | .bool _ | .int _ | .str _ | .dict _ => 1
  | .list xs | .tuple xs => cntAll xs + 1
def cntAll : List PyData → Nat
  | [] => 0
  | x :: xs => cnt x + cntAll xs
end
theorem listText_le (ts : List Str) : (listText ts).length ≤ piled ts + 2 := by
  cases ts with
  | nil => exact (by decide : (listText []).length ≤ 0 + 2)
  | cons t r =>
    have h := textFrom_length_pos r 1 (("[" : Str) ++ (if (0 : Nat) > 0 then ", " else "" : String) ++ t) (Nat.succ_pos 0)
    have e : ((("[" : Str) ++ (if (0 : Nat) > 0 then ", " else "" : String) ++ t)).length = 1 + t.length := by
      rw [strLen_append, strLen_append]
      rfl
    have z : (listText (t :: r)).length = (textFrom 1 (("[" : Str) ++ (if (0 : Nat) > 0 then ", " else "" : String) ++ t) r).length + 1 := by
      show ((textFrom 1 (("[" : Str) ++ (if (0 : Nat) > 0 then ", " else "" : String) ++ t) r) ++ "]").length = _
      rw [strLen_append]
      rfl
    rw [z, h, e, piled_cons]
    omega
theorem tupleText_le (ts : List Str) : (tupleText ts).length ≤ piled ts + 3 := by
  unfold tupleText
  rw [strLen_append, strLen_append]
  have e1 : ((("(" : String) : Str)).length = 1 := rfl
  have e3 : (((if ts.length == 1 then ",)" else ")" : String) : Str)).length ≤ 2 := by split <;> decide
  have e2 : (Str.join ", " ts).length ≤ piled ts := by
    by_cases h : ts = []
    · subst h
      exact (by decide : (Str.join ", " []).length ≤ 0)
    · have := join_length_add ts h
      omega
  omega
theorem int_len {i : Int} (h : (decide (-100000000000000000000000000000000000000000000000000000000000000000000000000000000 ≤ i) && decide (i ≤ 100000000000000000000000000000000000000000000000000000000000000000000000000000000)) = true) : (Str.ofString (toString i)).length ≤ 82 := by
  simp only [Bool.and_eq_true, decide_eq_true_eq] at h
  have b : i.natAbs < 10 ^ 81 := by
    have e : (100000000000000000000000000000000000000000000000000000000000000000000000000000000 : Nat) < 10 ^ 81 := by decide
    omega
  have q := int_text_length_le10 (a := i) (k := 81) (by decide) b
  rw [ofString_length]
  exact q
mutual
theorem shown_le : ∀ d : PyData, small d = true → d.shown.length + 6 ≤ 130 * cnt d
  | .none, _ => by
    simp only [PyData.shown, cnt]
    exact (by decide : (("None" : String) : Str).length + 6 ≤ 130 * 1)
  | .bool b, _ => by
    simp only [PyData.shown, cnt]
    cases b <;> decide
  | .str x, h => by
    simp only [small, Bool.and_eq_true, decide_eq_true_eq] at h
    simp only [PyData.shown, cnt]
    have := h.1
    omega
  | .int i, h => by
    simp only [small] at h
    have := int_len h
    simp only [PyData.shown, cnt]
    show (Str.ofString (toString i)).length + 6 ≤ 130 * 1
    omega
  | .list xs, h => by
    simp only [small] at h
    have q := shown_leAll xs h
    have z := listText_le (PyData.shownAll xs)
    simp only [PyData.shown, cnt]
    omega
  | .tuple xs, h => by
    simp only [small] at h
    have q := shown_leAll xs h
    have z := tupleText_le (PyData.shownAll xs)
    simp only [PyData.shown, cnt]
    omega
  | .dict _, h => by simp [small] at h
theorem shown_leAll : ∀ xs : List PyData, smallAll xs = true → piled (PyData.shownAll xs) ≤ 130 * cntAll xs
  | [], _ => by simp [PyData.shownAll, cntAll, piled]
  | x :: xs, h => by
    simp only [smallAll, Bool.and_eq_true] at h
    have a := shown_le x h.1
    have b := shown_leAll xs h.2
    simp only [PyData.shownAll, cntAll, piled_cons]
    omega
end
theorem cntAll_le {c : Nat} : ∀ {xs : List PyData}, (∀ x ∈ xs, cnt x ≤ c) → cntAll xs ≤ c * xs.length
  | [], _ => by simp [cntAll]
  | x :: xs, h => by
    have a := h x List.mem_cons_self
    have b := cntAll_le (xs := xs) fun y hy => h y (List.mem_cons_of_mem _ hy)
    simp only [cntAll, List.length_cons, Nat.mul_succ]
    omega
theorem depthAll_le {c : Nat} : ∀ {xs : List PyData}, (∀ x ∈ xs, x.depth ≤ c) → PyData.depthAll xs ≤ c
  | [], _ => by simp [PyData.depthAll]
  | x :: xs, h => by
    have a := h x List.mem_cons_self
    have b := depthAll_le (xs := xs) fun y hy => h y (List.mem_cons_of_mem _ hy)
    simp only [PyData.depthAll]
    omega
/-- small, nested at most n deep, of at most m parts -/
structure Fine (n m : Nat) (d : PyData) : Prop where
  sm : small d = true
  dp : d.depth ≤ n
  ct : cnt d ≤ m
theorem Fine.shaped {n m : Nat} {d : PyData} (h : Fine n m d) (hn : n ≤ 64) : SeqAt.shaped d = true := by
  unfold SeqAt.shaped
  rw [small_lay d h.sm, decide_eq_true (Nat.le_trans h.dp hn)]
  rfl
theorem Fine.text {n m : Nat} {d : PyData} (h : Fine n m d) (hm : m ≤ 100000) : d.shown.length ≤ sizeLine := by
  have a := shown_le d h.sm
  have b := h.ct
  rw [sizeLine_eq]
  omega
theorem fine_none {n : Nat} : Fine n 1 .none := ⟨by simp [small], by simp [PyData.depth], by simp [cnt]⟩
theorem fine_bool {n : Nat} (b : Bool) : Fine n 1 (.bool b) := ⟨by simp [small], by simp [PyData.depth], by simp [cnt]⟩
theorem fine_int {n : Nat} {i : Int} (h1 : -100000000000000000000000000000000000000000000000000000000000000000000000000000000 ≤ i) (h2 : i ≤ 100000000000000000000000000000000000000000000000000000000000000000000000000000000) : Fine n 1 (.int i) :=
  ⟨by simp [small, h1, h2], by simp [PyData.depth], by simp [cnt]⟩
theorem fine_str {n : Nat} {x : Str} (h1 : (PySem.reprText x).length ≤ 100) (h2 : PyData.strOk x = true) : Fine n 1 (.str x) := ⟨by simp [small, h1, h2], by simp [PyData.depth], by simp [cnt]⟩
theorem fine_list {n m : Nat} {xs : List PyData} (h : ∀ x ∈ xs, Fine n m x) : Fine (n + 1) (m * xs.length + 1) (.list xs) :=
  ⟨by simp only [small]; exact smallAll_iff.mpr fun x hx => (h x hx).sm, by simp only [PyData.depth]; have := depthAll_le fun x hx => (h x hx).dp; omega, by simp only [cnt]; have := cntAll_le fun x hx => (h x hx).ct; omega⟩
theorem fine_tuple {n m : Nat} {xs : List PyData} (h : ∀ x ∈ xs, Fine n m x) : Fine (n + 1) (m * xs.length + 1) (.tuple xs) :=
  ⟨by simp only [small]; exact smallAll_iff.mpr fun x hx => (h x hx).sm, by simp only [PyData.depth]; have := depthAll_le fun x hx => (h x hx).dp; omega, by simp only [cnt]; have := cntAll_le fun x hx => (h x hx).ct; omega⟩
theorem Fine.mono {n m n' m' : Nat} {d : PyData} (h : Fine n m d) (hn : n ≤ n') (hm : m ≤ m') : Fine n' m' d := ⟨h.sm, Nat.le_trans h.dp hn, Nat.le_trans h.ct hm⟩
/-! ### data in a heap that keeps what it had -/
section
variable {K : PySem.W.Frag} {H H' : Hp}
mutual
theorem dp_same (s : Same H H') : ∀ (d : PyData) (v : V), Dp K H v d → Dp K H' v d
  | .none, _, h => by cases h; exact .non
  | .bool b, _, h => by cases h; exact .bl b
  | .int i, _, h => by cases h; exact .int i
  | .str x, _, h => by cases h; exact .str x
  | .list ds, _, h => by
    cases h with
    | lst a b => exact .lst (same_sq s a) (dp_sameAll s ds _ b)
  | .tuple ds, _, h => by
    cases h with
    | tup a b => exact .tup (same_sqT s a) (dp_sameAll s ds _ b)
  | .dict _, _, h => by cases h
theorem dp_sameAll (s : Same H H') : ∀ (ds : List PyData) (vs : List V), DpAll K H vs ds → DpAll K H' vs ds
  | [], _, h => by cases h; exact .nil
  | d :: ds, _, h => by
    cases h with
    | cons a b => exact .cons (dp_same s d _ a) (dp_sameAll s ds _ b)
end
theorem dpAll_ints : ∀ (ns : List Int), DpAll K H (ns.map V.int) (ns.map PyData.int)
  | [] => .nil
  | n :: ns => .cons (.int n) (dpAll_ints ns)
theorem dpAll_len : ∀ {vs : List V} {ds : List PyData}, DpAll K H vs ds → vs.length = ds.length
  | _, _, .nil => rfl
  | _, _, .cons _ r => congrArg (· + 1) (dpAll_len r)
theorem dpAll_append : ∀ {vs ws : List V} {ds es : List PyData}, DpAll K H vs ds → DpAll K H ws es → DpAll K H (vs ++ ws) (ds ++ es)
  | _, _, _, _, .nil, s => s
  | _, _, _, _, .cons a r, s => .cons a (dpAll_append r s)
theorem dpAll_get : ∀ {vs : List V} {ds : List PyData} {i : Nat} {v : V}, DpAll K H vs ds → vs[i]? = some v → ∃ d, ds[i]? = some d ∧ Dp K H v d
  | _, _, _, _, .nil, e => by simp at e
  | _, _, 0, _, .cons a _, e => by
    simp at e
    subst e
    exact ⟨_, rfl, a⟩
  | _, _, i + 1, _, .cons _ r, e => by
    obtain ⟨d, h1, h2⟩ := dpAll_get (i := i) r (by simpa using e)
    exact ⟨d, by simpa using h1, h2⟩
variable {Q : VK} {x y : V} {d e : PyData}
theorem g_eqD (h1 : Dp K H x d) (h2 : Dp K H y e) (s1 : SeqAt.shaped d = true) (s2 : SeqAt.shaped e = true) (q : Q (.bl (PyData.eqv d e)) H) : rEqD K x y H Q := ⟨d, e, h1, h2, s1, s2, q⟩
theorem g_neD (h1 : Dp K H x d) (h2 : Dp K H y e) (s1 : SeqAt.shaped d = true) (s2 : SeqAt.shaped e = true) (q : Q (.bl (!PyData.eqv d e)) H) : rNeD K x y H Q := ⟨d, e, h1, h2, s1, s2, q⟩
theorem g_repr {a : Addr} {n m : Nat} (h : Dp K H (.ref a) d) (f : Fine n m d) (hn : n ≤ 64) (hm : m ≤ 100000) (q : Q (.str d.shown) H) : rReprQ K [V.ref a] H Q := ⟨a, d, rfl, h, f.shaped hn, small_show d f.sm, f.text hm, q⟩
/-- == of a list of ints with the empty list -/
theorem shaped_ints (ns : List Int) : SeqAt.shaped (.list (ns.map PyData.int)) = true := by
  unfold SeqAt.shaped
  have h1 : PyData.canLayAll0 (ns.map PyData.int) = true := by
    induction ns with
    | nil => simp [PyData.canLayAll0]
    | cons n ns ih => simp [PyData.canLayAll0, PyData.canLay0, ih]
  have h2 : PyData.depthAll (ns.map PyData.int) ≤ 0 := depthAll_le fun x hx => by
    obtain ⟨n, _, rfl⟩ := List.mem_map.mp hx
    simp [PyData.depth]
  have h3 : PyData.depthAll (ns.map PyData.int) + 1 ≤ 64 := by omega
  simp [PyData.canLay0, PyData.depth, h1, h3]
theorem bare_ints (ns : List Int) : bare (.list (ns.map PyData.int)) = true := by
  simp only [bare]
  exact bareAll_iff.mpr fun x hx => by
    obtain ⟨n, _, rfl⟩ := List.mem_map.mp hx
    simp [bare]
theorem dp_ints {p : Addr} {ns : List Int} (h : SqL K H p (ns.map V.int)) : Dp K H (.ref p) (.list (ns.map PyData.int)) := .lst h (dpAll_ints ns)
theorem ints_inj {ns ms : List Int} : PyData.list (ns.map PyData.int) = PyData.list (ms.map PyData.int) ↔ ns = ms := by
  constructor
  · intro h
    injection h with h
    induction ns generalizing ms with
    | nil => cases ms with
      | nil => rfl
      | cons m ms => simp at h
    | cons n ns ih => cases ms with
      | nil => simp at h
      | cons m ms =>
        simp only [List.map_cons, List.cons.injEq, PyData.int.injEq] at h
        rw [h.1, ih h.2]
  · intro h
    rw [h]
theorem g_eqI {p q : Addr} {ns ms : List Int} (h1 : SqL K H p (ns.map V.int)) (h2 : SqL K H q (ms.map V.int)) (k : Q (.bl (decide (ns = ms))) H) : rEqD K (.ref p) (.ref q) H Q := by
  refine g_eqD (dp_ints h1) (dp_ints h2) (shaped_ints _) (shaped_ints _) ?_
  have e : PyData.eqv (.list (ns.map PyData.int)) (.list (ms.map PyData.int)) = decide (ns = ms) := by
    by_cases h : ns = ms
    · rw [decide_eq_true h, eqv_yes (bare_ints _) (bare_ints _) (by rw [h])]
    · rw [decide_eq_false h, eqv_no (bare_ints _) (bare_ints _) (fun z => h (ints_inj.mp z))]
  rw [e]
  exact k
end
end Gx

/-! Comprehensions: what the new list is, by a word of the turn and what is made so far -/
namespace Gx
open PySem L2
/-- the turns of a comprehension, its source known -/
def LC (g : TG) (tt : TT) (te : TE) (vs : List Nat) (J : It) (σ : L2.St) (H1 : Hp) (Q : VK) : Prop := ∀ D, H1 D = none → ∃ W : Nat → Nat → Hp → Prop, (∃ m, W 0 m (upd H1 D (.lst []))) ∧ ∀ i m H, W i m H →
  (J.stop i H ∧ Q (.ref D) H) ∨ (J.go i H ∧ ∃ Nx : Hp → Prop, (∀ H', Nx H' → ∃ m', m' < m ∧ W (i + 1) m' H') ∧ ∀ x H', J.yld i H x H' → g x (wipe σ vs) H' fun σ2 H2 => wipe σ2 vs = wipe σ vs ∧ tt σ2 H2 fun b H3 =>
    if b = true then te σ2 H3 fun y H4 => ∃ acc, H4 D = some (.lst acc) ∧ acc.length < sizeLine ∧ Nx (upd H4 D (.lst (acc ++ [y]))) else Nx H3)
/-- a source of n items -/
def Src (J : It) (H1 : Hp) (n : Nat) (item : Nat → V → Hp → Prop) : Prop := ∀ i H, Same H1 H → (i < n → J.go i H ∧ ∀ x H', J.yld i H x H' → Same H H' ∧ item i x H') ∧ (n ≤ i → J.stop i H)
/-- all but one address stay -/
def But (D : Addr) (H H' : Hp) : Prop := ∀ a o, a ≠ D → H a = some o → H' a = some o
section
variable {σ : L2.St} {H H1 : Hp} {Q : VK} {K : PySem.W.Frag} {te tl : TE} {tt : TT} {g : TG} {vs : List Nat} {J : It} {n j : Nat}
theorem g_lc {wi : TI} (q : wi σ H fun J H1 => LC g tt te vs J σ H1 Q) : tLc wi g tt te vs σ H Q := q
theorem src_list {a : Addr} {xs : List V} (h : SqL K H1 a xs) : Src (Itl K a) H1 xs.length (fun i x _ => xs[i]? = some x) := fun i H s => by
  have hh := same_sq s h
  refine ⟨fun hi => ⟨⟨xs, xs[i], hh, List.getElem?_eq_getElem hi⟩, fun x H' y => ?_⟩, fun hi => ⟨xs, hh, hi⟩⟩
  obtain ⟨rfl, q⟩ := y
  exact ⟨Same.refl _, q xs hh⟩
theorem src_tup {a : Addr} {xs : List V} (h : SqT K H1 a xs) : Src (Itt K a) H1 xs.length (fun i x _ => xs[i]? = some x) := fun i H s => by
  have hh := same_sqT s h
  refine ⟨fun hi => ⟨⟨xs, xs[i], hh, List.getElem?_eq_getElem hi⟩, fun x H' y => ?_⟩, fun hi => ⟨xs, hh, hi⟩⟩
  obtain ⟨rfl, q⟩ := y
  exact ⟨Same.refl _, q xs hh⟩
theorem src_rng {lo : Int} : Src (Itr lo n) H1 n (fun i x _ => x = .int (lo + i)) := fun i H s =>
  ⟨fun hi => ⟨hi, fun x H' y => by obtain ⟨rfl, q⟩ := y; exact ⟨Same.refl _, q⟩⟩, fun hi => hi⟩
theorem src_zip {a b : Addr} {xs ys : List V} (ha : SqL K H1 a xs) (hb : SqL K H1 b ys) : Src (Itz K a b) H1 (min xs.length ys.length) (fun i v H => ∃ T x y, v = .ref T ∧ H T = some (.tup [x, y]) ∧ xs[i]? = some x ∧ ys[i]? = some y) := fun i H s => by
  have h1 := same_sq s ha
  have h2 := same_sq s hb
  refine ⟨fun hi => ⟨⟨xs, ys, xs[i]'(by omega), ys[i]'(by omega), h1, h2, List.getElem?_eq_getElem _, List.getElem?_eq_getElem _⟩, fun v H' q => ?_⟩, fun hi => ⟨xs, ys, h1, h2, by omega⟩⟩
  obtain ⟨T, x, y, rfl, hT, rfl, qx, qy⟩ := q
  exact ⟨same_new hT, T, x, y, rfl, upd_same, qx xs h1, qy ys h2⟩
/-- THE RULE: A is true of the turn and of what is made so far -/
theorem lc_src {item : Nat → V → Hp → Prop} (src : Src J H1 n item) (hn : n ≤ 100000) (A : Nat → List V → Hp → Prop)
    (mono : ∀ i acc l D H H', H D = some (.lst l) → H1 D = none → Same H1 H → But D H H' → A i acc H → A i acc H') (A0 : ∀ H, Same H1 H → A 0 [] H)
    (turn : ∀ i x acc H' (Nx : V → Hp → Prop) (No : Hp → Prop), i < n → Same H1 H' → item i x H' → A i acc H' → acc.length ≤ i → (∀ y H4, Same H' H4 → A (i + 1) (acc ++ [y]) H4 → Nx y H4) → (∀ H4, Same H' H4 → A (i + 1) acc H4 → No H4) →
      g x (wipe σ vs) H' fun σ2 H2 => wipe σ2 vs = wipe σ vs ∧ tt σ2 H2 fun b H3 => if b = true then te σ2 H3 Nx else No H3)
    (done : ∀ D acc H', H1 D = none → Same H1 H' → H' D = some (.lst acc) → A n acc H' → acc.length ≤ n → Q (.ref D) H') : LC g tt te vs J σ H1 Q := by
  intro D hD
  refine ⟨fun i m H => m = n - i ∧ i ≤ n ∧ ∃ acc, Same H1 H ∧ H D = some (.lst acc) ∧ A i acc H ∧ acc.length ≤ i, ⟨n, rfl, Nat.zero_le _, [], same_new hD, upd_same, A0 _ (same_new hD), Nat.le_refl _⟩, ?_⟩
  rintro i m H ⟨rfl, hi, acc, s, e, a, hl⟩
  rcases Nat.lt_or_ge i n with lt | ge
  · right
    obtain ⟨go, yl⟩ := (src i H s).1 lt
    refine ⟨go, fun H' => i + 1 ≤ n ∧ ∃ acc, Same H1 H' ∧ H' D = some (.lst acc) ∧ A (i + 1) acc H' ∧ acc.length ≤ i + 1, fun H' ⟨l1, q⟩ => ⟨n - (i + 1), by omega, rfl, l1, q⟩, fun x H' y => ?_⟩
    obtain ⟨s2, it⟩ := yl x H' y
    have s12 := s.trans s2
    refine turn i x acc H' _ _ lt s12 it (mono i acc acc D H H' e hD s (fun b o _ z => s2 b o z) a) hl (fun y H4 s4 a4 => ?_) (fun H4 s4 a4 => ?_)
    · have e4 := s4 _ _ (s2 _ _ e)
      have s14 := s12.trans s4
      refine ⟨acc, e4, big_lt (by omega), lt, acc ++ [y], same_mut s14 hD, upd_same, mono (i + 1) (acc ++ [y]) acc D H4 _ e4 hD s14 (fun b o nb z => by rw [upd_ne nb]; exact z) a4, by rw [List.length_append]; exact Nat.succ_le_succ hl⟩
    · exact ⟨lt, acc, s12.trans s4, s4 _ _ (s2 _ _ e), a4, Nat.le_succ_of_le hl⟩
  · left
    have e0 : i = n := Nat.le_antisymm hi ge
    subst e0
    exact ⟨(src i H s).2 ge, done D acc H hD s e a hl⟩
/-- no test; each item makes a value that is what P says -/
theorem lc_map {item : Nat → V → Hp → Prop} (src : Src J H1 n item) (hn : n ≤ 100000) (P : Nat → V → Prop)
    (turn : ∀ i x H' (Nx : V → Hp → Prop), i < n → Same H1 H' → item i x H' → (∀ y H4, Same H' H4 → P i y → Nx y H4) → g x (wipe σ vs) H' fun σ2 H2 => wipe σ2 vs = wipe σ vs ∧ te σ2 H2 Nx)
    (done : ∀ D acc H', H1 D = none → Same H1 H' → H' D = some (.lst acc) → acc.length = n → (∀ (i : Nat) y, acc[i]? = some y → P i y) → Q (.ref D) H') : LC g tYes te vs J σ H1 Q := by
  refine lc_src src hn (fun i acc _ => acc.length = i ∧ ∀ (k : Nat) y, acc[k]? = some y → P k y) (fun _ _ _ _ _ _ _ _ _ _ a => a) (fun _ _ => ⟨rfl, fun k y z => by simp at z⟩) (fun i x acc H' Nx No lt s it a hl k1 k2 => ?_) fun D acc H' h1 s e a _ => done D acc H' h1 s e a.1 a.2
  have q := turn i x H' Nx lt s it fun y H4 s4 p => k1 y H4 s4 ⟨by rw [List.length_append, a.1]; rfl, fun k z hz => ?_⟩
  · exact q
  · rcases Nat.lt_or_ge k acc.length with h | h
    · rw [List.getElem?_append_left h] at hz
      exact a.2 k z hz
    · rw [List.getElem?_append_right h] at hz
      have e0 : k - acc.length = 0 := by
        rcases Nat.eq_zero_or_pos (k - acc.length) with z0 | z0
        · exact z0
        · rw [List.getElem?_eq_none (by simp; omega)] at hz
          cases hz
      rw [e0] at hz
      simp only [List.getElem?_cons_zero, Option.some.injEq] at hz
      subst hz
      have : k = i := by have := a.1; omega
      rw [this]
      exact p
/-- items of a list, a test that each one answers, a value that each one makes -/
theorem lc_filter {item : Nat → V → Hp → Prop} {xs : List V} (src : Src J H1 xs.length item) (hx : ∀ i x H, item i x H → xs[i]? = some x) (hn : xs.length ≤ 100000) (c : V → Bool) (f : V → V)
    (turn : ∀ (i : Nat) x H' (Nx : V → Hp → Prop) (No : Hp → Prop), xs[i]? = some x → Same H1 H' → (∀ H4, Same H' H4 → c x = true → Nx (f x) H4) → (∀ H4, Same H' H4 → c x = false → No H4) →
      g x (wipe σ vs) H' fun σ2 H2 => wipe σ2 vs = wipe σ vs ∧ tt σ2 H2 fun b H3 => if b = true then te σ2 H3 Nx else No H3)
    (done : ∀ D H', H1 D = none → Same H1 H' → H' D = some (.lst ((xs.filter c).map f)) → Q (.ref D) H') : LC g tt te vs J σ H1 Q := by
  refine lc_src src hn (fun i acc _ => acc = ((xs.take i).filter c).map f) (fun _ _ _ _ _ _ _ _ _ _ a => a) (fun _ _ => rfl) (fun i x acc H' Nx No lt s it a hl k1 k2 => ?_) fun D acc H' h1 s e a _ => done D H' h1 s (by rw [e, a, List.take_length])
  have ex := hx i x H' it
  have tk : xs.take (i + 1) = xs.take i ++ [x] := by
    rw [List.take_succ, ex]
    rfl
  refine turn i x H' Nx No ex s (fun H4 s4 h => k1 _ H4 s4 ?_) (fun H4 s4 h => k2 H4 s4 ?_)
  · rw [tk, List.filter_append, List.map_append, a]
    simp [h]
  · rw [tk, List.filter_append, List.map_append, a]
    simp [h]
theorem g_yes {Q : Bool → Hp → Prop} (q : Q true H) : tYes σ H Q := q
theorem g_iZip {ta : TA} {R : It → Hp → Prop} (q : ta σ H fun vs H1 => ∃ a b xs ys, vs = [.ref a, .ref b] ∧ SqL K H1 a xs ∧ SqL K H1 b ys ∧ R (Itz K a b) H1) : iZip K ta σ H R := q
theorem g_exZ {a b : Addr} {xs ys : List V} {R : Addr → Addr → Prop} (h1 : SqL K H a xs) (h2 : SqL K H b ys) (q : R a b) : ∃ p q xs ys, [V.ref a, V.ref b] = [.ref p, .ref q] ∧ SqL K H p xs ∧ SqL K H q ys ∧ R p q := ⟨a, b, xs, ys, rfl, h1, h2, q⟩
theorem g_gtup {k : Nat} {t : TGs} {a : Addr} {xs : List V} {Q : L2.St → Hp → Prop} (h : SqT K H a xs) (hl : xs.length = k) (q : t xs σ H Q) : gTup K k t (.ref a) σ H Q := ⟨a, xs, rfl, h, hl, q⟩
theorem g_gcons {t : TG} {u : TGs} {v : V} {r : List V} {Q : L2.St → Hp → Prop} (q : t v σ H fun σ' H' => u r σ' H' Q) : gCons t u (v :: r) σ H Q := ⟨v, r, rfl, q⟩
theorem g_gnil {Q : L2.St → Hp → Prop} (q : Q σ H) : gNil [] σ H Q := ⟨rfl, q⟩
theorem g_all {a : Addr} {bs : List Bool} (h : SqL K H a (bs.map V.bl)) (q : Q (.bl (bs.all id)) H) : rAll K [V.ref a] H Q := ⟨a, bs, rfl, h, q⟩
theorem g_any {a : Addr} {bs : List Bool} (h : SqL K H a (bs.map V.bl)) (q : Q (.bl (bs.any id)) H) : rAny K [V.ref a] H Q := ⟨a, bs, rfl, h, q⟩
theorem g_slL {a : Addr} {xs : List V} {lo hi : Option Int} (h : SqL K H a xs) (k : ∀ p H', H p = none → Same H H' → H' p = some (.lst (cutV xs lo hi)) → Q (.ref p) H') : rSlL K (.ref a) lo hi H Q := ⟨a, xs, rfl, h, fun p hp => k p _ hp (same_new hp) upd_same⟩
theorem g_sl {r : V → Option Int → Option Int → Hp → VK → Prop} {tl th : TO} (q : te σ H fun x H1 => tl σ H1 fun l H2 => th σ H2 fun u H3 => r x l u H3 Q) : tSl r te tl th σ H Q := q
theorem g_noP {Q : Option Int → Hp → Prop} (q : Q none H) : tNoPart σ H Q := q
theorem g_part {Q : Option Int → Hp → Prop} (q : te σ H fun x H1 => ∃ i, x = .int i ∧ Q (some i) H1) : tPart te σ H Q := q
/-- all of a list of truths that are all true -/
theorem trues {acc : List V} (h : ∀ (i : Nat) y, acc[i]? = some y → y = V.bl true) : acc = (List.replicate acc.length true).map V.bl := by
  apply List.ext_getElem?
  intro i
  rw [List.getElem?_map, List.getElem?_replicate]
  split
  · rename_i lt
    rw [List.getElem?_eq_getElem lt]
    exact congrArg some (h i _ (List.getElem?_eq_getElem lt))
  · rename_i ge
    rw [List.getElem?_eq_none (by omega)]
    rfl
theorem all_trues (n : Nat) : (List.replicate n true).all id = true := by
  induction n with
  | zero => rfl
  | succ n ih => simp
end
end Gx

/-! Objects: attributes, methods (also with keywords alone), makes, isinstance -/
namespace Gx
open PySem L2 PySem.Spec PyProof.Rows
section
variable {σ : L2.St} {H H1 : Hp} {Q : VK} {K : PySem.W.Frag} {te tl ta : TE} {D : Ends} {x v : V} {a C dx : Addr} {fs : List (Str × V)} {f m : Str} {sp : Sp} {dvs : List V} {E : XK} {t : TA}
def FldQ (K : PySem.W.Frag) (f : Str) (x : V) (H : Hp) (Q : VK) : Prop := ∃ a C dx fs v, x = .ref a ∧ H a = some (.ins C dx fs) ∧ Cls K C ∧ NoAttr K C f ∧ fs.lookup f = some v ∧ Q v H
theorem g_tfld (q : ta σ H fun x H1 => FldQ K f x H1 Q) : tFld K ta f σ H Q := q
theorem g_fld (h : H a = some (.ins C dx fs)) (c : Cls K C) (n : NoAttr K C f) (l : fs.lookup f = some v) (q : Q v H) : FldQ K f (.ref a) H Q := ⟨a, C, dx, fs, v, rfl, h, c, n, l, q⟩
def MethQ (C : Addr) (m : Str) (sp : Sp) (dvs : List V) (E : XK) (t : TA) (σ : L2.St) (x : V) (H : Hp) (Q : VK) : Prop := ∃ a dx fs, x = .ref a ∧ H a = some (.ins C dx fs) ∧ fs.lookup m = none ∧ t σ H fun vs H2 => sp (x :: (vs ++ dvs)) H2 Q E
theorem g_tmeth (q : ta σ H fun x H1 => MethQ C m sp dvs E t σ x H1 Q) : tMeth C m sp dvs E ta t σ H Q := q
theorem g_meth (h : H a = some (.ins C dx fs)) (l : fs.lookup m = none) (q : t σ H fun vs H2 => sp (.ref a :: (vs ++ dvs)) H2 Q E) : MethQ C m sp dvs E t σ (.ref a) H Q := ⟨a, dx, fs, rfl, h, l, q⟩
def MakeQ (C : Addr) (sp : Sp) (vs : List V) (H : Hp) (Q : VK) (E : XK) : Prop := ∀ x dx, H x = none → H dx = none → dx ≠ x → sp (.ref x :: vs) (upd (upd H dx (.own x)) x (.ins C dx [])) (fun v H2 => v = .non ∧ Q (.ref x) H2) E
theorem g_tmake (q : t σ H fun vs H1 => MakeQ C sp (vs ++ dvs) H1 Q E) : tMake C sp dvs E t σ H Q := q
theorem g_make {vs : List V} (k : ∀ x dx H', H x = none → Same H H' → H' x = some (.ins C dx []) → sp (.ref x :: vs) H' (fun v H2 => v = .non ∧ Q (.ref x) H2) E) : MakeQ C sp vs H Q E :=
  fun x dx hx hd _ => k x dx _ hx (same_mut (same_new hd) hx) upd_same
def StoreQ (K : PySem.W.Frag) (f : Str) (y x : V) (D : Ends) (σ : L2.St) (H : Hp) : Prop := ∃ a C dx fs, x = .ref a ∧ H a = some (.ins C dx fs) ∧ Cls K C ∧ NoAttr K C f ∧ fs.length < 1000 ∧ D.nx σ (upd H a (.ins C dx (putF f y fs)))
theorem g_sfld {tv : TE} (q : tv σ H fun y H1 => ta σ H1 fun x H2 => StoreQ K f y x D σ H2) : sFld K ta tv f D σ H := q
theorem g_store (h : H a = some (.ins C dx fs)) (c : Cls K C) (n : NoAttr K C f) (l : fs.length < 1000) (q : D.nx σ (upd H a (.ins C dx (putF f v fs)))) : StoreQ K f v (.ref a) D σ H := ⟨a, C, dx, fs, rfl, h, c, n, l, q⟩
theorem g_isi {c : V} {t u : Value} {b : Bool} (k : ClsV c u) (ty : TyX K H x t) (e : PySem.W.kitOne K t u = some b) (q : Q (.bl b) H) : rIsi K [x, c] H Q := ⟨x, c, t, u, b, rfl, k, ty, e, q⟩
def PropQ (C : Addr) (sp : Sp) (dvs : List V) (E : XK) (x : V) (H : Hp) (Q : VK) : Prop := ∃ a dx fs, x = .ref a ∧ H a = some (.ins C dx fs) ∧ sp (.ref a :: dvs) H Q E
theorem g_tprop (q : ta σ H fun x H1 => PropQ C sp dvs E x H1 Q) : tProp C sp dvs E ta σ H Q := q
theorem g_prop (h : H a = some (.ins C dx fs)) (q : sp (.ref a :: dvs) H Q E) : PropQ C sp dvs E (.ref a) H Q := ⟨a, dx, fs, rfl, h, q⟩
def StarQ (K : PySem.W.Frag) (t : TA) (σ : L2.St) (x : V) (H : Hp) (Q : List V → Hp → Prop) : Prop := ∃ p xs, x = V.ref p ∧ (SqT K H p xs ∨ SqL K H p xs) ∧ t σ H fun ys H2 => Q (xs ++ ys) H2
theorem g_tstar {Q : List V → Hp → Prop} (q : te σ H fun x H1 => StarQ K t σ x H1 Q) : StX.tStar K te t σ H Q := q
theorem g_star {xs : List V} {Q : List V → Hp → Prop} (h : SqL K H a xs) (q : t σ H fun ys H2 => Q (xs ++ ys) H2) : StarQ K t σ (.ref a) H Q := ⟨a, xs, rfl, .inr h, q⟩
/-- an if whose answer is known -/
theorem g_ifT {b : Bool} {A B : Prop} (h : b = true) (q : A) : if b = true then A else B := by rw [if_pos h]; exact q
theorem g_ifF {b : Bool} {A B : Prop} (h : b = false) (q : B) : if b = true then A else B := by rw [if_neg (by rw [h]; exact Bool.false_ne_true)]; exact q
end
/-! ### a method called with keywords alone -/
structure MetK (P : Program) (w : World) (K : PySem.W.Frag) (mg : Str → Option Value) (base : Heap) (k : Nat) (C : Addr) (m : Str) (ks : List Str) (gV : List V → List V → List V) (sp : Sp) : Prop where
  ex : ∃ (f : Addr) (fd : FuncData) (ps : List Str) (g : List Value → List Value → List Value), Cls K C ∧ Meth K C m f ∧ FnOk P w K mg base CX0 k f fd ps sp ∧ KBinds K fd ps ks g gV
/-- o.m(k = e, ..) -/
def tMethK (C : Addr) (m : Str) (sp : Sp) (gV : List V → List V → List V) (ta : TE) (tk : TA) : TE := fun σ H Q => ta σ H fun x H1 => ∃ a dx fs, x = .ref a ∧ H1 a = some (.ins C dx fs) ∧ fs.lookup m = none ∧
  tk σ H1 fun zs H2 => sp (gV [x] zs) H2 Q (fun _ _ _ => False)
section
variable {X : Cx} {k j : Nat} {C : Addr} {m : Str} {ks : List Str} {gV : List V → List V → List V} {sp : Sp} {o : Expr} {kws : List Keyword} {ta : TE} {tk : TA} {pos apos : Pos}
theorem pe_mtK {pl : Sem Bool} (c : MetK X.prog X.w X.K X.mg X.base k C m ks gV sp) (hr : Room j X.A) (hk : k ≤ j) (ho : PE X o ta) (hkw : PK X kws tk)
    (hall : (backToKw pos (keywordEach kws X.env)).all (·.1.isSome) = true := by rfl) (hks : (backToKw pos (keywordEach kws X.env)).filterMap (·.1) = ks := by rfl)
    (hpl : ((backTo pos (starEach [] X.env)).any (·.1) || (backToKw pos (keywordEach kws X.env)).any (·.1.isNone)) = false := by rfl)
    (form : eval (.Call (.Attribute o m apos) [] kws pos) X.env = (do
      let obj ← eval o X.env
      standAt apos.atName
      let (fn, firsts) ← holding [obj] (getMethod obj m pl)
      callWith pos fn firsts (backTo pos (starEach [] X.env)) (backToKw pos (keywordEach kws X.env))) := by rfl) :
    PE X (.Call (.Attribute o m apos) [] kws pos) (tMethK C m sp gV ta tk) := by
  obtain ⟨f, fd, ps, g, cl, me, F, kb⟩ := c.ex
  refine ⟨fun pins s σ H Q I h => PySem.W.methodCall_KW (pl := pl) (thn (ho.run pins s σ H _ I h) fun u s1 got => ?_) form⟩
  obtain ⟨x, H1, I1, rx, a, dx, fs, ex, ea, l, q⟩ := got
  subst ex
  obtain rfl : u = Value.ref a := rx
  refine getmeth_ok I1 ea cl me l ?_
  refine PySem.W.callWith_KW0 (h₀ := X.base) I1.ok.mod.kin me.kp hall (thn (hkw.run pos pins s1 σ H1 _ I1 q) fun ws s2 got2 => ?_) hpl
  obtain ⟨zs, H2, I2, rz, q2⟩ := got2
  refine ⟨I2.kIn, ?_⟩
  rw [hks]
  exact run_fnk (us := [.ref a]) (vs := [.ref a]) F (hr.mono hk) kb pass0 I2 (.cons rfl .nil) rz q2
def MethKQ (C : Addr) (m : Str) (sp : Sp) (gV : List V → List V → List V) (tk : TA) (σ : L2.St) (x : V) (H : Hp) (Q : VK) : Prop := ∃ a dx fs, x = .ref a ∧ H a = some (.ins C dx fs) ∧ fs.lookup m = none ∧ tk σ H fun zs H2 => sp (gV [x] zs) H2 Q (fun _ _ _ => False)
theorem g_tmethK {σ : L2.St} {H : Hp} {Q : VK} (q : ta σ H fun x H1 => MethKQ C m sp gV tk σ x H1 Q) : tMethK C m sp gV ta tk σ H Q := q
theorem g_methK {σ : L2.St} {H : Hp} {Q : VK} {a dx : Addr} {fs : List (Str × V)} (h : H a = some (.ins C dx fs)) (l : fs.lookup m = none) (q : tk σ H fun zs H2 => sp (gV [.ref a] zs) H2 Q (fun _ _ _ => False)) : MethKQ C m sp gV tk σ (.ref a) H Q := ⟨a, dx, fs, rfl, h, l, q⟩
end
/-! ### a property -/
structure PropR (P : Program) (w : World) (K : PySem.W.Frag) (mg : Str → Option Value) (base : Heap) (k : Nat) (C : Addr) (f : Str) (sp : Sp) : Prop where
  ex : ∃ (p g : Addr) (fd : FuncData) (ps : List Str), Cls K C ∧ PropOf K C f p g ∧ FnOk P w K mg base CX0 k g fd ps sp ∧ Binds K fd ps []
theorem pe_pr {X : Cx} {k j : Nat} {C : Addr} {f : Str} {sp : Sp} {e : Expr} {ta : TE} {pos : Pos} (c : PropR X.prog X.w X.K X.mg X.base k C f sp) (hr : Room j X.A) (hk : k + 1 ≤ j) (he : PE X e ta) (hab : attributeBase e f X.env (eval e X.env) = eval e X.env := by rfl) :
    PE X (.Attribute e f pos) (tProp C sp [] (fun _ _ _ => False) ta) := by
  obtain ⟨p, g, fd, ps, cl, pr, F, b⟩ := c.ex
  exact pe_prop he cl pr F (hr.mono hk) b .nil pass0 hab
/-- two keywords, the second parameter's value comes last -/
def swapV : List V → List V → List V
  | [a], [y, x] => [a, x, y]
  | _, _ => []
def swapU : List Value → List Value → List Value
  | [a], [y, x] => [a, x, y]
  | _, _ => []
theorem swap_rel {vs : List V} {us : List Value} {zs : List V} {ws : List Value} (r : Vals vs us) (rz : Vals zs ws) : Vals (swapV vs zs) (swapU us ws) := by
  cases r with
  | nil => exact .nil
  | cons r1 r =>
    cases r with
    | nil =>
      cases rz with
      | nil => exact .nil
      | cons z1 rz =>
        cases rz with
        | nil => exact .nil
        | cons z2 rz =>
          cases rz with
          | nil => exact .cons r1 (.cons z2 (.cons z1 .nil))
          | cons _ _ => exact .nil
    | cons _ _ => exact .nil
/-- one keyword -/
def oneV : List V → List V → List V
  | [a], [x] => [a, x]
  | _, _ => []
def oneU : List Value → List Value → List Value
  | [a], [x] => [a, x]
  | _, _ => []
theorem one_rel {vs : List V} {us : List Value} {zs : List V} {ws : List Value} (r : Vals vs us) (rz : Vals zs ws) : Vals (oneV vs zs) (oneU us ws) := by
  cases r with
  | nil => exact .nil
  | cons r1 r =>
    cases r with
    | nil =>
      cases rz with
      | nil => exact .nil
      | cons z1 rz =>
        cases rz with
        | nil => exact .cons r1 (.cons z1 .nil)
        | cons _ _ => exact .nil
    | cons _ _ => exact .nil
theorem kbinds_one {K : PySem.W.Frag} {fd : FuncData} {s k : Str} (h : ∀ a x : Value, bindArgs fd ⟨[a], [(k, x)]⟩ = pure [(s, a), (k, x)]) : KBinds K fd [s, k] [k] oneU oneV := by
  refine ⟨fun st us ws _ hl => ?_, one_rel⟩
  match us, ws, hl with
  | [a], [x], _ => exact .of_eq (h a x)
  | [], _, hl => simp [oneU] at hl
  | [_], [], hl => simp [oneU] at hl
  | [_], _ :: _ :: _, hl => simp [oneU] at hl
  | _ :: _ :: _, _, hl => simp [oneU] at hl
theorem kbinds_swap {K : PySem.W.Frag} {fd : FuncData} {s k1 k2 : Str} (h : ∀ a x y : Value, bindArgs fd ⟨[a], [(k2, y), (k1, x)]⟩ = pure [(s, a), (k1, x), (k2, y)]) : KBinds K fd [s, k1, k2] [k2, k1] swapU swapV := by
  refine ⟨fun st us ws _ hl => ?_, swap_rel⟩
  match us, ws, hl with
  | [a], [y, x], _ => exact .of_eq (h a x y)
  | [], _, hl => simp [swapU] at hl
  | [_], [], hl => simp [swapU] at hl
  | [_], [_], hl => simp [swapU] at hl
  | [_], _ :: _ :: _ :: _, hl => simp [swapU] at hl
  | _ :: _ :: _, _, hl => simp [swapU] at hl
end Gx

/-! Lines of points: what stands at such an object, the promises of its methods -/
namespace Gx
open PySem L2
/-- whether an object is a whole number (no truth value) -/
inductive WholeV (K : PySem.W.Frag) (H : Hp) : V → Bool → Prop
  | int (i : Int) : WholeV K H (.int i) true
  | bl (c : Bool) : WholeV K H (.bl c) false
  | other {x : V} {t : Value} (ty : TyX K H x t) (no : PySem.W.kitOne K t (.type "int") = some false) : WholeV K H x false
def spWhole (K : PySem.W.Frag) : Sp := fun vs H Q _ => ∃ x b, vs = [x] ∧ WholeV K H x b ∧ Q (.bl b) H
def spPoint (K : PySem.W.Frag) : Sp := fun vs H Q _ => ∃ p x b, vs = [.ref p, x] ∧ WholeV K H x b ∧ Q (.bl b) H
/-- the attributes of a line -/
def lf (q : Addr) : List (Str × V) := [("own_points", .ref q)]
theorem lf_own (q : Addr) : (lf q).lookup ("own_points" : Str) = some (.ref q) := by simp [lf, List.lookup]
theorem lf_no (q : Addr) {m : Str} (h : (m == ("own_points" : Str)) = false) : (lf q).lookup m = none := by simp [lf, List.lookup, h]
/-- a line of the class at C stands at p, its points are xs -/
def LineAt (C : Addr) (H : Hp) (p : Addr) (xs : List V) : Prop := ∃ dx q, H p = some (.ins C dx (lf q)) ∧ H q = some (.lst xs)
theorem LineAt.same {C : Addr} {H H' : Hp} {p : Addr} {xs : List V} (h : LineAt C H p xs) (s : Same H H') : LineAt C H' p xs := by
  obtain ⟨dx, q, h1, h2⟩ := h
  exact ⟨dx, q, s _ _ h1, s _ _ h2⟩
/-- what the walk asks of the class of a line -/
structure LineC (K : PySem.W.Frag) (C : Addr) : Prop where
  cl : Cls K C
  own : NoAttr K C "own_points"
/-- a line of ints is made -/
def spInitI (K : PySem.W.Frag) (C : Addr) : Sp := fun vs H Q _ => ∃ (p a dx : Addr) (ns : List Int), vs = [.ref p, .ref a] ∧ H p = some (.ins C dx []) ∧ H a = some (.lst (ns.map V.int)) ∧ ns.length ≤ 500 ∧ ns.Pairwise (· < ·) ∧
  ∀ H', LineAt C H' p (ns.map V.int) → But p H H' → Q .non H'
/-- its points, as a new list -/
def spPoints (K : PySem.W.Frag) (C : Addr) : Sp := fun vs H Q _ => ∃ (p : Addr) (xs : List V), vs = [.ref p] ∧ LineAt C H p xs ∧ ∀ l H', H l = none → Same H H' → H' l = some (.lst xs) → Q (.ref l) H'
theorem rising_zip {ns : List Int} (h : ns.Pairwise (· < ·)) {i : Nat} {a b : Int} (ha : ns[i]? = some a) (hb : (ns.drop 1)[i]? = some b) : a < b := by
  rw [List.getElem?_drop] at hb
  have h1 := List.getElem?_eq_some_iff.mp ha
  have h2 := List.getElem?_eq_some_iff.mp hb
  obtain ⟨l1, e1⟩ := h1
  obtain ⟨l2, e2⟩ := h2
  have q := List.pairwise_iff_getElem.mp h i (1 + i) l1 l2 (by omega)
  rw [e1, e2] at q
  exact q
theorem ints_at {ns : List Int} {i : Nat} {x : V} (h : (ns.map V.int)[i]? = some x) : ∃ n, ns[i]? = some n ∧ x = V.int n := by
  rw [List.getElem?_map] at h
  cases e : ns[i]? with
  | none => rw [e] at h; cases h
  | some n => rw [e] at h; exact ⟨n, rfl, (Option.some.inj h).symm⟩
theorem but_same {p : Addr} {H H' : Hp} {o : HO} (s : Same H H') : But p H (upd H' p o) := fun b u nb e => by
  rw [upd_ne nb]
  exact s b u e
theorem cut_one (xs : List V) : cutV xs (some 1) none = xs.drop 1 := by
  unfold cutV
  cases xs with
  | nil => rfl
  | cons x r =>
    have e1 : HT.sIx (x :: r).length 0 (some 1) = 1 := by
      simp [HT.sIx]
    have e2 : HT.sIx (x :: r).length (x :: r).length none = (x :: r).length := rfl
    rw [e1, e2]
    exact List.take_of_length_le (by simp)
end Gx

/-! Cells of a line of ints -/
namespace Gx
open PySem L2
theorem g_isN1 {H : Hp} {Q : VK} {x : V} (q : Q (.bl (decide (x = .non))) H) : rIsN x .non H Q := ⟨rfl, q⟩
theorem g_notN1 {H : Hp} {Q : VK} {x : V} (q : Q (.bl (!decide (x = .non))) H) : rNotN x .non H Q := ⟨rfl, q⟩
theorem g_iteF {c : Prop} [Decidable c] {A B : Prop} (h : ¬ c) (q : B) : if decide c = true then A else B := g_ifF (decide_eq_false h) q
theorem g_iteT {c : Prop} [Decidable c] {A B : Prop} (h : c) (q : A) : if decide c = true then A else B := g_ifT (decide_eq_true h) q
abbrev oV : Option Int → V
  | none => .non
  | some i => .int i
def oD : Option Int → PyData
  | none => .none
  | some i => .int i
def leastOf (lo : Int) : Option Int → Int
  | none => lo
  | some x => if x + 1 > lo then x + 1 else lo
def mostOf (hi : Int) : Option Int → Int
  | none => hi
  | some y => if y - 1 < hi then y - 1 else hi
def gapIn (l r : Option Int) (lo hi : Int) : Bool := decide (leastOf lo l ≤ mostOf hi r)
def gapD (l r : Option Int) : PyData := .tuple [.str "gap", oD l, oD r]
def pointD (y : Int) : PyData := .tuple [.str "point", .int y]
def ptStep (lo hi : Int) : Option Int → List PyData
  | none => []
  | some y => if lo ≤ y ∧ y ≤ hi then [pointD y] else []
def cellStep (lo hi : Int) (l r : Option Int) : List PyData := (if gapIn l r lo hi = true then [gapD l r] else []) ++ ptStep lo hi r
def cellFold (lo hi : Int) (s : Option Int × List PyData) (r : Option Int) : Option Int × List PyData := (r, s.2 ++ cellStep lo hi s.1 r)
/-- the points of a line and its open end -/
def rights (ns : List Int) : List (Option Int) := ns.map some ++ [none]
def cellsOf (ns : List Int) (lo hi : Int) : List PyData := ((rights ns).foldl (cellFold lo hi) (none, [])).2
theorem rights_len (ns : List Int) : (rights ns).length = ns.length + 1 := by simp [rights]
theorem rights_V (ns : List Int) : ns.map V.int ++ [V.non] = (rights ns).map oV := by simp [rights, oV, Function.comp_def]
theorem step_len (lo hi : Int) (l r : Option Int) : (cellStep lo hi l r).length ≤ 2 := by
  unfold cellStep
  rw [List.length_append]
  have h1 : (if gapIn l r lo hi = true then [gapD l r] else []).length ≤ 1 := by split <;> simp
  have h2 : (ptStep lo hi r).length ≤ 1 := by
    cases r with
    | none => simp [ptStep]
    | some y =>
      show (if lo ≤ y ∧ y ≤ hi then [pointD y] else []).length ≤ 1
      by_cases c : lo ≤ y ∧ y ≤ hi
      · rw [if_pos c]
        exact Nat.le_refl 1
      · rw [if_neg c]
        exact Nat.zero_le 1
  omega
theorem fold_next {α β : Type} (f : β → α → β) {l : List α} {i : Nat} {x : α} (b : β) (h : l[i]? = some x) : (l.take (i + 1)).foldl f b = f ((l.take i).foldl f b) x := by
  rw [List.take_succ, h, List.foldl_append]
  rfl
mutual
/-- data without lists: it stays whatever list is changed -/
def noLst : PyData → Bool
  | .none | .bool _ | .int _ | .str _ => true
  | .list _ | .dict _ => false
  | .tuple xs => noLstAll xs
def noLstAll : List PyData → Bool
  | [] => true
  | x :: xs => noLst x && noLstAll xs
end
theorem noLstAll_iff : ∀ {xs : List PyData}, noLstAll xs = true ↔ ∀ x ∈ xs, noLst x = true
  | [] => by simp [noLstAll]
  | x :: xs => by simp [noLstAll, noLstAll_iff (xs := xs)]
section
variable {K : PySem.W.Frag} {H H' : Hp} {p : Addr} {l : List V}
theorem sqT_but (hp : H p = some (.lst l)) (b : But p H H') {a : Addr} {xs : List V} (h : SqT K H a xs) : SqT K H' a xs := by
  rcases h with (h | ⟨o, h⟩) | h
  · exact .inl (.inl (b a _ (ne_of h hp (by intro z; cases z)) h))
  · exact .inl (.inr ⟨o, b a _ (ne_of h hp (by intro z; cases z)) h⟩)
  · exact .inr h
mutual
theorem dp_but (hp : H p = some (.lst l)) (b : But p H H') : ∀ (d : PyData) (v : V), noLst d = true → Dp K H v d → Dp K H' v d
  | .none, _, _, h => by cases h; exact .non
  | .bool c, _, _, h => by cases h; exact .bl c
  | .int i, _, _, h => by cases h; exact .int i
  | .str x, _, _, h => by cases h; exact .str x
  | .list _, _, n, _ => by simp [noLst] at n
  | .dict _, _, n, _ => by simp [noLst] at n
  | .tuple ds, _, n, h => by
    cases h with
    | tup a c => exact .tup (sqT_but hp b a) (dp_butAll hp b ds _ (by simpa [noLst] using n) c)
theorem dp_butAll (hp : H p = some (.lst l)) (b : But p H H') : ∀ (ds : List PyData) (vs : List V), noLstAll ds = true → DpAll K H vs ds → DpAll K H' vs ds
  | [], _, _, h => by cases h; exact .nil
  | d :: ds, _, n, h => by
    simp only [noLstAll, Bool.and_eq_true] at n
    cases h with
    | cons a c => exact .cons (dp_but hp b d _ n.1 a) (dp_butAll hp b ds _ n.2 c)
end
end
theorem dp_o {K : PySem.W.Frag} {H : Hp} : ∀ (o : Option Int), Dp K H (oV o) (oD o)
  | none => .non
  | some i => .int i
theorem noLst_gap (l r : Option Int) : noLst (gapD l r) = true := by
  cases l <;> cases r <;> simp [gapD, noLst, noLstAll, oD]
theorem noLst_point (y : Int) : noLst (pointD y) = true := by simp [pointD, noLst, noLstAll]
theorem noLst_step (lo hi : Int) (l r : Option Int) : ∀ d ∈ cellStep lo hi l r, noLst d = true := by
  intro d hd
  unfold cellStep at hd
  rcases List.mem_append.mp hd with h | h
  · split at h
    · rw [List.mem_singleton.mp h]
      exact noLst_gap l r
    · cases h
  · cases r with
    | none => cases h
    | some y =>
      have h : d ∈ (if lo ≤ y ∧ y ≤ hi then [pointD y] else []) := h
      by_cases c : lo ≤ y ∧ y ≤ hi
      · rw [if_pos c] at h
        rw [List.mem_singleton.mp h]
        exact noLst_point _
      · rw [if_neg c] at h
        cases h
theorem cells_keep (P : PyData → Prop) (lo hi : Int) : ∀ (rs : List (Option Int)) (s : Option Int × List PyData), (∀ l r, ∀ d ∈ cellStep lo hi l r, P d) → (∀ d ∈ s.2, P d) → ∀ d ∈ (rs.foldl (cellFold lo hi) s).2, P d
  | [], s, _, h2 => h2
  | r :: rs, s, h1, h2 => cells_keep P lo hi rs (cellFold lo hi s r) h1 fun d hd => by
    rcases List.mem_append.mp hd with h | h
    · exact h2 d h
    · exact h1 _ _ d h
theorem noLst_cells (lo hi : Int) (rs : List (Option Int)) : noLstAll (rs.foldl (cellFold lo hi) (none, [])).2 = true :=
  noLstAll_iff.mpr (cells_keep _ lo hi rs _ (fun l r => noLst_step lo hi l r) fun d h => nomatch h)
theorem same_but {p : Addr} {H H1 H2 : Hp} (s : Same H H1) (n : H p = none) (b : But p H1 H2) : Same H H2 := fun a o e => b a o (ne_of_none e n) (s a o e)
theorem g_appB {p : Addr} {H : Hp} {Q : VK} {xs : List V} {y : V} (h : H p = some (.lst xs)) (hl : xs.length < 100000) (k : ∀ H', But p H H' → H' p = some (.lst (xs ++ [y])) → Q .non H') : rAppend (.ref p) [y] H Q :=
  ⟨p, xs, y, rfl, rfl, h, big_lt hl, k _ (fun a o n e => by rw [upd_ne n]; exact e) upd_same⟩
theorem g_clear {p : Addr} {H H0 : Hp} {Q : VK} {xs : List V} (s : Same H0 H) (n : H0 p = none) (h : H p = some (.lst xs)) (k : ∀ H', Same H0 H' → H' p = some (.lst []) → Q .non H') : rClear (.ref p) [] H Q :=
  ⟨p, xs, rfl, rfl, h, k _ (same_mut s n) upd_same⟩
theorem g_unl {K : PySem.W.Frag} {k : Nat} {t : TGs} {a : Addr} {xs : List V} {σ : L2.St} {H : Hp} {Q : L2.St → Hp → Prop} (h : SqL K H a xs) (hl : xs.length = k) (q : t xs σ H Q) : gUnl K k t (.ref a) σ H Q := ⟨a, xs, rfl, h, hl, q⟩
theorem g_cat {l b : Addr} {xs zs : List V} {H : Hp} {Q : VK} (h1 : H l = some (.lst xs)) (h2 : H b = some (.lst zs)) (hl : xs.length + zs.length ≤ 100000) (k : ∀ p H', H p = none → Same H H' → H' p = some (.lst (xs ++ zs)) → Q (.ref p) H') : rCat (.ref l) (.ref b) H Q :=
  ⟨l, b, xs, zs, rfl, rfl, h1, h2, big_le hl, fun p hp => k p _ hp (same_new hp) upd_same⟩
theorem g_sorted {K : PySem.W.Frag} {a : Addr} {ns : List Int} {H : Hp} {Q : VK} (h : SqL K H a (ns.map V.int)) (few : ns.length < 64) (k : ∀ (ms : List Int) (p : Addr) (H' : Hp), ms.Perm ns → ms.Pairwise (· ≤ ·) → H p = none → Same H H' → H' p = some (.lst (ms.map V.int)) → Q (.ref p) H') : rSorted K [V.ref a] H Q :=
  ⟨a, ns, rfl, h, few, fun ms p h1 h2 h3 => k ms p _ h1 h2 h3 (same_new h3) upd_same⟩
/-- two numbers in order -/
theorem two_sorted {ms : List Int} {a b : Int} (p : ms.Perm [a, b]) (u : ms.Pairwise (· ≤ ·)) : ∃ x y, ms = [x, y] ∧ x ≤ y ∧ (x = a ∨ x = b) ∧ (y = a ∨ y = b) := by
  have l := p.length_eq
  match ms, l with
  | [x, y], _ =>
    refine ⟨x, y, rfl, ?_, ?_, ?_⟩
    · have := List.pairwise_cons.mp u
      exact this.1 y List.mem_cons_self
    · have : x ∈ [a, b] := p.mem_iff.mp List.mem_cons_self
      simpa using this
    · have : y ∈ [a, b] := p.mem_iff.mp (List.mem_cons_of_mem _ List.mem_cons_self)
      simpa using this
theorem ors_at {rs : List (Option Int)} {i : Nat} {x : V} (h : (rs.map oV)[i]? = some x) : ∃ r, rs[i]? = some r ∧ x = oV r := by
  rw [List.getElem?_map] at h
  cases e : rs[i]? with
  | none => rw [e] at h; cases h
  | some n => rw [e] at h; exact ⟨n, rfl, (Option.some.inj h).symm⟩
/-! ### the promises -/
def spAhead : Sp := fun vs H Q _ => ∃ (p : Addr) (a lo : Int), vs = [.ref p, .int a, .int lo] ∧ Q (.bl (decide (a < lo))) H
def spBeyond : Sp := fun vs H Q _ => ∃ (p : Addr) (a hi : Int), vs = [.ref p, .int a, .int hi] ∧ Q (.bl (decide (hi < a))) H
def spBetween : Sp := fun vs H Q _ => ∃ (p : Addr) (l r : Option Int) (lo hi : Int), vs = [.ref p, oV l, oV r, .int lo, .int hi] ∧ Q (.bl (gapIn l r lo hi)) H
def spCells (K : PySem.W.Frag) (C : Addr) : Sp := fun vs H Q _ => ∃ (p : Addr) (ns : List Int) (lo hi : Int), vs = [.ref p, .int lo, .int hi] ∧ LineAt C H p (ns.map V.int) ∧ lo ≤ hi ∧ ns.length ≤ 500 ∧
  ∀ (a : Addr) (acc : List V) (H' : Hp), H a = none → Same H H' → H' a = some (.lst acc) → DpAll K H' acc (cellsOf ns lo hi) → acc.length ≤ 1002 → Q (.ref a) H'
end Gx

/-! set(xs), xs a list: what is true of the set behind each item, by any word J -/
namespace Gx
open PySem L2 PySem.Spec PyProof.Rows
section
variable {P : Program} {w : World} {A : Around} {E : Value → Shared → Prop} {s : Shared}
/-- one add: from J i to J (i + 1), only the set and the tokens change -/
def Adds (P : Program) (w : World) (S : Addr) (h0 : Heap) (J : Nat → Heap → Prop) (i : Nat) (v : Value) : Prop :=
  ∀ (B : Around) (F : Value → Shared → Prop) (s : Shared) (Q : Bool → Shared → Prop), B.units < cLine → J i s.heap → (∀ b o, h0.get? b = some o → s.heap.get? b = some o) →
    (∀ r h' tk, Heap.SameBut S s.heap h' → J (i + 1) h' → s.toks ≤ tk → Q r { s with heap := h', toks := tk }) → wpAny (model P w) B (setAdd S v) Q F s
/-- what J leans on: the set's object and what stood before -/
def Leans (S : Addr) (h0 : Heap) (J : Nat → Heap → Prop) : Prop :=
  ∀ i h h', J i h → (∀ o, h.get? S = some o → h'.get? S = some o) → (∀ b o, h0.get? b = some o → h'.get? b = some o) → J i h'
theorem set_turns {I : Addr} {fp wr : List Addr} {G : Array GenState → Array GenState → Prop} {n : Nat} {Pv : Nat → Value → Prop} {St : Nat → Shared → Prop} {R : Result → Shared → Prop}
    (W : WalksS P w A.in1 I fp wr G n Pv St) {S : Addr} (apart : S ∉ fp) {h0 : Heap} (S0 : h0.get? S = none) (w0 : ∀ b ∈ wr, h0.get? b = none) (hu : A.in1.units < cLine)
    {J : Nat → Heap → Prop} (lean : Leans S h0 J) (adds : ∀ i v, i < n → Pv i v → Adds P w S h0 J i v) :
    ∀ (k i : Nat) (s : Shared), n - i = k → i ≤ n → St i s → (∀ b o, h0.get? b = some o → s.heap.get? b = some o) → J i s.heap →
      (∀ s', Moved (S :: wr) G s s' → J n s'.heap → (∀ b o, h0.get? b = some o → s'.heap.get? b = some o) → R (.ok (.ret .none)) s') →
      codeAny (model P w) A (.builtin "set.update.loop" ⟨[.ref S, .ref I], []⟩) R s := by
  have nwr : S ∉ wr := fun h => apart (W.sub _ h)
  have more : ∀ b ∈ wr, b ∈ S :: wr := fun b hb => List.mem_cons_of_mem _ hb
  have stays : ∀ {s s' : Shared}, Moved wr G s s' → (∀ b o, h0.get? b = some o → s.heap.get? b = some o) → ∀ b o, h0.get? b = some o → s'.heap.get? b = some o := fun mv st b o e =>
    mv.heap b o (fun hb => by rw [w0 b hb] at e; cases e) (st b o e)
  intro k
  induction k with
  | zero =>
    intro i s hk hi st old ji fin
    obtain rfl : i = n := by omega
    refine codeAny_builtin F.entry_set_update_loop ?_
    rw [Around.under_plainId F.plain_set_update_loop _]
    refine wpAny_bind (W.done s _ _ st fun s' mv => ?_)
    exact wpAny_pure (fin s' (mv.mono more) (lean i _ _ ji (fun o e => mv.heap S o nwr e) (stays mv old)) (stays mv old))
  | succ k ih =>
    intro i s hk hi st old ji fin
    have lt : i < n := by omega
    refine codeAny_builtin F.entry_set_update_loop ?_
    rw [Around.under_plainId F.plain_set_update_loop _]
    refine wpAny_bind (W.item i s _ _ lt st fun v s' pv st' mv => ?_)
    have old' := stays mv old
    refine wpAny_bind (wpAny_holding (adds i v lt pv A.in1 _ s' _ hu (lean i _ _ ji (fun o e => mv.heap S o nwr e) old') old' fun r h' tk sb ji' le => ?_))
    have old2 : ∀ b o, h0.get? b = some o → h'.get? b = some o := fun b o e => (sb.2 b (fun z => by rw [z, S0] at e; cases e)).trans (old' b o e)
    refine wpAny_pure ⟨plainId_quiet F.plain_set_update_loop _, ih (i + 1) _ (by omega) lt (W.frame _ s' _ _ st' le fun b hb o e => (sb.2 b (fun z => apart (by rw [← z]; exact hb))).trans e) old2 ji' fun s2 mv2 jn old3 => ?_⟩
    exact fin s2 (Moved.trans W.gtrans ((mv.mono more).then_heap le fun b o hb e => (sb.2 b (fun z => hb (by rw [z]; exact List.mem_cons_self))).trans e) mv2) jn old3
set_option maxHeartbeats 4000000 in
theorem set_of_list {l : Addr} {items : Array Value} {Q : Value → Shared → Prop} (J : Nat → Heap → Prop) (calm : A.handled = none) (hl : s.heap.IsList l items) (hu : A.units + 8 < cLine)
    (lean : Leans s.heap.objs.size s.heap J) (adds : ∀ (i : Nat) v, items[i]? = some v → Adds P w s.heap.objs.size s.heap J i v)
    (start : ∀ h', h'.get? s.heap.objs.size = some { cls := .type "set", dict := none, data := .set #[] 0 (.fresh 0 0 (!w.params.followText "set-order")) } → (∀ b o, s.heap.get? b = some o → h'.get? b = some o) → J 0 h')
    (fin : ∀ h' tk, J items.size h' → (∀ b o, s.heap.get? b = some o → h'.get? b = some o) → Q (.ref s.heap.objs.size) { s with heap := h', toks := tk }) :
    wpAny (model P w) A (call (.type "set") [.ref l]) Q E s := by
  obtain ⟨c, tl, inMro⟩ := F.called_set.mro
  have isMade := F.called_set.made
  have isSub := F.called_set.sub
  refine wpAny_call (codeAny_of_tree ?_)
  show wpAny _ _ (callAny (.type "set") _) _ _ _
  refine wpAny_pure ⟨Code.quiet_builtin _ (by decide +kernel), codeAny_builtin F.entry_type_call ?_⟩
  rw [Around.under_plain (weight_type_call_type "set" [.ref l] []) rfl]
  have noType := F.called_set.notType
  have canMake := F.called_set.canCreate
  have checked := F.typeCall_set_1 (.ref l)
  repeat (any_goals (first | assumption | wp_step))
  generalize ef : (Obj.mk (.type "set") none (.set #[] 0 (.fresh 0 0 (!w.params.followText "set-order"))) #[]) = fresh
  refine codeAny_mono (code_set_led1 (.ref l) (E := E) (Q₁ := fun v s1 => v = .ref s.heap.objs.size ∧ s1 = { s with heap := s.heap.push fresh }) (by subst ef; exact ⟨rfl, rfl⟩)) fun r s1 got => ?_
  cases r with
  | error e => exact got
  | ok fl =>
    cases fl with
    | ret v =>
      obtain ⟨rfl, rfl⟩ := got
      have at_S : (s.heap.push fresh).get? s.heap.objs.size = some fresh := by subst ef; exact Heap.get?_push_size _ rfl
      have isSet : Shared.TypeIs { s with heap := s.heap.push fresh } (.ref s.heap.objs.size) "set" := ⟨_, at_S, by subst ef; rfl⟩
      have look := F.called_set.init.lookup
      have bound := F.called_set.init.bind (.ref s.heap.objs.size)
      repeat (any_goals (first | assumption | wp_step))
      refine codeAny_mono (codeAny_call_builtin (R := wants (fun r s2 => r = .none ∧ ∃ h' tk, s2 = { s with heap := h', toks := tk } ∧ J items.size h' ∧ (∀ b o, s.heap.get? b = some o → h'.get? b = some o)) E)
        F.called_set.init.plain F.entry_set_init (check_set_init_1 isSet ?_)) fun r2 s2 got2 => ?_
      · subst ef
        obtain ⟨ol, hol, hcl, nl, hdl⟩ := hl
        obtain ⟨ocls, odict, odata, oslots⟩ := ol
        simp only at hcl hdl
        subst hcl; subst hdl
        have there : (s.heap.push ⟨.type "set", none, .set #[] 0 (.fresh 0 0 (!w.params.followText "set-order")), #[]⟩).get? l = some { cls := .type "list", dict := odict, data := .seq items nl, slots := oslots } := Heap.get?_push_of_some _ hol
        have s1 := F.sub_list_set
        have s2 := F.sub_list_frozenset
        have ne : (Value.type "list" == Value.type "dict") = false := by decide
        have isL : (s.heap.push ⟨.type "set", none, .set #[] 0 (.fresh 0 0 (!w.params.followText "set-order")), #[]⟩).IsList l items := ⟨_, there, rfl, nl, rfl⟩
        unfold Builtin.«set.__init__» noKeywords Builtin.Frozenset.updateFrom
        generalize ePI : pyIter = PI
        wp_walk
        subst ePI
        refine wpAny_pyIter_list isL ?_
        refine wpAny_bind ?_
        refine wpAny_runValue ?_
        have calm3 : A.in1.in1.in1.handled = none := by simp [calm]
        have sz : (s.heap.push ⟨.type "set", none, .set #[] 0 (.fresh 0 0 (!w.params.followText "set-order")), #[]⟩).objs.size = s.heap.objs.size + 1 := Heap.size_push ..
        have lS := Heap.lt_size hol
        have nl1 : l ≠ (s.heap.push ⟨.type "set", none, .set #[] 0 (.fresh 0 0 (!w.params.followText "set-order")), #[]⟩).objs.size := by rw [sz]; exact Nat.ne_of_lt (Nat.lt_succ_of_lt lS)
        have free : ∀ b, s.heap.objs.size ≤ b → s.heap.get? b = none := fun b hb => by
          cases q : s.heap.get? b with
          | none => rfl
          | some o => exact absurd (Nat.lt_of_lt_of_le (Heap.lt_size q) hb) (Nat.lt_irrefl _)
        have apart : s.heap.objs.size ∉ [(s.heap.push ⟨.type "set", none, .set #[] 0 (.fresh 0 0 (!w.params.followText "set-order")), #[]⟩).objs.size, l] := by
          rw [sz]
          simp only [List.mem_cons, List.not_mem_nil, or_false, not_or]
          exact ⟨Nat.ne_of_lt (Nat.lt_succ_self _), Nat.ne_of_gt lS⟩
        have old1 : ∀ b o, s.heap.get? b = some o → ((s.heap.push ⟨.type "set", none, .set #[] 0 (.fresh 0 0 (!w.params.followText "set-order")), #[]⟩).push { cls := .type "list_iterator", data := .fields #[.ref l, .int 0 0] }).get? b = some o := fun b o e => Heap.get?_push_of_some _ (Heap.get?_push_of_some _ e)
        refine set_turns ((Walks.list calm3 _ l nl1 items).toS) apart (h0 := s.heap) (free _ (Nat.le_refl _)) (fun b hb => free b (by rw [List.mem_singleton.mp hb, sz]; exact Nat.le_succ _)) (by show A.units + 1 + 1 + 1 < cLine; omega) lean
          (fun i v _ pv => adds i v pv) (items.size - 0) 0 _ (by omega) (Nat.zero_le _) ⟨⟨_, Heap.get?_push_size _ rfl, rfl, rfl⟩, (isL.push _)⟩ old1 (start _ (Heap.get?_push_of_some _ at_S) old1) fun s3 mv jn old => ?_
        obtain ⟨h', g2, d', tk', os'⟩ := s3
        obtain rfl : g2 = s.gens := mv.gens
        obtain rfl : d' = s.drawn := mv.drawn
        obtain rfl : os' = s.os := mv.os
        show wpAny _ _ _ _ _ _
        refine wpAny_pure ?_
        show wpAny _ _ (ret Value.none) _ _ _
        exact wpAny_pure ⟨rfl, h', tk', rfl, jn, old⟩
      · cases r2 with
        | error e => exact got2
        | ok fl2 =>
          cases fl2 with
          | ret r =>
            obtain ⟨rfl, h', tk, rfl, jn, old⟩ := got2
            repeat (any_goals (first | assumption | wp_step))
            exact fin h' tk jn old
          | _ => exact got2.elim
    | _ => exact got.elim
end
end Gx

/-! set(xs), xs a list of ints -/
namespace Gx
open PySem L2 PySem.Spec PyProof.Rows
section
variable {P : Program} {w : World}
def JI (w : World) (S : Addr) (ns : List Int) (i : Nat) (h : Heap) : Prop := ∃ M n, SetR w h S M n ∧ (∀ k, M k = true ↔ k ∈ ns.take i) ∧ n ≤ i
theorem ji_lean {S : Addr} {h0 : Heap} {ns : List Int} : Leans S h0 (JI w S ns) := fun i h h' ⟨M, n, R, m, l⟩ k _ => ⟨M, n, R.at k, m, l⟩
theorem ji_adds {S : Addr} {h0 : Heap} {ns : List Int} {i : Nat} {k : Int} {t : Tok} (hk : ns[i]? = some k) (few : ns.length + 1 < scanBound) : Adds P w S h0 (JI w S ns) i (.int k t) := by
  intro B F s Q hu ji old fin
  obtain ⟨M, n, R, m, l⟩ := ji
  have hi := (List.getElem?_eq_some_iff.mp hk).1
  unfold setAdd
  refine wpAny_holding ?_
  refine wpAny_bind ((intKind P w).pyHash (k := k) (intKind_is _ _ _ _) ?_)
  have R1 : SetR w ({ s with toks := s.toks + 1 } : Shared).heap S M n := R
  refine setR_add_hashed (P := P) R1 (by omega) fun h' sb R2 => ?_
  refine fin _ h' (s.toks + 1) sb ⟨_, _, R2, fun j => ?_, ?_⟩ (Nat.le_succ _)
  · rw [List.take_succ, hk, Bool.or_eq_true, decide_eq_true_eq, List.mem_append, m j]
    simp
  · split <;> omega
theorem ji_start {S : Addr} {ns : List Int} {h : Heap} (e : h.get? S = some { cls := .type "set", dict := none, data := .set #[] 0 (.fresh 0 0 (!w.params.followText "set-order")) }) : JI w S ns 0 h := by
  refine ⟨fun _ => false, 0, ⟨_, #[], 0, _, e, ⟨rfl, rfl, rfl⟩, rfl, fun e h => (by cases h), List.nodup_nil, fun k => by simp, by decide, by rfl, rfl, by simp [SetTable.fresh, Ris], ?_⟩, fun k => by simp, Nat.le_refl 0⟩
  cases w.params.followText "set-order" with
  | true => exact .inl rfl
  | false => exact .inr rfl
end
section
variable {X : Cx}
def rSetOfI (K : PySem.W.Frag) (w : World) : List V → Hp → VK → Prop := fun xs H Q => ∃ (l : Addr) (ns : List Int), xs = [V.ref l] ∧ SqL K H l (ns.map V.int) ∧ ns.length < 4000 ∧
  ∀ (a : Addr) (M : Int → Bool) (n : Nat), H a = none → (∀ k, M k = true ↔ k ∈ ns) → n ≤ ns.length → Q (.ref a) (upd H a (SetO w a M n))
theorem cr_setOfI {j : Nat} (hc : X.calm = true) (hr : Room j X.A) : CallR X (.type "set") (rSetOfI X.K X.w) := by
  intro pins s σ H xs us Q I rel h
  obtain ⟨l, ns, rfl, sq, few, k⟩ := h
  rw [Vals.ref1 rel]
  obtain ⟨its, rv, pl, sz⟩ := I.list sq
  have len : its.toArray.size = ns.length := by rw [List.size_toArray, ← rv.length, List.length_map]
  have few' : ns.length + 1 < scanBound := by have : scanBound = 4096 := rfl; omega
  refine set_of_list (JI X.w s.heap.objs.size ns) (I.ok.hd hc) pl.isList (by have := hr.units; omega) ji_lean (fun i v hv => ?_) (fun h' e _ => ji_start e) fun h' tk jn old => ?_
  · rw [List.getElem?_toArray] at hv
    have hlt : i < ns.length := by
      have := (List.getElem?_eq_some_iff.mp hv).1
      rw [← rv.length, List.length_map] at this
      exact this
    obtain ⟨u, e1, r1⟩ := rv.get (i := i) (x := V.int ns[i]) (by rw [List.getElem?_map, List.getElem?_eq_getElem hlt] <;> rfl)
    rw [hv] at e1
    obtain rfl := Option.some.inj e1
    obtain ⟨t, rfl⟩ := r1
    exact ji_adds (List.getElem?_eq_getElem hlt) few'
  · obtain ⟨M, n, R, m, ln⟩ := jn
    rw [len, List.take_length] at m
    rw [len] at ln
    have new : H s.heap.objs.size = none := I.hok.fresh (Nat.le_refl _)
    exact ⟨.ref s.heap.objs.size, upd H s.heap.objs.size (SetO X.w s.heap.objs.size M n), I.laid (t' := tk) old (Nat.le_refl _) (setO_new R), rfl, k _ M n new m ln⟩
theorem g_setI {K : PySem.W.Frag} {w : World} {l : Addr} {ns : List Int} {H : Hp} {Q : VK} (h : SqL K H l (ns.map V.int)) (few : ns.length < 4000)
    (k : ∀ (a : Addr) (M : Int → Bool) (n : Nat) (H' : Hp), H a = none → Same H H' → H' a = some (SetO w a M n) → (∀ k, M k = true ↔ k ∈ ns) → n ≤ ns.length → Q (.ref a) H') : rSetOfI K w [V.ref l] H Q :=
  ⟨l, ns, rfl, h, few, fun a M n ha m ln => k a M n _ ha (same_new ha) upd_same m ln⟩
theorem g_sortedSet {w : World} {a : Addr} {M : Int → Bool} {n : Nat} {H : Hp} {Q : VK} (h : H a = some (SetO w a M n)) (few : n < 64)
    (k : ∀ (ns : List Int) (p : Addr) (H' : Hp), ns.Pairwise (· < ·) → (∀ k : Int, k ∈ ns ↔ M k = true) → ns.length = n → H p = none → Same H H' → H' p = some (.lst (ns.map V.int)) → Q (.ref p) H') : rSortedSet w [V.ref a] H Q :=
  ⟨a, M, n, rfl, h, few, fun ns p h1 h2 h3 h4 => k ns p _ h1 h2 h3 h4 (same_new h4) upd_same⟩
end
end Gx

/-! Cells found by trying numbers -/
namespace Gx
open PySem L2
theorem g_cutE {te : TE} {σ : L2.St} {H : Hp} {Q : VK} (P : V → Hp → Prop) (h : ∀ Q' : VK, (∀ v H', P v H' → Q' v H') → te σ H Q') (q : ∀ v H', P v H' → Q v H') : te σ H Q := h Q q
theorem g_cutT {tt : TT} {σ : L2.St} {H : Hp} {Q : Bool → Hp → Prop} (P : Bool → Hp → Prop) (h : ∀ Q' : Bool → Hp → Prop, (∀ b H', P b H' → Q' b H') → tt σ H Q') (q : ∀ b H', P b H' → Q b H') : tt σ H Q := h Q q
theorem dpAll_last {K : PySem.W.Frag} {H : Hp} {vs : List V} {ds : List PyData} {e : PyData} (h : DpAll K H vs ds) (he : ds.getLast? = some e) : ∃ v, vs.getLast? = some v ∧ Dp K H v e := by
  have l := dpAll_len h
  rw [List.getLast?_eq_getElem?] at he
  have hi := (List.getElem?_eq_some_iff.mp he).1
  have hv : vs[ds.length - 1]? = some (vs[ds.length - 1]'(by omega)) := List.getElem?_eq_getElem _
  obtain ⟨d, h1, h2⟩ := dpAll_get h hv
  rw [he] at h1
  obtain rfl := Option.some.inj h1
  refine ⟨_, ?_, h2⟩
  rw [List.getLast?_eq_getElem?]
  exact (congrArg (fun n => vs[n - 1]?) l).trans hv
theorem filter_ints (ns : List Int) (c : V → Bool) (d : Int → Bool) (h : ∀ n, c (.int n) = d n) : ((ns.map V.int).filter c).map (fun x => x) = (ns.filter d).map V.int := by
  induction ns with
  | nil => rfl
  | cons n ns ih =>
    rw [List.map_cons, List.filter_cons, List.filter_cons, h n]
    cases d n with
    | true => simp only [if_true, List.map_cons, ih]
    | false => simpa using ih
theorem eqV_int (a b : Int) : eqV (.int a) (.int b) = decide (a = b) := by
  show (a == b) = decide (a = b)
  by_cases h : a = b
  · subst h; simp
  · simp [h]
theorem inV_ints (n : Int) : ∀ ns : List Int, inV (.int n) (ns.map V.int) = decide (n ∈ ns)
  | [] => by simp [inV]
  | m :: ns => by
    have ih := inV_ints n ns
    unfold inV at ih ⊢
    rw [List.map_cons, List.any_cons, eqV_int, ih]
    by_cases h : m = n
    · subst h; simp
    · by_cases h2 : n ∈ ns <;> simp [h, h2, Ne.symm h, eq_comm]
theorem flat_ints (ns : List Int) : (ns.map V.int).all flatV = true := by
  rw [List.all_eq_true]
  intro x hx
  obtain ⟨n, _, rfl⟩ := List.mem_map.mp hx
  rfl
theorem g_inI {K : PySem.W.Frag} {H : Hp} {Q : VK} {p : Addr} {ns : List Int} {n : Int} (h : SqL K H p (ns.map V.int)) (q : Q (.bl (decide (n ∈ ns))) H) : rIn K false (.int n) (.ref p) H Q :=
  ⟨p, _, rfl, .inl h, rfl, flat_ints ns, by rw [inV_ints]; exact q⟩
theorem g_notInI {K : PySem.W.Frag} {H : Hp} {Q : VK} {p : Addr} {ns : List Int} {n : Int} (h : SqL K H p (ns.map V.int)) (q : Q (.bl (!decide (n ∈ ns))) H) : rIn K true (.int n) (.ref p) H Q :=
  ⟨p, _, rfl, .inl h, rfl, flat_ints ns, by rw [inV_ints]; exact q⟩
theorem eqv_ints (ns ms : List Int) : PyData.eqv (.list (ns.map PyData.int)) (.list (ms.map PyData.int)) = decide (ns = ms) := by
  by_cases h : ns = ms
  · rw [decide_eq_true h, eqv_yes (bare_ints _) (bare_ints _) (by rw [h])]
  · rw [decide_eq_false h, eqv_no (bare_ints _) (bare_ints _) (fun z => h (ints_inj.mp z))]
theorem g_neI {K : PySem.W.Frag} {H : Hp} {Q : VK} {p q : Addr} {ns ms : List Int} (h1 : SqL K H p (ns.map V.int)) (h2 : SqL K H q (ms.map V.int)) (k : Q (.bl (!decide (ns = ms))) H) : rNeD K (.ref p) (.ref q) H Q := by
  refine g_neD (dp_ints h1) (dp_ints h2) (shaped_ints _) (shaped_ints _) ?_
  rw [eqv_ints]
  exact k
theorem atI_neg1 {xs : List V} {v : V} (h : xs.getLast? = some v) : atI xs (-1) = some v := by
  have ne : xs ≠ [] := fun e => by rw [e] at h; cases h
  have e : xs = xs.dropLast ++ [v] := by
    have := List.dropLast_concat_getLast ne
    rw [List.getLast?_eq_some_getLast ne] at h
    rw [Option.some.inj h] at this
    exact this.symm
  rw [e]
  exact atI_last _ _
theorem atI_head {xs : List V} {v : V} (h : xs.head? = some v) : atI xs 0 = some v := by
  cases xs with
  | nil => cases h
  | cons x r => exact atI_nat (j := 0) h
theorem oV_last (ns : List Int) (h : ns ≠ []) : (ns.map V.int).getLast? = some (oV ns.getLast?) := by
  rw [List.getLast?_map, List.getLast?_eq_some_getLast h]
  rfl
theorem oV_head (ns : List Int) (h : ns ≠ []) : (ns.map V.int).head? = some (oV ns.head?) := by
  cases ns with
  | nil => exact absurd rfl h
  | cons n r => rfl
/-- the cell of a number -/
def cellAt (ns : List Int) (m : Int) : PyData := if m ∈ ns then pointD m else gapD (ns.filter fun n => decide (n < m)).getLast? (ns.filter fun n => decide (m < n)).head?
def sameLast (acc : List PyData) (d : PyData) : Bool := match acc.getLast? with
  | none => false
  | some e => PyData.eqv e d
def dueStep (ns : List Int) (acc : List PyData) (m : Int) : List PyData := if sameLast acc (cellAt ns m) = true then acc else acc ++ [cellAt ns m]
def dueOf (ns : List Int) (lo : Int) (k : Nat) : List PyData := (List.range k).foldl (fun acc (i : Nat) => dueStep ns acc (lo + (i : Int))) []
theorem due_succ (ns : List Int) (lo : Int) (k : Nat) : dueOf ns lo (k + 1) = dueStep ns (dueOf ns lo k) (lo + (k : Int)) := by
  unfold dueOf
  rw [List.range_succ, List.foldl_append]
  rfl
theorem eqv_nil (ds : List PyData) : PyData.eqv (.list ds) (.list []) = ds.isEmpty := by cases ds <;> simp [PyData.eqv, PyData.eqvAll]
/-! ### cells are small data -/
/-- numbers of at most eighty digits -/
def In80 (i : Int) : Prop := -100000000000000000000000000000000000000000000000000000000000000000000000000000000 ≤ i ∧ i ≤ 100000000000000000000000000000000000000000000000000000000000000000000000000000000
theorem fine_o {n : Nat} {o : Option Int} (h : ∀ i, o = some i → In80 i) : Fine n 1 (oD o) := by
  cases o with
  | none => exact fine_none
  | some i => exact fine_int (h i rfl).1 (h i rfl).2
theorem fine_gap {l r : Option Int} (hl : ∀ i, l = some i → In80 i) (hr : ∀ i, r = some i → In80 i) : Fine 1 4 (gapD l r) := by
  refine (fine_tuple (n := 0) (m := 1) (xs := [.str "gap", oD l, oD r]) fun x hx => ?_).mono (Nat.le_refl _) (by simp)
  simp only [List.mem_cons, List.not_mem_nil, or_false] at hx
  rcases hx with rfl | rfl | rfl
  · exact fine_str (by decide +kernel) (by decide +kernel)
  · exact fine_o hl
  · exact fine_o hr
theorem fine_point {y : Int} (h : In80 y) : Fine 1 4 (pointD y) := by
  refine (fine_tuple (n := 0) (m := 1) (xs := [.str "point", .int y]) fun x hx => ?_).mono (Nat.le_refl _) (by simp)
  simp only [List.mem_cons, List.not_mem_nil, or_false] at hx
  rcases hx with rfl | rfl
  · exact fine_str (by decide +kernel) (by decide +kernel)
  · exact fine_int h.1 h.2
theorem bare_gap (l r : Option Int) : bare (gapD l r) = true := by cases l <;> cases r <;> simp [gapD, oD, bare, bareAll]
theorem bare_point (y : Int) : bare (pointD y) = true := by simp [pointD, bare, bareAll]
theorem bare_cellAt (ns : List Int) (m : Int) : bare (cellAt ns m) = true := by
  unfold cellAt
  split
  · exact bare_point m
  · exact bare_gap _ _
theorem noLst_cellAt (ns : List Int) (m : Int) : noLst (cellAt ns m) = true := by
  unfold cellAt
  split
  · exact noLst_point m
  · exact noLst_gap _ _
theorem fine_cellAt {ns : List Int} (h : ∀ n ∈ ns, In80 n) {m : Int} (hm : In80 m) : Fine 1 4 (cellAt ns m) := by
  unfold cellAt
  split
  · exact fine_point hm
  · refine fine_gap (fun i e => h i ?_) (fun i e => h i ?_)
    · exact (List.mem_filter.mp (List.mem_of_getLast? e)).1
    · exact (List.mem_filter.mp (List.mem_of_head? e)).1
theorem due_all (P : PyData → Prop) {ns : List Int} {lo : Int} : ∀ (k : Nat), (∀ i : Nat, i < k → P (cellAt ns (lo + (i : Int)))) → ∀ d ∈ dueOf ns lo k, P d
  | 0, _, d, h => nomatch h
  | k + 1, hp, d, h => by
    rw [due_succ] at h
    unfold dueStep at h
    split at h
    · exact due_all P k (fun i hi => hp i (by omega)) d h
    · rcases List.mem_append.mp h with h | h
      · exact due_all P k (fun i hi => hp i (by omega)) d h
      · rw [List.mem_singleton.mp h]
        exact hp k (Nat.lt_succ_self k)
theorem due_len (ns : List Int) (lo : Int) : ∀ k : Nat, (dueOf ns lo k).length ≤ k
  | 0 => Nat.le_refl 0
  | k + 1 => by
    have ih := due_len ns lo k
    rw [due_succ]
    unfold dueStep
    split
    · omega
    · rw [List.length_append]
      exact Nat.succ_le_succ ih
def spDue (K : PySem.W.Frag) : Sp := fun vs H Q _ => ∃ (a : Addr) (ns : List Int) (lo hi : Int), vs = [.ref a, .int lo, .int hi] ∧ H a = some (.lst (ns.map V.int)) ∧ ns.length ≤ 500 ∧ (∀ n ∈ ns, In80 n) ∧ -1000 ≤ lo ∧ lo ≤ hi ∧ hi ≤ 1000 ∧
  ∀ (l : Addr) (acc : List V) (H' : Hp), H l = none → Same H H' → H' l = some (.lst acc) → DpAll K H' acc (dueOf ns lo (hi + 1 - lo).toNat) → Q (.ref l) H'
end Gx

/-! The cells found by trying all numbers are those that meet the range -/
namespace Gx
open PySem L2
def tryStep (f : Int → PyData) (acc : List PyData) (m : Int) : List PyData := if sameLast acc (f m) = true then acc else acc ++ [f m]
def tryN (f : Int → PyData) (acc : List PyData) (lo : Int) : Nat → List PyData
  | 0 => acc
  | n + 1 => tryStep f (tryN f acc lo n) (lo + (n : Int))
theorem tryN_due (ns : List Int) (lo : Int) : ∀ n, dueOf ns lo n = tryN (cellAt ns) [] lo n
  | 0 => rfl
  | n + 1 => by
    rw [due_succ, tryN_due ns lo n]
    rfl
theorem tryN_add (f : Int → PyData) (acc : List PyData) (lo : Int) (a : Nat) : ∀ b, tryN f acc lo (a + b) = tryN f (tryN f acc lo a) (lo + (a : Int)) b
  | 0 => rfl
  | b + 1 => by
    show tryStep f (tryN f acc lo (a + b)) (lo + ((a + b : Nat) : Int)) = tryStep f (tryN f (tryN f acc lo a) (lo + (a : Int)) b) (lo + (a : Int) + (b : Int))
    rw [tryN_add f acc lo a b, show lo + ((a + b : Nat) : Int) = lo + (a : Int) + (b : Int) by omega]
theorem tryN_congr {f g : Int → PyData} (acc : List PyData) (lo : Int) : ∀ n, (∀ i : Nat, i < n → f (lo + (i : Int)) = g (lo + (i : Int))) → tryN f acc lo n = tryN g acc lo n
  | 0, _ => rfl
  | n + 1, h => by
    show tryStep f (tryN f acc lo n) _ = tryStep g (tryN g acc lo n) _
    unfold tryStep
    rw [tryN_congr acc lo n fun i hi => h i (by omega), h n (by omega)]
theorem sameLast_add (acc : List PyData) (c d : PyData) : sameLast (acc ++ [c]) d = PyData.eqv c d := by
  unfold sameLast
  rw [List.getLast?_concat]
theorem tryN_const {f : Int → PyData} {c : PyData} {acc : List PyData} {lo : Int} (hb : bare c = true) (ha : sameLast acc c = false) : ∀ n, 0 < n → (∀ i : Nat, i < n → f (lo + (i : Int)) = c) → tryN f acc lo n = acc ++ [c]
  | 1, _, h => by
    show tryStep f acc (lo + ((0 : Nat) : Int)) = _
    unfold tryStep
    rw [h 0 (by omega), ha, if_neg Bool.false_ne_true]
  | n + 2, _, h => by
    show tryStep f (tryN f acc lo (n + 1)) (lo + ((n + 1 : Nat) : Int)) = _
    rw [tryN_const hb ha (n + 1) (by omega) fun i hi => h i (by omega)]
    unfold tryStep
    rw [h (n + 1) (by omega), sameLast_add, eqv_yes hb hb rfl, if_pos rfl]
/-- the cell of a number, left of it l, beyond it the points rs -/
def cellR (l : Option Int) : List Int → Int → PyData
  | [], _ => gapD l none
  | y :: ys, m => if m < y then gapD l (some y) else if m = y then pointD y else cellR (some y) ys m
def cellsR (lo hi : Int) (l : Option Int) : List Int → List PyData
  | [] => cellStep lo hi l none
  | y :: ys => cellStep lo hi l (some y) ++ cellsR lo hi (some y) ys
theorem fold_cellsR (lo hi : Int) : ∀ (ns : List Int) (l : Option Int) (acc : List PyData), ((rights ns).foldl (cellFold lo hi) (l, acc)).2 = acc ++ cellsR lo hi l ns
  | [], l, acc => rfl
  | y :: ys, l, acc => by
    show ((rights ys).foldl (cellFold lo hi) (some y, acc ++ cellStep lo hi l (some y))).2 = _
    rw [fold_cellsR lo hi ys (some y) _]
    show _ = acc ++ (cellStep lo hi l (some y) ++ cellsR lo hi (some y) ys)
    rw [List.append_assoc]
theorem bare_cellR : ∀ (rs : List Int) (l : Option Int) (m : Int), bare (cellR l rs m) = true
  | [], l, m => bare_gap l none
  | y :: ys, l, m => by
    unfold cellR
    split
    · exact bare_gap _ _
    · split
      · exact bare_point _
      · exact bare_cellR ys _ m
/-- beyond a point none of the cells is that point's -/
theorem cellR_ne : ∀ (rs : List Int) (l : Option Int) (m y : Int), y < m → PyData.eqv (pointD y) (cellR l rs m) = false
  | [], l, m, y, _ => (eqv_no (bare_point y) (bare_gap l none) (by simp [pointD, gapD]) : PyData.eqv (pointD y) (gapD l none) = false)
  | z :: zs, l, m, y, h => by
    unfold cellR
    split
    · exact eqv_no (bare_point y) (bare_gap _ _) (by simp [pointD, gapD])
    · split
      · rename_i h1 h2
        exact eqv_no (bare_point y) (bare_point z) (by simp [pointD]; omega)
      · exact cellR_ne zs _ m y h
theorem gap_point (l r : Option Int) (y : Int) : PyData.eqv (gapD l r) (pointD y) = false := eqv_no (bare_gap _ _) (bare_point y) (by simp [pointD, gapD])
theorem step_some (lo hi : Int) (l : Option Int) (y : Int) : cellStep lo hi l (some y) = (if gapIn l (some y) lo hi = true then [gapD l (some y)] else []) ++ (if lo ≤ y ∧ y ≤ hi then [pointD y] else []) := rfl
theorem step_none (lo hi : Int) (l : Option Int) : cellStep lo hi l none = (if gapIn l none lo hi = true then [gapD l none] else []) ++ [] := rfl
/-- beyond the range there are no cells -/
theorem cellsR_none {lo hi : Int} : ∀ (rs : List Int) (y : Int), hi ≤ y → (y :: rs).Pairwise (· < ·) → cellsR lo hi (some y) rs = []
  | [], y, h, _ => by
    have g : gapIn (some y) none lo hi = false := by
      unfold gapIn leastOf mostOf
      apply decide_eq_false
      simp only
      split <;> omega
    show cellStep lo hi (some y) none = []
    rw [step_none, g, if_neg Bool.false_ne_true]
    rfl
  | z :: zs, y, h, p => by
    have yz : y < z := (List.pairwise_cons.mp p).1 z List.mem_cons_self
    have g : gapIn (some y) (some z) lo hi = false := by
      unfold gapIn leastOf mostOf
      apply decide_eq_false
      simp only
      split <;> split <;> omega
    show cellStep lo hi (some y) (some z) ++ cellsR lo hi (some z) zs = []
    rw [cellsR_none zs z (by omega) (List.pairwise_cons.mp p).2]
    rw [step_some, g, if_neg Bool.false_ne_true, if_neg (by omega)]
    rfl
/-- numbers at or below a point don't matter behind it -/
theorem cellsR_lo {hi lo lo' : Int} : ∀ (rs : List Int) (y : Int), lo ≤ y + 1 → lo' ≤ y + 1 → (y :: rs).Pairwise (· < ·) → cellsR lo hi (some y) rs = cellsR lo' hi (some y) rs
  | [], y, h, h', _ => by
    have e : leastOf lo (some y) = leastOf lo' (some y) := by
      unfold leastOf
      simp only
      split <;> split <;> omega
    show cellStep lo hi (some y) none = cellStep lo' hi (some y) none
    unfold cellStep gapIn
    rw [e]
    rfl
  | z :: zs, y, h, h', p => by
    have yz : y < z := (List.pairwise_cons.mp p).1 z List.mem_cons_self
    have e : leastOf lo (some y) = leastOf lo' (some y) := by
      unfold leastOf
      simp only
      split <;> split <;> omega
    show cellStep lo hi (some y) (some z) ++ cellsR lo hi (some z) zs = cellStep lo' hi (some y) (some z) ++ cellsR lo' hi (some z) zs
    rw [cellsR_lo (lo := lo) (lo' := lo') zs z (by omega) (by omega) (List.pairwise_cons.mp p).2, step_some, step_some]
    unfold gapIn
    rw [e]
    have q : (lo ≤ z ∧ z ≤ hi) ↔ (lo' ≤ z ∧ z ≤ hi) := by omega
    simp only [q]
theorem try_cells : ∀ (rs : List Int) (l : Option Int) (acc : List PyData) (lo hi : Int), lo ≤ hi → (∀ x, l = some x → x < lo) → (∀ x, l = some x → ∀ y ∈ rs, x < y) → rs.Pairwise (· < ·) → sameLast acc (cellR l rs lo) = false →
    tryN (cellR l rs) acc lo (hi + 1 - lo).toNat = acc ++ cellsR lo hi l rs
  | [], l, acc, lo, hi, h, hl, _, _, ha => by
    rw [tryN_const (c := gapD l none) (bare_gap _ _) ha _ (by omega) fun _ _ => rfl]
    have g : gapIn l none lo hi = true := by
      unfold gapIn leastOf mostOf
      apply decide_eq_true
      cases l with
      | none => exact h
      | some x =>
        have := hl x rfl
        simp only
        split <;> omega
    show _ = acc ++ cellStep lo hi l none
    unfold cellStep
    rw [g, if_pos rfl]
    rfl
  | y :: ys, l, acc, lo, hi, h, hl, hy, p, ha => by
    have pys := (List.pairwise_cons.mp p).2
    have py := (List.pairwise_cons.mp p).1
    show _ = acc ++ (cellStep lo hi l (some y) ++ cellsR lo hi (some y) ys)
    rcases Int.lt_or_le hi y with c | c
    · -- all numbers below the first point
      have ha' : sameLast acc (gapD l (some y)) = false := by
        have : cellR l (y :: ys) lo = gapD l (some y) := by
          unfold cellR
          rw [if_pos (by omega)]
        rw [← this]
        exact ha
      rw [tryN_const (c := gapD l (some y)) (bare_gap _ _) ha' _ (by omega) fun i hi' => by
        unfold cellR
        rw [if_pos (by omega)]]
      have g : gapIn l (some y) lo hi = true := by
        unfold gapIn leastOf mostOf
        apply decide_eq_true
        cases l with
        | none => simp only; split <;> omega
        | some x =>
          have := hl x rfl
          simp only
          split <;> split <;> omega
      rw [cellsR_none ys y (by omega) p]
      rw [step_some, g, if_pos rfl, if_neg (by omega)]
      simp
    · rcases Int.lt_or_le y lo with c2 | c2
      · -- all numbers beyond it
        have e : tryN (cellR l (y :: ys)) acc lo (hi + 1 - lo).toNat = tryN (cellR (some y) ys) acc lo (hi + 1 - lo).toNat := tryN_congr _ _ _ fun i hi' => by
          show (if lo + (i : Int) < y then gapD l (some y) else if lo + (i : Int) = y then pointD y else cellR (some y) ys (lo + (i : Int))) = _
          rw [if_neg (by omega), if_neg (by omega)]
        have ha' : sameLast acc (cellR (some y) ys lo) = false := by
          have : cellR l (y :: ys) lo = cellR (some y) ys lo := by
            show (if lo < y then gapD l (some y) else if lo = y then pointD y else cellR (some y) ys lo) = _
            rw [if_neg (by omega), if_neg (by omega)]
          rw [← this]
          exact ha
        rw [e, try_cells ys (some y) acc lo hi h (fun x e => by cases e; exact c2) (fun x e z hz => by cases e; exact py z hz) pys ha']
        have g : gapIn l (some y) lo hi = false := by
          unfold gapIn leastOf mostOf
          apply decide_eq_false
          cases l with
          | none => simp only; split <;> omega
          | some x =>
            have := hl x rfl
            simp only
            split <;> split <;> omega
        rw [step_some, g, if_neg Bool.false_ne_true, if_neg (by omega)]
        rfl
      · -- below, at and beyond it
        have e0 : (hi + 1 - lo).toNat = (y - lo).toNat + (1 + (hi - y).toNat) := by omega
        rw [e0, tryN_add]
        have e1 : lo + ((y - lo).toNat : Int) = y := by omega
        rw [e1, tryN_add]
        -- the gap ahead of it
        have g : (if gapIn l (some y) lo hi = true then [gapD l (some y)] else []) = if lo < y then [gapD l (some y)] else [] := by
          have q : gapIn l (some y) lo hi = decide (lo < y) := by
            unfold gapIn leastOf mostOf
            cases l with
            | none =>
              simp only
              congr 1
              apply propext
              split <;> omega
            | some x =>
              have := hl x rfl
              simp only
              congr 1
              apply propext
              split <;> split <;> omega
          rw [q]
          by_cases z : lo < y <;> simp [z]
        have A1 : tryN (cellR l (y :: ys)) acc lo (y - lo).toNat = acc ++ (if lo < y then [gapD l (some y)] else []) := by
          by_cases z : lo < y
          · rw [if_pos z]
            refine tryN_const (bare_gap _ _) ?_ _ (by omega) fun i hi' => ?_
            · have : cellR l (y :: ys) lo = gapD l (some y) := by
                unfold cellR
                rw [if_pos z]
              rw [← this]
              exact ha
            · unfold cellR
              rw [if_pos (by omega)]
          · rw [if_neg z, List.append_nil, show (y - lo).toNat = 0 by omega]
            rfl
        have at_y : cellR l (y :: ys) y = pointD y := by
          unfold cellR
          rw [if_neg (by omega), if_pos rfl]
        have A2 : tryN (cellR l (y :: ys)) (acc ++ (if lo < y then [gapD l (some y)] else [])) y 1 = acc ++ (if lo < y then [gapD l (some y)] else []) ++ [pointD y] := by
          refine tryN_const (bare_point y) ?_ 1 (by omega) fun i hi' => ?_
          · by_cases z : lo < y
            · rw [if_pos z, sameLast_add]
              exact gap_point _ _ _
            · rw [if_neg z, List.append_nil]
              have : lo = y := by omega
              rw [this, at_y] at ha
              exact ha
          · have : i = 0 := by omega
            subst this
            show cellR l (y :: ys) (y + ((0 : Nat) : Int)) = _
            rw [show y + ((0 : Nat) : Int) = y by omega]
            exact at_y
        rw [A1, A2]
        have A3 : tryN (cellR l (y :: ys)) (acc ++ (if lo < y then [gapD l (some y)] else []) ++ [pointD y]) (y + ((1 : Nat) : Int)) (hi - y).toNat = acc ++ (if lo < y then [gapD l (some y)] else []) ++ [pointD y] ++ cellsR lo hi (some y) ys := by
          by_cases z : y < hi
          · have e3 : tryN (cellR l (y :: ys)) (acc ++ (if lo < y then [gapD l (some y)] else []) ++ [pointD y]) (y + ((1 : Nat) : Int)) (hi - y).toNat = tryN (cellR (some y) ys) (acc ++ (if lo < y then [gapD l (some y)] else []) ++ [pointD y]) (y + 1) (hi + 1 - (y + 1)).toNat := by
              rw [show (hi + 1 - (y + 1)).toNat = (hi - y).toNat by omega]
              refine tryN_congr _ _ _ fun i hi' => ?_
              show (if y + 1 + (i : Int) < y then gapD l (some y) else if y + 1 + (i : Int) = y then pointD y else cellR (some y) ys (y + 1 + (i : Int))) = _
              rw [if_neg (by omega), if_neg (by omega)]
              rfl
            rw [e3, try_cells ys (some y) (acc ++ (if lo < y then [gapD l (some y)] else []) ++ [pointD y]) (y + 1) hi (by omega) (fun x e => by cases e; omega) (fun x e z hz => by cases e; exact py z hz) pys (by rw [sameLast_add]; exact cellR_ne ys _ _ _ (by omega))]
            rw [cellsR_lo ys y (Int.le_refl _) (by omega : lo ≤ y + 1) p]
          · rw [show (hi - y).toNat = 0 by omega, cellsR_none ys y (by omega) p, List.append_nil]
            rfl
        rw [A3]
        rw [step_some, g, if_pos (by omega : lo ≤ y ∧ y ≤ hi)]
        simp only [List.append_assoc]
theorem filter_none {ns : List Int} {p : Int → Bool} (h : ∀ n ∈ ns, p n = false) : ns.filter p = [] := List.filter_eq_nil_iff.mpr fun n hn => by rw [h n hn]; exact Bool.false_ne_true
/-- the cell of a number, said by all points or by those beyond -/
theorem cellAt_R : ∀ (rs pre : List Int) (m : Int), (pre ++ rs).Pairwise (· < ·) → (∀ x ∈ pre, x < m) → cellAt (pre ++ rs) m = cellR pre.getLast? rs m
  | [], pre, m, p, h => by
    rw [List.append_nil]
    unfold cellAt cellR
    rw [if_neg (fun q => by have := h m q; omega), List.filter_eq_self.mpr fun n hn => decide_eq_true (h n hn), filter_none fun n hn => decide_eq_false (by have := h n hn; omega)]
    rfl
  | y :: ys, pre, m, p, h => by
    have pp := List.pairwise_append.mp p
    have py := List.pairwise_cons.mp pp.2.1
    show _ = (if m < y then gapD pre.getLast? (some y) else if m = y then pointD y else cellR (some y) ys m)
    by_cases c : m < y
    · rw [if_pos c]
      unfold cellAt
      have nm : ¬ m ∈ pre ++ y :: ys := fun q => by
        rcases List.mem_append.mp q with q | q
        · have := h m q
          omega
        · rcases List.mem_cons.mp q with q | q
          · omega
          · have := py.1 m q
            omega
      rw [if_neg nm, List.filter_append, List.filter_append, List.filter_eq_self.mpr fun n hn => decide_eq_true (h n hn), filter_none (ns := pre) fun n hn => decide_eq_false (by have := h n hn; omega)]
      have f1 : (y :: ys).filter (fun n => decide (n < m)) = [] := filter_none fun n hn => by
        apply decide_eq_false
        rcases List.mem_cons.mp hn with q | q
        · omega
        · have := py.1 n q
          omega
      rw [f1, List.append_nil, List.filter_cons, if_pos (decide_eq_true c)]
      rfl
    · rw [if_neg c]
      by_cases c2 : m = y
      · rw [if_pos c2]
        unfold cellAt
        rw [if_pos (by rw [c2]; exact List.mem_append_right _ List.mem_cons_self), c2]
      · rw [if_neg c2]
        have q := cellAt_R ys (pre ++ [y]) m (by rw [List.append_assoc]; exact p) (fun x hx => by
          rcases List.mem_append.mp hx with z | z
          · exact h x z
          · rw [List.mem_singleton.mp z]
            omega)
        rw [List.append_assoc, List.getLast?_concat] at q
        exact q
/-- THE LAW of cells_in: the cells found number by number are those of the line -/
theorem due_cells {ns : List Int} (p : ns.Pairwise (· < ·)) {lo hi : Int} (h : lo ≤ hi) : dueOf ns lo (hi + 1 - lo).toNat = cellsOf ns lo hi := by
  rw [tryN_due]
  have e : tryN (cellAt ns) [] lo (hi + 1 - lo).toNat = tryN (cellR none ns) [] lo (hi + 1 - lo).toNat := tryN_congr _ _ _ fun i _ => cellAt_R ns [] _ p (fun x hx => nomatch hx)
  rw [e, try_cells ns none [] lo hi h (fun x e => nomatch e) (fun x e => nomatch e) p rfl]
  unfold cellsOf
  rw [fold_cellsR]
end Gx

namespace Gk
open PySem L2 Gx
open C8 (Cal Met Mak pe_c pe_mt pe_mt0 pe_mk pe_gc)
local macro_rules | `(tactic| walk_at "g") => `(tactic| (first
  | with_reducible refine g_seq ?_ | with_reducible refine g_asg ?_ | ((with_reducible show tVar _ _ _ _); refine g_var rfl ?_) | with_reducible refine g_c ?_ | with_reducible refine g_name ?_ | with_reducible refine g_op ?_ | with_reducible refine g_I0 ?_
  | with_reducible refine g_cons ?_ | with_reducible refine g_nil ?_ | with_reducible refine g_exbl ?_ | with_reducible refine g_exint ?_ | with_reducible refine g_test ?_ | with_reducible refine g_B ?_ | with_reducible refine g_ifS ?_ | with_reducible refine g_ret ?_ | with_reducible refine g_retN ?_ | with_reducible refine g_next ?_
  | with_reducible refine g_CB ?_ | with_reducible refine g_sub ?_ | with_reducible refine g_drop ?_ | with_reducible refine g_not ?_ | with_reducible refine g_and ?_ | with_reducible refine g_or ?_ | with_reducible refine g_andV ?_ | with_reducible refine g_orV ?_ | with_reducible refine g_notV ?_ | with_reducible refine g_ifE ?_ | with_reducible refine g_isN ?_
  | with_reducible refine g_par ?_ | with_reducible refine g_expar ?_ | with_reducible refine g_chain ?_ | with_reducible refine g_un ?_ | with_reducible refine g_U ?_ | with_reducible refine g_bits ?_ | ((with_reducible show rEq _ _ _ _); refine g_eq rfl ?_) | ((with_reducible show rNe _ _ _ _); refine g_ne rfl ?_)
  | with_reducible refine g_for ?_ | with_reducible refine g_iRng1 ?_ | with_reducible refine g_iRng2 ?_ | with_reducible refine g_iList ?_ | with_reducible refine g_iTup ?_
  | ((with_reducible refine g_Imul ?hc ?_); (case hc => (first | (refine Or.inl ⟨?_, ?_⟩ <;> first | decide | omega) | (refine Or.inr ⟨?_, ?_⟩ <;> first | decide | omega))))
  | ((with_reducible refine g_Idiv ?hc ?_); (case hc => (first | (exact ⟨by decide, by decide⟩) | assumption)))
  | ((with_reducible refine g_Imod ?hc ?_); (case hc => (first | assumption | omega | decide)))
  | ((with_reducible refine g_exR1 ?hlo ?hhi ?_); (case hlo => omega); (case hhi => omega))
  | ((with_reducible refine g_exR2 ?hb ?_); (case hb => omega))
  | with_reducible refine g_lst ?_ | with_reducible refine g_tup ?_ | with_reducible refine g_call ?_ | with_reducible refine g_BM ?_ | with_reducible refine g_BM0 ?_
  | with_reducible refine g_intB ?_ | with_reducible refine g_lc ?_ | with_reducible refine g_yes ?_ | with_reducible refine g_iZip ?_ | with_reducible refine g_sl ?_ | with_reducible refine g_noP ?_ | with_reducible refine g_part ?_ | with_reducible refine g_gcons ?_ | with_reducible refine g_gnil ?_
  | with_reducible refine g_tfld ?_ | with_reducible refine g_tmeth ?_ | with_reducible refine g_tmake ?_ | with_reducible refine g_sfld ?_ | with_reducible refine g_tprop ?_ | with_reducible refine g_tstar ?_ | with_reducible refine g_tmethK ?_ | with_reducible refine g_isN1 ?_ | with_reducible refine g_notN1 ?_))
local macro_rules | `(tactic| walk_at "gs1") => `(tactic| (first
  | with_reducible refine g_seq ?_ | with_reducible refine g_asg ?_ | ((with_reducible show tVar _ _ _ _); refine g_var rfl ?_) | with_reducible refine g_c ?_ | with_reducible refine g_name ?_ | with_reducible refine g_op ?_ | with_reducible refine g_I0 ?_
  | with_reducible refine g_cons ?_ | with_reducible refine g_nil ?_ | with_reducible refine g_exbl ?_ | with_reducible refine g_exint ?_ | with_reducible refine g_test ?_ | with_reducible refine g_B ?_ | with_reducible refine g_ifS ?_ | with_reducible refine g_retN ?_ | with_reducible refine g_next ?_
  | with_reducible refine g_CB ?_ | with_reducible refine g_sub ?_ | with_reducible refine g_drop ?_ | with_reducible refine g_not ?_ | with_reducible refine g_and ?_ | with_reducible refine g_or ?_ | with_reducible refine g_andV ?_ | with_reducible refine g_orV ?_ | with_reducible refine g_notV ?_ | with_reducible refine g_ifE ?_ | with_reducible refine g_isN ?_
  | with_reducible refine g_par ?_ | with_reducible refine g_expar ?_ | with_reducible refine g_chain ?_ | with_reducible refine g_un ?_ | with_reducible refine g_U ?_ | with_reducible refine g_bits ?_ | ((with_reducible show rEq _ _ _ _); refine g_eq rfl ?_) | ((with_reducible show rNe _ _ _ _); refine g_ne rfl ?_)
  | with_reducible refine g_for ?_ | with_reducible refine g_iRng1 ?_ | with_reducible refine g_iRng2 ?_ | with_reducible refine g_iList ?_ | with_reducible refine g_iTup ?_
  | ((with_reducible refine g_Imul ?hc ?_); (case hc => (first | (refine Or.inl ⟨?_, ?_⟩ <;> first | decide | omega) | (refine Or.inr ⟨?_, ?_⟩ <;> first | decide | omega))))
  | ((with_reducible refine g_Idiv ?hc ?_); (case hc => (first | (exact ⟨by decide, by decide⟩) | assumption)))
  | ((with_reducible refine g_Imod ?hc ?_); (case hc => (first | assumption | omega | decide)))
  | ((with_reducible refine g_exR1 ?hlo ?hhi ?_); (case hlo => omega); (case hhi => omega))
  | ((with_reducible refine g_exR2 ?hb ?_); (case hb => omega))
  | with_reducible refine g_lst ?_ | with_reducible refine g_tup ?_ | with_reducible refine g_call ?_ | with_reducible refine g_BM ?_ | with_reducible refine g_BM0 ?_
  | with_reducible refine g_intB ?_ | with_reducible refine g_lc ?_ | with_reducible refine g_yes ?_ | with_reducible refine g_iZip ?_ | with_reducible refine g_sl ?_ | with_reducible refine g_noP ?_ | with_reducible refine g_part ?_ | with_reducible refine g_gcons ?_ | with_reducible refine g_gnil ?_
  | with_reducible refine g_tfld ?_ | with_reducible refine g_tmeth ?_ | with_reducible refine g_tmake ?_ | with_reducible refine g_sfld ?_ | with_reducible refine g_tprop ?_ | with_reducible refine g_tstar ?_ | with_reducible refine g_tmethK ?_ | with_reducible refine g_isN1 ?_ | with_reducible refine g_notN1 ?_))
local macro_rules | `(tactic| walk_at "gx1") => `(tactic| (first
  | with_reducible refine g_seq ?_ | with_reducible refine g_asg ?_ | ((with_reducible show tVar _ _ _ _); refine g_var rfl ?_) | with_reducible refine g_c ?_ | with_reducible refine g_name ?_ | with_reducible refine g_op ?_ | with_reducible refine g_I0 ?_
  | with_reducible refine g_cons ?_ | with_reducible refine g_nil ?_ | with_reducible refine g_exbl ?_ | with_reducible refine g_exint ?_ | with_reducible refine g_test ?_ | with_reducible refine g_B ?_ | with_reducible refine g_ifS ?_ | with_reducible refine g_retN ?_ | with_reducible refine g_next ?_
  | with_reducible refine g_CB ?_ | with_reducible refine g_sub ?_ | with_reducible refine g_drop ?_ | with_reducible refine g_not ?_ | with_reducible refine g_and ?_ | with_reducible refine g_or ?_ | with_reducible refine g_andV ?_ | with_reducible refine g_orV ?_ | with_reducible refine g_notV ?_ | with_reducible refine g_ret ?_ | with_reducible refine g_isN ?_
  | with_reducible refine g_par ?_ | with_reducible refine g_expar ?_ | with_reducible refine g_chain ?_ | with_reducible refine g_un ?_ | with_reducible refine g_U ?_ | with_reducible refine g_bits ?_ | ((with_reducible show rEq _ _ _ _); refine g_eq rfl ?_) | ((with_reducible show rNe _ _ _ _); refine g_ne rfl ?_)
  | with_reducible refine g_for ?_ | with_reducible refine g_iRng1 ?_ | with_reducible refine g_iRng2 ?_ | with_reducible refine g_iList ?_ | with_reducible refine g_iTup ?_
  | ((with_reducible refine g_Imul ?hc ?_); (case hc => (first | (refine Or.inl ⟨?_, ?_⟩ <;> first | decide | omega) | (refine Or.inr ⟨?_, ?_⟩ <;> first | decide | omega))))
  | ((with_reducible refine g_Idiv ?hc ?_); (case hc => (first | (exact ⟨by decide, by decide⟩) | assumption)))
  | ((with_reducible refine g_Imod ?hc ?_); (case hc => (first | assumption | omega | decide)))
  | ((with_reducible refine g_exR1 ?hlo ?hhi ?_); (case hlo => omega); (case hhi => omega))
  | ((with_reducible refine g_exR2 ?hb ?_); (case hb => omega))
  | with_reducible refine g_lst ?_ | with_reducible refine g_tup ?_ | with_reducible refine g_call ?_ | with_reducible refine g_BM ?_ | with_reducible refine g_BM0 ?_
  | with_reducible refine g_intB ?_ | with_reducible refine g_lc ?_ | with_reducible refine g_yes ?_ | with_reducible refine g_iZip ?_ | with_reducible refine g_sl ?_ | with_reducible refine g_noP ?_ | with_reducible refine g_part ?_ | with_reducible refine g_gcons ?_ | with_reducible refine g_gnil ?_
  | with_reducible refine g_tfld ?_ | with_reducible refine g_tmeth ?_ | with_reducible refine g_tmake ?_ | with_reducible refine g_sfld ?_ | with_reducible refine g_tprop ?_ | with_reducible refine g_tstar ?_ | with_reducible refine g_tmethK ?_ | with_reducible refine g_isN1 ?_ | with_reducible refine g_notN1 ?_))
local macro_rules | `(tactic| walk_at "hp") => `(tactic| (first | assumption | exact upd_same | (refine same_get (by assumption) ?_; walk_at "hp")))
local macro_rules | `(tactic| walk_at "sm") => `(tactic| (first | assumption | exact Same.refl _ | (refine Same.trans ?ha (by assumption); walk_at "sm")))
local macro_rules | `(tactic| walk_at "nn") => `(tactic| (first | assumption | (refine same_free (by assumption) ?_; walk_at "nn")))
local macro_rules | `(tactic| walk_at "sb") => `(tactic| (first | decide | (refine small_bits ?_ ?_ <;> omega)))
local macro_rules | `(tactic| walk_at "ln") => `(tactic| (simp only [List.length_cons, List.length_nil]; omega))
local macro_rules | `(tactic| walk_at "gg") => `(tactic| (repeat walk_at "g"))
local macro_rules | `(tactic| walk_at "gs") => `(tactic| (repeat walk_at "gs1"))
local macro_rules | `(tactic| walk_at "gx") => `(tactic| (repeat walk_at "gx1"))

def top (i : Nat) : Stmt := PySem.Challenge.pw_gapreach_k04_cells_by_trying.main.body.getD i (.Pass ⟨0, 0, 0, 0⟩)
section
variable {P : Program} {w : World} {K : PySem.W.Frag} {mg : Str → Option Value} {base : Heap} {X : Cx}
abbrev s_dip : Stmt := top 13
abbrev N_dip : List Str := ["_law_flow_here", "_law_many", "_law_digit", "_law_found", "_law_turn", "_law_mixed"]
theorem sc_dip : FnScope N_dip ["_law_flow_here", "_law_many"] (defScope s_dip) := ⟨rfl, rfl, rfl, by decide +kernel, rfl, by decide +kernel, by decide +kernel⟩

theorem ok_dip {f : Addr} {fd : FuncData} (D : Dn K mg "_law_dip" s_dip ["_law_flow_here", "_law_many"] f fd) (T : Bt mg) : Cal P w K mg base 1 "_law_dip" spDip [] := by
  refine cal_of D (dip_view (D.fn.ok sc_dip (fun vs H Q E h => ?_) (fun cdv A outer s H vs Q E hr h => ?_)))
  · obtain ⟨f, x, y, z, m, rfl, _⟩ := h
    rfl
  · obtain ⟨f, x, y, z, m, rfl, hf, hx, hm, hb, k⟩ := h
    refine ⟨_, (pss_cons (ps_if (pt_cmpR op_gt (pe_ix ix_list (pv 0) pe_int (fun _ _ => rfl)) pe_int (nomark _)) (pss_cons (ps_set (i := 2) sc_dip.nd rfl (Or.inl rfl) (pe_op op_mod (pe_ix ix_list (pv 0) pe_int (fun _ _ => rfl)) (pv 1)))
    (pss_cons (ps_asg (pe_op op_fdivW (pe_ix ix_list (pv 0) pe_int (fun _ _ => rfl)) (pv 1)) (pg_sub (pv 0) pe_int set_list))
    (pss_one (ps_ret (pv 2))))) pss_nil)
    (pss_cons (ps_set (i := 3) sc_dip.nd rfl (Or.inl rfl) pe_int)
    (pss_cons (ps_for PassesOwn.never rfl (pi_range1 (by rfl) T.n_range (pa_cons (pe_op op_add pe_int (pe_op op_fdivW (pe_bits (pv 1)) pe_int)) pa_nil)) (pg_name (i := 4) sc_dip.nd rfl (Or.inl rfl)) (pss_cons (ps_asg (pe_op op_add (pe_ix ix_list (pv 0) pe_int (fun _ _ => rfl)) pe_int) (pg_sub (pv 0) pe_int set_list))
    (pss_cons (ps_set (i := 5) sc_dip.nd rfl (Or.inl rfl) (pe_op op_mod (pe_op op_add (pe_ix ix_list (pv 0) pe_int (fun _ _ => rfl)) (pe_op op_mul pe_int (pe_ix ix_list (pv 0) pe_int (fun _ _ => rfl)))) pe_int))
    (pss_cons (ps_set (i := 5) sc_dip.nd rfl (Or.inl rfl) (pe_op op_mod (pe_op op_add (pe_op op_add (pe_op op_mul (pv 5) (pv 5)) (pe_op op_mul (pe_op op_mul pe_int (pe_ix ix_list (pv 0) pe_int (fun _ _ => rfl))) (pv 5))) pe_int) pe_int))
    (pss_cons (ps_set (i := 5) sc_dip.nd rfl (Or.inl rfl) (pe_op op_mod (pe_op op_add (pe_op op_add (pe_op op_pow (pv 5) pe_int) (pe_ix ix_list (pv 0) pe_int (fun _ _ => rfl))) (pe_op op_mul pe_int (pe_ix ix_list (pv 0) pe_int (fun _ _ => rfl)))) pe_int))
    (pss_one (ps_set (i := 3) sc_dip.nd rfl (Or.inl rfl) (pe_op op_add (pe_op op_mul (pv 3) (pe_op op_pow pe_int pe_int)) (pe_op op_fdivW (pv 5) pe_int)))))))))
    (pss_one (ps_ret (pe_op op_mod (pv 3) (pv 1))))))), ?_⟩
    have p1 : (0 : Int) < 2305843009213693951 := by decide
    repeat walk_at "g"
    refine g_ixL (SqL.of hf) rfl ?_
    repeat walk_at "g"
    refine g_ite (fun c => ?_) (fun c => ?_)
    · repeat walk_at "g"
      refine g_ixL (SqL.of hf) rfl ?_
      repeat walk_at "g"
      refine g_ixL (SqL.of hf) rfl ?_
      repeat walk_at "g"
      refine g_Idiv (wide_div hm hb (by decide) (by decide)) ?_
      repeat walk_at "g"
      refine g_setL hf rfl ?_
      repeat walk_at "g"
      exact k _ _ _ _ (Int.emod_nonneg _ (by omega)) (Int.emod_lt_of_pos _ hm) (Int.ediv_nonneg hx (by omega))
    · repeat walk_at "g"
      have hbits := PyProof.Rows.intBits_le hb
      repeat walk_at "g"
      refine fw_range (fun i σ H' => ∃ (fo a b c : Int) (v4 v5 : Option V), σ = [some (.ref f), some (.int m), none, some (.int fo), v4, v5] ∧ H' = upd H f (three a b c) ∧ 0 ≤ a)
        ⟨0, x, y, z, none, none, rfl, ?_, hx⟩ ?_ ?_
      · funext b
        unfold upd
        split
        · rename_i e
          rw [e, hf]
        · rfl
      · rintro i σ H' hi ⟨fo, a, b, c, v4, v5, rfl, rfl, ha⟩
        repeat (first | (refine g_mod p1 fun r hr0 hr1 => ?_) | (refine g_pow3 ⟨by decide, by decide, by omega⟩ ?_) | walk_at "g" | refine g_ixL (SqL.of upd_same) rfl ?_ | refine g_setL upd_same rfl ?_)
        exact ⟨_, _, _, _, _, _, rfl, upd_upd, ha⟩
      · rintro σ H' ⟨fo, a, b, c, v4, v5, rfl, rfl, ha⟩
        repeat walk_at "g"
        exact k _ _ _ _ (Int.emod_nonneg _ (by omega)) (Int.emod_lt_of_pos _ hm) ha
end
end Gk

namespace Gk
open PySem L2 Gx
open C8 (Cal Met Mak pe_c pe_mt pe_mt0 pe_mk pe_gc)
local macro_rules | `(tactic| walk_at "g") => `(tactic| (first
  | with_reducible refine g_seq ?_ | with_reducible refine g_asg ?_ | ((with_reducible show tVar _ _ _ _); refine g_var rfl ?_) | with_reducible refine g_c ?_ | with_reducible refine g_name ?_ | with_reducible refine g_op ?_ | with_reducible refine g_I0 ?_
  | with_reducible refine g_cons ?_ | with_reducible refine g_nil ?_ | with_reducible refine g_exbl ?_ | with_reducible refine g_exint ?_ | with_reducible refine g_test ?_ | with_reducible refine g_B ?_ | with_reducible refine g_ifS ?_ | with_reducible refine g_ret ?_ | with_reducible refine g_retN ?_ | with_reducible refine g_next ?_
  | with_reducible refine g_CB ?_ | with_reducible refine g_sub ?_ | with_reducible refine g_drop ?_ | with_reducible refine g_not ?_ | with_reducible refine g_and ?_ | with_reducible refine g_or ?_ | with_reducible refine g_andV ?_ | with_reducible refine g_orV ?_ | with_reducible refine g_notV ?_ | with_reducible refine g_ifE ?_ | with_reducible refine g_isN ?_
  | with_reducible refine g_par ?_ | with_reducible refine g_expar ?_ | with_reducible refine g_chain ?_ | with_reducible refine g_un ?_ | with_reducible refine g_U ?_ | with_reducible refine g_bits ?_ | ((with_reducible show rEq _ _ _ _); refine g_eq rfl ?_) | ((with_reducible show rNe _ _ _ _); refine g_ne rfl ?_)
  | with_reducible refine g_for ?_ | with_reducible refine g_iRng1 ?_ | with_reducible refine g_iRng2 ?_ | with_reducible refine g_iList ?_ | with_reducible refine g_iTup ?_
  | ((with_reducible refine g_Imul ?hc ?_); (case hc => (first | (refine Or.inl ⟨?_, ?_⟩ <;> first | decide | omega) | (refine Or.inr ⟨?_, ?_⟩ <;> first | decide | omega))))
  | ((with_reducible refine g_Idiv ?hc ?_); (case hc => (first | (exact ⟨by decide, by decide⟩) | assumption)))
  | ((with_reducible refine g_Imod ?hc ?_); (case hc => (first | assumption | omega | decide)))
  | ((with_reducible refine g_exR1 ?hlo ?hhi ?_); (case hlo => omega); (case hhi => omega))
  | ((with_reducible refine g_exR2 ?hb ?_); (case hb => omega))
  | with_reducible refine g_lst ?_ | with_reducible refine g_tup ?_ | with_reducible refine g_call ?_ | with_reducible refine g_BM ?_ | with_reducible refine g_BM0 ?_
  | with_reducible refine g_intB ?_ | with_reducible refine g_lc ?_ | with_reducible refine g_yes ?_ | with_reducible refine g_iZip ?_ | with_reducible refine g_sl ?_ | with_reducible refine g_noP ?_ | with_reducible refine g_part ?_ | with_reducible refine g_gcons ?_ | with_reducible refine g_gnil ?_
  | with_reducible refine g_tfld ?_ | with_reducible refine g_tmeth ?_ | with_reducible refine g_tmake ?_ | with_reducible refine g_sfld ?_ | with_reducible refine g_tprop ?_ | with_reducible refine g_tstar ?_ | with_reducible refine g_tmethK ?_ | with_reducible refine g_isN1 ?_ | with_reducible refine g_notN1 ?_))
local macro_rules | `(tactic| walk_at "gs1") => `(tactic| (first
  | with_reducible refine g_seq ?_ | with_reducible refine g_asg ?_ | ((with_reducible show tVar _ _ _ _); refine g_var rfl ?_) | with_reducible refine g_c ?_ | with_reducible refine g_name ?_ | with_reducible refine g_op ?_ | with_reducible refine g_I0 ?_
  | with_reducible refine g_cons ?_ | with_reducible refine g_nil ?_ | with_reducible refine g_exbl ?_ | with_reducible refine g_exint ?_ | with_reducible refine g_test ?_ | with_reducible refine g_B ?_ | with_reducible refine g_ifS ?_ | with_reducible refine g_retN ?_ | with_reducible refine g_next ?_
  | with_reducible refine g_CB ?_ | with_reducible refine g_sub ?_ | with_reducible refine g_drop ?_ | with_reducible refine g_not ?_ | with_reducible refine g_and ?_ | with_reducible refine g_or ?_ | with_reducible refine g_andV ?_ | with_reducible refine g_orV ?_ | with_reducible refine g_notV ?_ | with_reducible refine g_ifE ?_ | with_reducible refine g_isN ?_
  | with_reducible refine g_par ?_ | with_reducible refine g_expar ?_ | with_reducible refine g_chain ?_ | with_reducible refine g_un ?_ | with_reducible refine g_U ?_ | with_reducible refine g_bits ?_ | ((with_reducible show rEq _ _ _ _); refine g_eq rfl ?_) | ((with_reducible show rNe _ _ _ _); refine g_ne rfl ?_)
  | with_reducible refine g_for ?_ | with_reducible refine g_iRng1 ?_ | with_reducible refine g_iRng2 ?_ | with_reducible refine g_iList ?_ | with_reducible refine g_iTup ?_
  | ((with_reducible refine g_Imul ?hc ?_); (case hc => (first | (refine Or.inl ⟨?_, ?_⟩ <;> first | decide | omega) | (refine Or.inr ⟨?_, ?_⟩ <;> first | decide | omega))))
  | ((with_reducible refine g_Idiv ?hc ?_); (case hc => (first | (exact ⟨by decide, by decide⟩) | assumption)))
  | ((with_reducible refine g_Imod ?hc ?_); (case hc => (first | assumption | omega | decide)))
  | ((with_reducible refine g_exR1 ?hlo ?hhi ?_); (case hlo => omega); (case hhi => omega))
  | ((with_reducible refine g_exR2 ?hb ?_); (case hb => omega))
  | with_reducible refine g_lst ?_ | with_reducible refine g_tup ?_ | with_reducible refine g_call ?_ | with_reducible refine g_BM ?_ | with_reducible refine g_BM0 ?_
  | with_reducible refine g_intB ?_ | with_reducible refine g_lc ?_ | with_reducible refine g_yes ?_ | with_reducible refine g_iZip ?_ | with_reducible refine g_sl ?_ | with_reducible refine g_noP ?_ | with_reducible refine g_part ?_ | with_reducible refine g_gcons ?_ | with_reducible refine g_gnil ?_
  | with_reducible refine g_tfld ?_ | with_reducible refine g_tmeth ?_ | with_reducible refine g_tmake ?_ | with_reducible refine g_sfld ?_ | with_reducible refine g_tprop ?_ | with_reducible refine g_tstar ?_ | with_reducible refine g_tmethK ?_ | with_reducible refine g_isN1 ?_ | with_reducible refine g_notN1 ?_))
local macro_rules | `(tactic| walk_at "gx1") => `(tactic| (first
  | with_reducible refine g_seq ?_ | with_reducible refine g_asg ?_ | ((with_reducible show tVar _ _ _ _); refine g_var rfl ?_) | with_reducible refine g_c ?_ | with_reducible refine g_name ?_ | with_reducible refine g_op ?_ | with_reducible refine g_I0 ?_
  | with_reducible refine g_cons ?_ | with_reducible refine g_nil ?_ | with_reducible refine g_exbl ?_ | with_reducible refine g_exint ?_ | with_reducible refine g_test ?_ | with_reducible refine g_B ?_ | with_reducible refine g_ifS ?_ | with_reducible refine g_retN ?_ | with_reducible refine g_next ?_
  | with_reducible refine g_CB ?_ | with_reducible refine g_sub ?_ | with_reducible refine g_drop ?_ | with_reducible refine g_not ?_ | with_reducible refine g_and ?_ | with_reducible refine g_or ?_ | with_reducible refine g_andV ?_ | with_reducible refine g_orV ?_ | with_reducible refine g_notV ?_ | with_reducible refine g_ret ?_ | with_reducible refine g_isN ?_
  | with_reducible refine g_par ?_ | with_reducible refine g_expar ?_ | with_reducible refine g_chain ?_ | with_reducible refine g_un ?_ | with_reducible refine g_U ?_ | with_reducible refine g_bits ?_ | ((with_reducible show rEq _ _ _ _); refine g_eq rfl ?_) | ((with_reducible show rNe _ _ _ _); refine g_ne rfl ?_)
  | with_reducible refine g_for ?_ | with_reducible refine g_iRng1 ?_ | with_reducible refine g_iRng2 ?_ | with_reducible refine g_iList ?_ | with_reducible refine g_iTup ?_
  | ((with_reducible refine g_Imul ?hc ?_); (case hc => (first | (refine Or.inl ⟨?_, ?_⟩ <;> first | decide | omega) | (refine Or.inr ⟨?_, ?_⟩ <;> first | decide | omega))))
  | ((with_reducible refine g_Idiv ?hc ?_); (case hc => (first | (exact ⟨by decide, by decide⟩) | assumption)))
  | ((with_reducible refine g_Imod ?hc ?_); (case hc => (first | assumption | omega | decide)))
  | ((with_reducible refine g_exR1 ?hlo ?hhi ?_); (case hlo => omega); (case hhi => omega))
  | ((with_reducible refine g_exR2 ?hb ?_); (case hb => omega))
  | with_reducible refine g_lst ?_ | with_reducible refine g_tup ?_ | with_reducible refine g_call ?_ | with_reducible refine g_BM ?_ | with_reducible refine g_BM0 ?_
  | with_reducible refine g_intB ?_ | with_reducible refine g_lc ?_ | with_reducible refine g_yes ?_ | with_reducible refine g_iZip ?_ | with_reducible refine g_sl ?_ | with_reducible refine g_noP ?_ | with_reducible refine g_part ?_ | with_reducible refine g_gcons ?_ | with_reducible refine g_gnil ?_
  | with_reducible refine g_tfld ?_ | with_reducible refine g_tmeth ?_ | with_reducible refine g_tmake ?_ | with_reducible refine g_sfld ?_ | with_reducible refine g_tprop ?_ | with_reducible refine g_tstar ?_ | with_reducible refine g_tmethK ?_ | with_reducible refine g_isN1 ?_ | with_reducible refine g_notN1 ?_))
local macro_rules | `(tactic| walk_at "hp") => `(tactic| (first | assumption | exact upd_same | (refine same_get (by assumption) ?_; walk_at "hp")))
local macro_rules | `(tactic| walk_at "sm") => `(tactic| (first | assumption | exact Same.refl _ | (refine Same.trans ?ha (by assumption); walk_at "sm")))
local macro_rules | `(tactic| walk_at "nn") => `(tactic| (first | assumption | (refine same_free (by assumption) ?_; walk_at "nn")))
local macro_rules | `(tactic| walk_at "sb") => `(tactic| (first | decide | (refine small_bits ?_ ?_ <;> omega)))
local macro_rules | `(tactic| walk_at "ln") => `(tactic| (simp only [List.length_cons, List.length_nil]; omega))
local macro_rules | `(tactic| walk_at "gg") => `(tactic| (repeat walk_at "g"))
local macro_rules | `(tactic| walk_at "gs") => `(tactic| (repeat walk_at "gs1"))
local macro_rules | `(tactic| walk_at "gx") => `(tactic| (repeat walk_at "gx1"))

section
variable {P : Program} {w : World} {K : PySem.W.Frag} {mg : Str → Option Value} {base : Heap} {X : Cx}
/-- ascending ints of at most sixty digits, at most as many as asked -/
def spSpots : Sp := fun vs H Q _ => ∃ (f : Addr) (most : Int), vs = [.ref f, .int most] ∧ H f = some (FlowO f) ∧ 0 ≤ most ∧ most ≤ 1000 ∧
  ∀ (ns : List Int) (p : Addr) (H' : Hp), (ns.length : Int) ≤ most → ns.Pairwise (· < ·) → (∀ n ∈ ns, -1000000000000000000000000000000000000000000000000000000000000 ≤ n ∧ n ≤ 1000000000000000000000000000000000000000000000000000000000000) → H p = none → Same H H' → H' p = some (.lst (ns.map V.int)) → Q (.ref p) H'
abbrev s_spots : Stmt := top 16
abbrev N_spots : List Str := ["_law_flow_here", "_law_most", "_law_many", "_law_here", "_law_wide", "_law_found", "_law_turn"]
theorem sc_spots : FnScope N_spots ["_law_flow_here", "_law_most"] (defScope s_spots) := ⟨rfl, rfl, rfl, by decide +kernel, rfl, by decide +kernel, by decide +kernel⟩

theorem ok_spots {f : Addr} {fd : FuncData} (D : Dn K mg "_law_spots" s_spots ["_law_flow_here", "_law_most"] f fd) (T : Bt mg) (c__law_dip : Cal P w K mg base 1 "_law_dip" spDip []) : Cal P w K mg base 2 "_law_spots" spSpots [] := by
  refine cal_of D (D.fn.ok sc_spots (fun vs H Q E h => ?_) (fun cdv A outer s H vs Q E hr h => ?_))
  · obtain ⟨f, m, rfl, _⟩ := h
    rfl
  · obtain ⟨f, m, rfl, hf, h0, h1, k⟩ := h
    refine ⟨_, (pss_cons (ps_set (i := 2) sc_spots.nd rfl (Or.inl rfl) (pe_ix ix_list (pe_lst (pa_cons (pe_c c__law_dip hr (by decide) (by rfl) (pa_cons (pv 0) (pa_cons (pe_op op_add (pv 1) pe_int) pa_nil))) (pa_cons (pv 1) (pa_cons (pe_c c__law_dip hr (by decide) (by rfl) (pa_cons (pv 0) (pa_cons (pe_callB (cr_minQ rfl) (by rfl) T.n_min bt_min (pa_cons pe_int (pa_cons (pe_op op_add (pv 1) pe_int) pa_nil))) pa_nil))) pa_nil)))) (pe_c c__law_dip hr (by decide) (by rfl) (pa_cons (pv 0) (pa_cons pe_int pa_nil))) (fun _ _ => rfl)))
    (pss_cons (ps_set (i := 3) sc_spots.nd rfl (Or.inl rfl) (pe_ix ix_list (pe_lst (pa_cons pe_int (pa_cons (pe_op op_sub pe_int (pe_c c__law_dip hr (by decide) (by rfl) (pa_cons (pv 0) (pa_cons pe_int pa_nil)))) (pa_cons (pe_op op_sub (pe_c c__law_dip hr (by decide) (by rfl) (pa_cons (pv 0) (pa_cons (pe_op op_pow pe_int pe_int) pa_nil))) (pe_op op_mul pe_int (pe_op op_pow pe_int pe_int))) pa_nil)))) (pe_c c__law_dip hr (by decide) (by rfl) (pa_cons (pv 0) (pa_cons pe_int pa_nil))) (fun _ _ => rfl)))
    (pss_cons (ps_set (i := 4) sc_spots.nd rfl (Or.inl rfl) (pe_ix ix_list (pe_lst (pa_cons pe_int (pa_cons pe_int (pa_cons pe_int (pa_cons (pe_op op_pow pe_int pe_int) pa_nil))))) (pe_c c__law_dip hr (by decide) (by rfl) (pa_cons (pv 0) (pa_cons pe_int pa_nil))) (fun _ _ => rfl)))
    (pss_cons (ps_set (i := 5) sc_spots.nd rfl (Or.inl rfl) (pe_lst pa_nil))
    (pss_cons (ps_for PassesOwn.never rfl (pi_range1 (by rfl) T.n_range (pa_cons (pv 2) pa_nil)) (pg_name (i := 6) sc_spots.nd rfl (Or.inl rfl)) (pss_cons (ps_set (i := 3) sc_spots.nd rfl (Or.inl rfl) (pe_op op_add (pe_op op_add (pv 3) pe_int) (pe_c c__law_dip hr (by decide) (by rfl) (pa_cons (pv 0) (pa_cons (pv 4) pa_nil)))))
    (pss_one (ps_expr (pe_bm PySem.F.plainAttrs_list PySem.F.slot_list_append PySem.F.type_list_append mt_append (pv 5) (pa_cons (pv 3) pa_nil))))))
    (pss_one (ps_ret (pv 5)))))))), ?_⟩
    walk_at "gg"
    refine g_dip (by walk_at "hp") (by omega) (by walk_at "sb") fun r1 H1 a1 b1 S1 => ?_
    walk_at "gg"
    refine g_min2 fun c1 c2 c3 c4 => ?_
    walk_at "gg"
    refine g_dip (by walk_at "hp") (by omega) (by walk_at "sb") fun r2 H2 a2 b2 S2 => ?_
    walk_at "gg"
    refine g_mkL (by walk_at "ln") fun p3 H3 n3 S3 e3 => ?_
    walk_at "gg"
    refine g_dip (by walk_at "hp") (by omega) (by walk_at "sb") fun r4 H4 a4 b4 S4 => ?_
    refine g_ixI (fun n => 0 ≤ n ∧ n ≤ m) (S4 _ _ e3) a4 b4 (all_cons ⟨_, rfl, by omega⟩ (all_cons ⟨_, rfl, by omega⟩ (all_cons ⟨_, rfl, by omega⟩ all_nil))) fun many ⟨m1, m2⟩ => ?_
    walk_at "gg"
    -- the first number
    refine g_dip (by walk_at "hp") (by omega) (by walk_at "sb") fun r5 H5 a5 b5 S5 => ?_
    walk_at "gg"
    refine g_pow (c := 10000000000000000000000000000000000000000000000000000000000) ⟨by decide, by decide, by decide⟩ (by decide) ?_
    walk_at "gg"
    refine g_dip (by walk_at "hp") (by omega) (by walk_at "sb") fun r6 H6 a6 b6 S6 => ?_
    walk_at "gg"
    refine g_pow (c := 1000000000000000000000000000000000000000000000000000000000) ⟨by decide, by decide, by decide⟩ (by decide) ?_
    walk_at "gg"
    refine g_mkL (by walk_at "ln") fun p7 H7 n7 S7 e7 => ?_
    walk_at "gg"
    refine g_dip (by walk_at "hp") (by omega) (by walk_at "sb") fun r8 H8 a8 b8 S8 => ?_
    refine g_ixI (fun n => -10000000000000000000000000000000000000000000000000000000000 ≤ n ∧ n ≤ 10000000000000000000000000000000000000000000000000000000000) (S8 _ _ e7) a8 b8 (all_cons ⟨_, rfl, by omega⟩ (all_cons ⟨_, rfl, by omega⟩ (all_cons ⟨_, rfl, by omega⟩ all_nil))) fun here ⟨h1, h2⟩ => ?_
    walk_at "gg"
    -- how far apart
    refine g_pow (c := 10000000000000000000000000000000000000000000000000000000) ⟨by decide, by decide, by decide⟩ (by decide) ?_
    walk_at "gg"
    refine g_mkL (by walk_at "ln") fun p9 H9 n9 S9 e9 => ?_
    walk_at "gg"
    refine g_dip (by walk_at "hp") (by omega) (by walk_at "sb") fun r10 H10 a10 b10 S10 => ?_
    refine g_ixI (fun n => 1 ≤ n ∧ n ≤ 10000000000000000000000000000000000000000000000000000000) (S10 _ _ e9) a10 b10 (all_cons ⟨_, rfl, by omega⟩ (all_cons ⟨_, rfl, by omega⟩ (all_cons ⟨_, rfl, by omega⟩ (all_cons ⟨_, rfl, by omega⟩ all_nil)))) fun wide ⟨w1, w2⟩ => ?_
    walk_at "gg"
    refine g_mkL (by walk_at "ln") fun p H11 np S11 e11 => ?_
    walk_at "gg"
    have SH : Same H H10 := by walk_at "sm"
    have hf10 := SH _ _ hf
    refine fw_range (fun i σ H' => ∃ (hr : Int) (ns : List Int) (v : Option V), σ = [some (.ref f), some (.int m), some (.int many), some (.int hr), some (.int wide), some (.ref p), v] ∧ Same H10 H' ∧ H' p = some (.lst (ns.map V.int)) ∧
        ns.length = i ∧ ns.Pairwise (· < ·) ∧ (∀ n ∈ ns, -10000000000000000000000000000000000000000000000000000000000 ≤ n ∧ n ≤ hr) ∧ -10000000000000000000000000000000000000000000000000000000000 ≤ hr ∧ hr ≤ 10000000000000000000000000000000000000000000000000000000000 + i * 10000000000000000000000000000000000000000000000000000000)
      ⟨here, [], none, rfl, S11, e11, rfl, .nil, (fun n hn => nomatch hn), h1, by omega⟩ ?_ ?_
    · rintro i σ H' hi ⟨hr, ns, v, rfl, S, e, hl, pw, bd, b1, b2⟩
      walk_at "gg"
      refine g_dip (S _ _ hf10) (by omega) (by walk_at "sb") fun r H2 a b S2 => ?_
      walk_at "gg"
      refine g_tyL (S2 _ _ e) ?_
      walk_at "gg"
      refine g_app (S.trans S2) np (S2 _ _ e) (by rw [List.length_map]; omega) fun H3 S3 e3 => ?_
      walk_at "gg"
      refine ⟨hr + 1 + r, ns ++ [hr + 1 + r], _, rfl, S3, by rw [e3, List.map_append]; rfl, by rw [List.length_append, hl]; rfl, ?_, ?_, by omega, by omega⟩
      · refine List.pairwise_append.mpr ⟨pw, List.pairwise_singleton _ _, fun x hx y hy => ?_⟩
        rw [List.mem_singleton.mp hy]
        have := (bd x hx).2
        omega
      · intro n hn
        rcases List.mem_append.mp hn with hn | hn
        · have := bd n hn
          omega
        · rw [List.mem_singleton.mp hn]
          omega
    · rintro σ H' ⟨hr, ns, v, rfl, S, e, hl, pw, bd, b1, b2⟩
      walk_at "gg"
      refine k ns p H' (by omega) pw (fun n hn => ?_) (same_free SH np) (SH.trans S) e
      have := bd n hn
      omega
end
end Gk

namespace Gk
open PySem L2 Gx
open C8 (Cal Met Mak pe_c pe_mt pe_mt0 pe_mk pe_gc)
local macro_rules | `(tactic| walk_at "g") => `(tactic| (first
  | with_reducible refine g_seq ?_ | with_reducible refine g_asg ?_ | ((with_reducible show tVar _ _ _ _); refine g_var rfl ?_) | with_reducible refine g_c ?_ | with_reducible refine g_name ?_ | with_reducible refine g_op ?_ | with_reducible refine g_I0 ?_
  | with_reducible refine g_cons ?_ | with_reducible refine g_nil ?_ | with_reducible refine g_exbl ?_ | with_reducible refine g_exint ?_ | with_reducible refine g_test ?_ | with_reducible refine g_B ?_ | with_reducible refine g_ifS ?_ | with_reducible refine g_ret ?_ | with_reducible refine g_retN ?_ | with_reducible refine g_next ?_
  | with_reducible refine g_CB ?_ | with_reducible refine g_sub ?_ | with_reducible refine g_drop ?_ | with_reducible refine g_not ?_ | with_reducible refine g_and ?_ | with_reducible refine g_or ?_ | with_reducible refine g_andV ?_ | with_reducible refine g_orV ?_ | with_reducible refine g_notV ?_ | with_reducible refine g_ifE ?_ | with_reducible refine g_isN ?_
  | with_reducible refine g_par ?_ | with_reducible refine g_expar ?_ | with_reducible refine g_chain ?_ | with_reducible refine g_un ?_ | with_reducible refine g_U ?_ | with_reducible refine g_bits ?_ | ((with_reducible show rEq _ _ _ _); refine g_eq rfl ?_) | ((with_reducible show rNe _ _ _ _); refine g_ne rfl ?_)
  | with_reducible refine g_for ?_ | with_reducible refine g_iRng1 ?_ | with_reducible refine g_iRng2 ?_ | with_reducible refine g_iList ?_ | with_reducible refine g_iTup ?_
  | ((with_reducible refine g_Imul ?hc ?_); (case hc => (first | (refine Or.inl ⟨?_, ?_⟩ <;> first | decide | omega) | (refine Or.inr ⟨?_, ?_⟩ <;> first | decide | omega))))
  | ((with_reducible refine g_Idiv ?hc ?_); (case hc => (first | (exact ⟨by decide, by decide⟩) | assumption)))
  | ((with_reducible refine g_Imod ?hc ?_); (case hc => (first | assumption | omega | decide)))
  | ((with_reducible refine g_exR1 ?hlo ?hhi ?_); (case hlo => omega); (case hhi => omega))
  | ((with_reducible refine g_exR2 ?hb ?_); (case hb => omega))
  | with_reducible refine g_lst ?_ | with_reducible refine g_tup ?_ | with_reducible refine g_call ?_ | with_reducible refine g_BM ?_ | with_reducible refine g_BM0 ?_
  | with_reducible refine g_intB ?_ | with_reducible refine g_lc ?_ | with_reducible refine g_yes ?_ | with_reducible refine g_iZip ?_ | with_reducible refine g_sl ?_ | with_reducible refine g_noP ?_ | with_reducible refine g_part ?_ | with_reducible refine g_gcons ?_ | with_reducible refine g_gnil ?_
  | with_reducible refine g_tfld ?_ | with_reducible refine g_tmeth ?_ | with_reducible refine g_tmake ?_ | with_reducible refine g_sfld ?_ | with_reducible refine g_tprop ?_ | with_reducible refine g_tstar ?_ | with_reducible refine g_tmethK ?_ | with_reducible refine g_isN1 ?_ | with_reducible refine g_notN1 ?_))
local macro_rules | `(tactic| walk_at "gs1") => `(tactic| (first
  | with_reducible refine g_seq ?_ | with_reducible refine g_asg ?_ | ((with_reducible show tVar _ _ _ _); refine g_var rfl ?_) | with_reducible refine g_c ?_ | with_reducible refine g_name ?_ | with_reducible refine g_op ?_ | with_reducible refine g_I0 ?_
  | with_reducible refine g_cons ?_ | with_reducible refine g_nil ?_ | with_reducible refine g_exbl ?_ | with_reducible refine g_exint ?_ | with_reducible refine g_test ?_ | with_reducible refine g_B ?_ | with_reducible refine g_ifS ?_ | with_reducible refine g_retN ?_ | with_reducible refine g_next ?_
  | with_reducible refine g_CB ?_ | with_reducible refine g_sub ?_ | with_reducible refine g_drop ?_ | with_reducible refine g_not ?_ | with_reducible refine g_and ?_ | with_reducible refine g_or ?_ | with_reducible refine g_andV ?_ | with_reducible refine g_orV ?_ | with_reducible refine g_notV ?_ | with_reducible refine g_ifE ?_ | with_reducible refine g_isN ?_
  | with_reducible refine g_par ?_ | with_reducible refine g_expar ?_ | with_reducible refine g_chain ?_ | with_reducible refine g_un ?_ | with_reducible refine g_U ?_ | with_reducible refine g_bits ?_ | ((with_reducible show rEq _ _ _ _); refine g_eq rfl ?_) | ((with_reducible show rNe _ _ _ _); refine g_ne rfl ?_)
  | with_reducible refine g_for ?_ | with_reducible refine g_iRng1 ?_ | with_reducible refine g_iRng2 ?_ | with_reducible refine g_iList ?_ | with_reducible refine g_iTup ?_
  | ((with_reducible refine g_Imul ?hc ?_); (case hc => (first | (refine Or.inl ⟨?_, ?_⟩ <;> first | decide | omega) | (refine Or.inr ⟨?_, ?_⟩ <;> first | decide | omega))))
  | ((with_reducible refine g_Idiv ?hc ?_); (case hc => (first | (exact ⟨by decide, by decide⟩) | assumption)))
  | ((with_reducible refine g_Imod ?hc ?_); (case hc => (first | assumption | omega | decide)))
  | ((with_reducible refine g_exR1 ?hlo ?hhi ?_); (case hlo => omega); (case hhi => omega))
  | ((with_reducible refine g_exR2 ?hb ?_); (case hb => omega))
  | with_reducible refine g_lst ?_ | with_reducible refine g_tup ?_ | with_reducible refine g_call ?_ | with_reducible refine g_BM ?_ | with_reducible refine g_BM0 ?_
  | with_reducible refine g_intB ?_ | with_reducible refine g_lc ?_ | with_reducible refine g_yes ?_ | with_reducible refine g_iZip ?_ | with_reducible refine g_sl ?_ | with_reducible refine g_noP ?_ | with_reducible refine g_part ?_ | with_reducible refine g_gcons ?_ | with_reducible refine g_gnil ?_
  | with_reducible refine g_tfld ?_ | with_reducible refine g_tmeth ?_ | with_reducible refine g_tmake ?_ | with_reducible refine g_sfld ?_ | with_reducible refine g_tprop ?_ | with_reducible refine g_tstar ?_ | with_reducible refine g_tmethK ?_ | with_reducible refine g_isN1 ?_ | with_reducible refine g_notN1 ?_))
local macro_rules | `(tactic| walk_at "gx1") => `(tactic| (first
  | with_reducible refine g_seq ?_ | with_reducible refine g_asg ?_ | ((with_reducible show tVar _ _ _ _); refine g_var rfl ?_) | with_reducible refine g_c ?_ | with_reducible refine g_name ?_ | with_reducible refine g_op ?_ | with_reducible refine g_I0 ?_
  | with_reducible refine g_cons ?_ | with_reducible refine g_nil ?_ | with_reducible refine g_exbl ?_ | with_reducible refine g_exint ?_ | with_reducible refine g_test ?_ | with_reducible refine g_B ?_ | with_reducible refine g_ifS ?_ | with_reducible refine g_retN ?_ | with_reducible refine g_next ?_
  | with_reducible refine g_CB ?_ | with_reducible refine g_sub ?_ | with_reducible refine g_drop ?_ | with_reducible refine g_not ?_ | with_reducible refine g_and ?_ | with_reducible refine g_or ?_ | with_reducible refine g_andV ?_ | with_reducible refine g_orV ?_ | with_reducible refine g_notV ?_ | with_reducible refine g_ret ?_ | with_reducible refine g_isN ?_
  | with_reducible refine g_par ?_ | with_reducible refine g_expar ?_ | with_reducible refine g_chain ?_ | with_reducible refine g_un ?_ | with_reducible refine g_U ?_ | with_reducible refine g_bits ?_ | ((with_reducible show rEq _ _ _ _); refine g_eq rfl ?_) | ((with_reducible show rNe _ _ _ _); refine g_ne rfl ?_)
  | with_reducible refine g_for ?_ | with_reducible refine g_iRng1 ?_ | with_reducible refine g_iRng2 ?_ | with_reducible refine g_iList ?_ | with_reducible refine g_iTup ?_
  | ((with_reducible refine g_Imul ?hc ?_); (case hc => (first | (refine Or.inl ⟨?_, ?_⟩ <;> first | decide | omega) | (refine Or.inr ⟨?_, ?_⟩ <;> first | decide | omega))))
  | ((with_reducible refine g_Idiv ?hc ?_); (case hc => (first | (exact ⟨by decide, by decide⟩) | assumption)))
  | ((with_reducible refine g_Imod ?hc ?_); (case hc => (first | assumption | omega | decide)))
  | ((with_reducible refine g_exR1 ?hlo ?hhi ?_); (case hlo => omega); (case hhi => omega))
  | ((with_reducible refine g_exR2 ?hb ?_); (case hb => omega))
  | with_reducible refine g_lst ?_ | with_reducible refine g_tup ?_ | with_reducible refine g_call ?_ | with_reducible refine g_BM ?_ | with_reducible refine g_BM0 ?_
  | with_reducible refine g_intB ?_ | with_reducible refine g_lc ?_ | with_reducible refine g_yes ?_ | with_reducible refine g_iZip ?_ | with_reducible refine g_sl ?_ | with_reducible refine g_noP ?_ | with_reducible refine g_part ?_ | with_reducible refine g_gcons ?_ | with_reducible refine g_gnil ?_
  | with_reducible refine g_tfld ?_ | with_reducible refine g_tmeth ?_ | with_reducible refine g_tmake ?_ | with_reducible refine g_sfld ?_ | with_reducible refine g_tprop ?_ | with_reducible refine g_tstar ?_ | with_reducible refine g_tmethK ?_ | with_reducible refine g_isN1 ?_ | with_reducible refine g_notN1 ?_))
local macro_rules | `(tactic| walk_at "hp") => `(tactic| (first | assumption | exact upd_same | (refine same_get (by assumption) ?_; walk_at "hp")))
local macro_rules | `(tactic| walk_at "sm") => `(tactic| (first | assumption | exact Same.refl _ | (refine Same.trans ?ha (by assumption); walk_at "sm")))
local macro_rules | `(tactic| walk_at "nn") => `(tactic| (first | assumption | (refine same_free (by assumption) ?_; walk_at "nn")))
local macro_rules | `(tactic| walk_at "sb") => `(tactic| (first | decide | (refine small_bits ?_ ?_ <;> omega)))
local macro_rules | `(tactic| walk_at "ln") => `(tactic| (simp only [List.length_cons, List.length_nil]; omega))
local macro_rules | `(tactic| walk_at "gg") => `(tactic| (repeat walk_at "g"))
local macro_rules | `(tactic| walk_at "gs") => `(tactic| (repeat walk_at "gs1"))
local macro_rules | `(tactic| walk_at "gx") => `(tactic| (repeat walk_at "gx1"))

section
variable {P : Program} {w : World} {K : PySem.W.Frag} {mg : Str → Option Value} {base : Heap} {X : Cx}
/-- a number at or beside one of a list of ints of at most sixty digits -/
def spNear (K : PySem.W.Frag) : Sp := fun vs H Q _ => ∃ (f a : Addr) (ns : List Int), vs = [.ref f, .ref a] ∧ H f = some (FlowO f) ∧ SqL K H a (ns.map V.int) ∧ ns.length ≤ 100000 ∧ (∀ n ∈ ns, -1000000000000000000000000000000000000000000000000000000000000 ≤ n ∧ n ≤ 1000000000000000000000000000000000000000000000000000000000000) ∧
  ∀ (n : Int) (H' : Hp), -2000000000000000000000000000000000000000000000000000000000000 ≤ n → n ≤ 2000000000000000000000000000000000000000000000000000000000000 → Same H H' → Q (.int n) H'
abbrev s_near : Stmt := top 17
abbrev N_near : List Str := ["_law_flow_here", "_law_spots_here", "_law_spot"]
theorem sc_near : FnScope N_near ["_law_flow_here", "_law_spots_here"] (defScope s_near) := ⟨rfl, rfl, rfl, by decide +kernel, rfl, by decide +kernel, by decide +kernel⟩

theorem ok_near {f : Addr} {fd : FuncData} (D : Dn K mg "_law_near" s_near ["_law_flow_here", "_law_spots_here"] f fd) (T : Bt mg) (c__law_dip : Cal P w K mg base 1 "_law_dip" spDip []) : Cal P w K mg base 2 "_law_near" (spNear K) [] := by
  refine cal_of D (D.fn.ok sc_near (fun vs H Q E h => ?_) (fun cdv A outer s H vs Q E hr h => ?_))
  · obtain ⟨f, a, ns, rfl, _⟩ := h
    rfl
  · obtain ⟨f, a, ns, rfl, hf, ha, hl, hb, k⟩ := h
    refine ⟨_, (pss_cons (ps_if (pt_cmpR (op_eqD hr.units) (pv 1) (pe_lst pa_nil) (nomark _)) (pss_one (ps_ret (pe_op op_sub (pe_c c__law_dip hr (by decide) (by rfl) (pa_cons (pv 0) (pa_cons pe_int pa_nil))) pe_int))) pss_nil)
    (pss_cons (ps_set (i := 2) sc_near.nd rfl (Or.inl rfl) (pe_ix ix_list (pv 1) (pe_c c__law_dip hr (by decide) (by rfl) (pa_cons (pv 0) (pa_cons (pe_callB cr_lenQ (by rfl) T.n_len bt_len (pa_cons (pv 1) pa_nil)) pa_nil))) (fun _ _ => rfl)))
    (pss_one (ps_ret (pe_op op_add (pv 2) (pe_ix ix_list (pe_lst (pa_cons pe_int (pa_cons pe_int (pa_cons (pe_un un_neg pe_int) (pa_cons pe_int (pa_cons (pe_un un_neg pe_int) (pa_cons (pe_op op_sub (pe_c c__law_dip hr (by decide) (by rfl) (pa_cons (pv 0) (pa_cons pe_int pa_nil))) pe_int) (pa_cons (pe_c c__law_dip hr (by decide) (by rfl) (pa_cons (pv 0) (pa_cons (pe_op op_pow pe_int pe_int) pa_nil))) pa_nil)))))))) (pe_c c__law_dip hr (by decide) (by rfl) (pa_cons (pv 0) (pa_cons pe_int pa_nil))) (fun _ _ => rfl))))))), ?_⟩
    walk_at "gg"
    refine g_mkL (by walk_at "ln") fun p1 H1 n1 S1 e1 => ?_
    refine g_eqI (same_sq S1 ha) (ms := []) (SqL.of e1) ?_
    walk_at "gg"
    refine g_ite (fun c => ?_) (fun c => ?_)
    · walk_at "gg"
      refine g_dip (by walk_at "hp") (by omega) (by walk_at "sb") fun r H2 a2 b2 S2 => ?_
      walk_at "gg"
      exact k _ _ (by omega) (by omega) (S1.trans S2)
    · have hpos : 0 < ns.length := List.length_pos_iff.mpr c
      walk_at "gg"
      refine g_len (same_sq S1 ha) ?_
      walk_at "gg"
      rw [List.length_map]
      refine g_dip (by walk_at "hp") (by omega) (by walk_at "sb") fun r H2 a2 b2 S2 => ?_
      refine g_ixN (same_sq S2 (same_sq S1 ha)) a2 b2 fun n hn _ => ?_
      have hb1 := hb n hn
      walk_at "gg"
      refine g_dip (by walk_at "hp") (by omega) (by walk_at "sb") fun r3 H3 a3 b3 S3 => ?_
      walk_at "gg"
      refine g_pow (c := 100000000000000000000000000000000000000000000000000) ⟨by decide, by decide, by decide⟩ (by decide) ?_
      walk_at "gg"
      refine g_dip (by walk_at "hp") (by omega) (by walk_at "sb") fun r4 H4 a4 b4 S4 => ?_
      walk_at "gg"
      refine g_mkL (by walk_at "ln") fun p5 H5 n5 S5 e5 => ?_
      walk_at "gg"
      refine g_dip (by walk_at "hp") (by omega) (by walk_at "sb") fun r6 H6 a6 b6 S6 => ?_
      refine g_ixI (fun n => -100 ≤ n ∧ n ≤ 100000000000000000000000000000000000000000000000000) (S6 _ _ e5) a6 b6 (all_cons ⟨_, rfl, by omega⟩ (all_cons ⟨_, rfl, by omega⟩ (all_cons ⟨_, rfl, by omega⟩ (all_cons ⟨_, rfl, by omega⟩ (all_cons ⟨_, rfl, by omega⟩ (all_cons ⟨_, rfl, by omega⟩ (all_cons ⟨_, rfl, by omega⟩ all_nil))))))) fun d ⟨d1, d2⟩ => ?_
      walk_at "gg"
      exact k _ _ (by omega) (by omega) (by walk_at "sm")
end
end Gk

namespace Gk
open PySem L2 Gx
open C8 (Cal Met Mak pe_c pe_mt pe_mt0 pe_mk pe_gc)
local macro_rules | `(tactic| walk_at "g") => `(tactic| (first
  | with_reducible refine g_seq ?_ | with_reducible refine g_asg ?_ | ((with_reducible show tVar _ _ _ _); refine g_var rfl ?_) | with_reducible refine g_c ?_ | with_reducible refine g_name ?_ | with_reducible refine g_op ?_ | with_reducible refine g_I0 ?_
  | with_reducible refine g_cons ?_ | with_reducible refine g_nil ?_ | with_reducible refine g_exbl ?_ | with_reducible refine g_exint ?_ | with_reducible refine g_test ?_ | with_reducible refine g_B ?_ | with_reducible refine g_ifS ?_ | with_reducible refine g_ret ?_ | with_reducible refine g_retN ?_ | with_reducible refine g_next ?_
  | with_reducible refine g_CB ?_ | with_reducible refine g_sub ?_ | with_reducible refine g_drop ?_ | with_reducible refine g_not ?_ | with_reducible refine g_and ?_ | with_reducible refine g_or ?_ | with_reducible refine g_andV ?_ | with_reducible refine g_orV ?_ | with_reducible refine g_notV ?_ | with_reducible refine g_ifE ?_ | with_reducible refine g_isN ?_
  | with_reducible refine g_par ?_ | with_reducible refine g_expar ?_ | with_reducible refine g_chain ?_ | with_reducible refine g_un ?_ | with_reducible refine g_U ?_ | with_reducible refine g_bits ?_ | ((with_reducible show rEq _ _ _ _); refine g_eq rfl ?_) | ((with_reducible show rNe _ _ _ _); refine g_ne rfl ?_)
  | with_reducible refine g_for ?_ | with_reducible refine g_iRng1 ?_ | with_reducible refine g_iRng2 ?_ | with_reducible refine g_iList ?_ | with_reducible refine g_iTup ?_
  | ((with_reducible refine g_Imul ?hc ?_); (case hc => (first | (refine Or.inl ⟨?_, ?_⟩ <;> first | decide | omega) | (refine Or.inr ⟨?_, ?_⟩ <;> first | decide | omega))))
  | ((with_reducible refine g_Idiv ?hc ?_); (case hc => (first | (exact ⟨by decide, by decide⟩) | assumption)))
  | ((with_reducible refine g_Imod ?hc ?_); (case hc => (first | assumption | omega | decide)))
  | ((with_reducible refine g_exR1 ?hlo ?hhi ?_); (case hlo => omega); (case hhi => omega))
  | ((with_reducible refine g_exR2 ?hb ?_); (case hb => omega))
  | with_reducible refine g_lst ?_ | with_reducible refine g_tup ?_ | with_reducible refine g_call ?_ | with_reducible refine g_BM ?_ | with_reducible refine g_BM0 ?_
  | with_reducible refine g_intB ?_ | with_reducible refine g_lc ?_ | with_reducible refine g_yes ?_ | with_reducible refine g_iZip ?_ | with_reducible refine g_sl ?_ | with_reducible refine g_noP ?_ | with_reducible refine g_part ?_ | with_reducible refine g_gcons ?_ | with_reducible refine g_gnil ?_
  | with_reducible refine g_tfld ?_ | with_reducible refine g_tmeth ?_ | with_reducible refine g_tmake ?_ | with_reducible refine g_sfld ?_ | with_reducible refine g_tprop ?_ | with_reducible refine g_tstar ?_ | with_reducible refine g_tmethK ?_ | with_reducible refine g_isN1 ?_ | with_reducible refine g_notN1 ?_))
local macro_rules | `(tactic| walk_at "gs1") => `(tactic| (first
  | with_reducible refine g_seq ?_ | with_reducible refine g_asg ?_ | ((with_reducible show tVar _ _ _ _); refine g_var rfl ?_) | with_reducible refine g_c ?_ | with_reducible refine g_name ?_ | with_reducible refine g_op ?_ | with_reducible refine g_I0 ?_
  | with_reducible refine g_cons ?_ | with_reducible refine g_nil ?_ | with_reducible refine g_exbl ?_ | with_reducible refine g_exint ?_ | with_reducible refine g_test ?_ | with_reducible refine g_B ?_ | with_reducible refine g_ifS ?_ | with_reducible refine g_retN ?_ | with_reducible refine g_next ?_
  | with_reducible refine g_CB ?_ | with_reducible refine g_sub ?_ | with_reducible refine g_drop ?_ | with_reducible refine g_not ?_ | with_reducible refine g_and ?_ | with_reducible refine g_or ?_ | with_reducible refine g_andV ?_ | with_reducible refine g_orV ?_ | with_reducible refine g_notV ?_ | with_reducible refine g_ifE ?_ | with_reducible refine g_isN ?_
  | with_reducible refine g_par ?_ | with_reducible refine g_expar ?_ | with_reducible refine g_chain ?_ | with_reducible refine g_un ?_ | with_reducible refine g_U ?_ | with_reducible refine g_bits ?_ | ((with_reducible show rEq _ _ _ _); refine g_eq rfl ?_) | ((with_reducible show rNe _ _ _ _); refine g_ne rfl ?_)
  | with_reducible refine g_for ?_ | with_reducible refine g_iRng1 ?_ | with_reducible refine g_iRng2 ?_ | with_reducible refine g_iList ?_ | with_reducible refine g_iTup ?_
  | ((with_reducible refine g_Imul ?hc ?_); (case hc => (first | (refine Or.inl ⟨?_, ?_⟩ <;> first | decide | omega) | (refine Or.inr ⟨?_, ?_⟩ <;> first | decide | omega))))
  | ((with_reducible refine g_Idiv ?hc ?_); (case hc => (first | (exact ⟨by decide, by decide⟩) | assumption)))
  | ((with_reducible refine g_Imod ?hc ?_); (case hc => (first | assumption | omega | decide)))
  | ((with_reducible refine g_exR1 ?hlo ?hhi ?_); (case hlo => omega); (case hhi => omega))
  | ((with_reducible refine g_exR2 ?hb ?_); (case hb => omega))
  | with_reducible refine g_lst ?_ | with_reducible refine g_tup ?_ | with_reducible refine g_call ?_ | with_reducible refine g_BM ?_ | with_reducible refine g_BM0 ?_
  | with_reducible refine g_intB ?_ | with_reducible refine g_lc ?_ | with_reducible refine g_yes ?_ | with_reducible refine g_iZip ?_ | with_reducible refine g_sl ?_ | with_reducible refine g_noP ?_ | with_reducible refine g_part ?_ | with_reducible refine g_gcons ?_ | with_reducible refine g_gnil ?_
  | with_reducible refine g_tfld ?_ | with_reducible refine g_tmeth ?_ | with_reducible refine g_tmake ?_ | with_reducible refine g_sfld ?_ | with_reducible refine g_tprop ?_ | with_reducible refine g_tstar ?_ | with_reducible refine g_tmethK ?_ | with_reducible refine g_isN1 ?_ | with_reducible refine g_notN1 ?_))
local macro_rules | `(tactic| walk_at "gx1") => `(tactic| (first
  | with_reducible refine g_seq ?_ | with_reducible refine g_asg ?_ | ((with_reducible show tVar _ _ _ _); refine g_var rfl ?_) | with_reducible refine g_c ?_ | with_reducible refine g_name ?_ | with_reducible refine g_op ?_ | with_reducible refine g_I0 ?_
  | with_reducible refine g_cons ?_ | with_reducible refine g_nil ?_ | with_reducible refine g_exbl ?_ | with_reducible refine g_exint ?_ | with_reducible refine g_test ?_ | with_reducible refine g_B ?_ | with_reducible refine g_ifS ?_ | with_reducible refine g_retN ?_ | with_reducible refine g_next ?_
  | with_reducible refine g_CB ?_ | with_reducible refine g_sub ?_ | with_reducible refine g_drop ?_ | with_reducible refine g_not ?_ | with_reducible refine g_and ?_ | with_reducible refine g_or ?_ | with_reducible refine g_andV ?_ | with_reducible refine g_orV ?_ | with_reducible refine g_notV ?_ | with_reducible refine g_ret ?_ | with_reducible refine g_isN ?_
  | with_reducible refine g_par ?_ | with_reducible refine g_expar ?_ | with_reducible refine g_chain ?_ | with_reducible refine g_un ?_ | with_reducible refine g_U ?_ | with_reducible refine g_bits ?_ | ((with_reducible show rEq _ _ _ _); refine g_eq rfl ?_) | ((with_reducible show rNe _ _ _ _); refine g_ne rfl ?_)
  | with_reducible refine g_for ?_ | with_reducible refine g_iRng1 ?_ | with_reducible refine g_iRng2 ?_ | with_reducible refine g_iList ?_ | with_reducible refine g_iTup ?_
  | ((with_reducible refine g_Imul ?hc ?_); (case hc => (first | (refine Or.inl ⟨?_, ?_⟩ <;> first | decide | omega) | (refine Or.inr ⟨?_, ?_⟩ <;> first | decide | omega))))
  | ((with_reducible refine g_Idiv ?hc ?_); (case hc => (first | (exact ⟨by decide, by decide⟩) | assumption)))
  | ((with_reducible refine g_Imod ?hc ?_); (case hc => (first | assumption | omega | decide)))
  | ((with_reducible refine g_exR1 ?hlo ?hhi ?_); (case hlo => omega); (case hhi => omega))
  | ((with_reducible refine g_exR2 ?hb ?_); (case hb => omega))
  | with_reducible refine g_lst ?_ | with_reducible refine g_tup ?_ | with_reducible refine g_call ?_ | with_reducible refine g_BM ?_ | with_reducible refine g_BM0 ?_
  | with_reducible refine g_intB ?_ | with_reducible refine g_lc ?_ | with_reducible refine g_yes ?_ | with_reducible refine g_iZip ?_ | with_reducible refine g_sl ?_ | with_reducible refine g_noP ?_ | with_reducible refine g_part ?_ | with_reducible refine g_gcons ?_ | with_reducible refine g_gnil ?_
  | with_reducible refine g_tfld ?_ | with_reducible refine g_tmeth ?_ | with_reducible refine g_tmake ?_ | with_reducible refine g_sfld ?_ | with_reducible refine g_tprop ?_ | with_reducible refine g_tstar ?_ | with_reducible refine g_tmethK ?_ | with_reducible refine g_isN1 ?_ | with_reducible refine g_notN1 ?_))
local macro_rules | `(tactic| walk_at "hp") => `(tactic| (first | assumption | exact upd_same | (refine same_get (by assumption) ?_; walk_at "hp")))
local macro_rules | `(tactic| walk_at "sm") => `(tactic| (first | assumption | exact Same.refl _ | (refine Same.trans ?ha (by assumption); walk_at "sm")))
local macro_rules | `(tactic| walk_at "nn") => `(tactic| (first | assumption | (refine same_free (by assumption) ?_; walk_at "nn")))
local macro_rules | `(tactic| walk_at "sb") => `(tactic| (first | decide | (refine small_bits ?_ ?_ <;> omega)))
local macro_rules | `(tactic| walk_at "ln") => `(tactic| (simp only [List.length_cons, List.length_nil]; omega))
local macro_rules | `(tactic| walk_at "gg") => `(tactic| (repeat walk_at "g"))
local macro_rules | `(tactic| walk_at "gs") => `(tactic| (repeat walk_at "gs1"))
local macro_rules | `(tactic| walk_at "gx") => `(tactic| (repeat walk_at "gx1"))

section
variable {P : Program} {w : World} {K : PySem.W.Frag} {mg : Str → Option Value} {base : Heap} {X : Cx}
/-- where the draws begin -/
def spFlow0 (K : PySem.W.Frag) : Sp := fun vs H Q _ => ∃ (a : Addr) (ns : List Int) (k : Int), vs = [.ref a, .int k] ∧ SqL K H a (ns.map V.int) ∧ 0 ≤ k ∧
  ∀ (p : Addr) (x y z : Int) (H' : Hp), 0 ≤ x → H p = none → Same H H' → H' p = some (three x y z) → Q (.ref p) H'
def spFlow (K : PySem.W.Frag) : Sp := fun vs H Q _ => ∃ (a : Addr) (ns : List Int) (k : Int), vs = [.ref a, .int k] ∧ SqL K H a (ns.map V.int) ∧ 0 ≤ k ∧
  ∀ (p : Addr) (H' : Hp), H p = none → Same H H' → H' p = some (FlowO p) → Q (.ref p) H'
abbrev s_flow : Stmt := top 12
abbrev N_flow : List Str := ["_law_script", "_law_k", "_law_begin_here"]
theorem sc_flow : FnScope N_flow ["_law_script", "_law_k"] (defScope s_flow) := ⟨rfl, rfl, rfl, by decide +kernel, rfl, by decide +kernel, by decide +kernel⟩

theorem ok_flow0 {f : Addr} {fd : FuncData} (D : Dn K mg "_law_flow" s_flow ["_law_script", "_law_k"] f fd) (T : Bt mg) : FnOk P w K mg base L2.CX0 1 f fd ["_law_script", "_law_k"] (spFlow0 K) := by
  refine D.fn.ok sc_flow (fun vs H Q E h => ?_) (fun cdv A outer s H vs Q E hr h => ?_)
  · obtain ⟨a, ns, k, rfl, _⟩ := h
    rfl
  · obtain ⟨a, ns, n, rfl, ha, hn, k⟩ := h
    refine ⟨_, (pss_cons (ps_set (i := 2) sc_flow.nd rfl (Or.inl rfl) pe_int)
    (pss_cons (ps_if (pt_cmpR op_lt (pv 1) (pe_callB cr_lenQ (by rfl) T.n_len bt_len (pa_cons (pv 0) pa_nil)) (nomark _)) (pss_one (ps_set (i := 2) sc_flow.nd rfl (Or.inl rfl) (pe_ix ix_list (pv 0) (pv 1) (fun _ _ => rfl)))) pss_nil)
    (pss_one (ps_ret (pe_lst (pa_cons (pe_callB (cr_maxQ rfl) (by rfl) T.n_max bt_max (pa_cons pe_int (pa_cons (pe_op op_sub (pe_callB cr_absQ (by rfl) T.n_abs bt_abs (pa_cons (pv 2) pa_nil)) (pe_op op_pow pe_int pe_int)) pa_nil))) (pa_cons (pe_op op_mod (pe_op op_add (pe_op op_add (pe_op op_mul (pv 2) pe_int) (pe_op op_mul pe_int (pv 1))) pe_int) pe_int) (pa_cons pe_int pa_nil)))))))), ?_⟩
    walk_at "gg"
    refine g_len ha ?_
    rw [List.length_map]
    walk_at "gg"
    refine g_iteJ (fun σ' H' => ∃ b : Int, σ' = [some (.ref a), some (.int n), some (.int b)] ∧ H' = H) ?_ ?_ ?_
    · rintro σ' H' ⟨b, rfl, rfl⟩
      walk_at "gg"
      refine g_abs fun c c0 _ => ?_
      walk_at "gg"
      refine g_pow (c := 1000000000000000000) ⟨by decide, by decide, by decide⟩ (by decide) ?_
      walk_at "gg"
      refine g_max2 fun x x0 _ _ => ?_
      walk_at "gg"
      refine g_mkL (by walk_at "ln") fun p H1 n1 S1 e1 => ?_
      exact k p x _ 0 H1 x0 n1 S1 e1
    · intro N' tl c
      walk_at "gg"
      refine g_ixN ha hn c fun v _ _ => ?_
      walk_at "gg"
      exact tl _ _ ⟨v, rfl, rfl⟩
    · intro N' tl c
      walk_at "gg"
      exact tl _ _ ⟨0, rfl, rfl⟩
theorem ok_flow {f : Addr} {fd : FuncData} (D : Dn K mg "_law_flow" s_flow ["_law_script", "_law_k"] f fd) (T : Bt mg) : Cal P w K mg base 1 "_law_flow" (spFlow K) [] := by
  refine cal_of D (flow_made (ok_flow0 D T) fun vs H Q E h => ?_)
  obtain ⟨a, ns, n, rfl, ha, hn, k⟩ := h
  refine ⟨a, ns, n, rfl, ha, hn, fun p x y z H' hx np S e => ⟨p, x, y, z, rfl, hx, e, k p _ np (same_mut S np) upd_same⟩⟩
end
end Gk

namespace Gk
open PySem L2 Gx
open C8 (Cal Met Mak pe_c pe_mt pe_mt0 pe_mk pe_gc)
local macro_rules | `(tactic| walk_at "g") => `(tactic| (first
  | with_reducible refine g_seq ?_ | with_reducible refine g_asg ?_ | ((with_reducible show tVar _ _ _ _); refine g_var rfl ?_) | with_reducible refine g_c ?_ | with_reducible refine g_name ?_ | with_reducible refine g_op ?_ | with_reducible refine g_I0 ?_
  | with_reducible refine g_cons ?_ | with_reducible refine g_nil ?_ | with_reducible refine g_exbl ?_ | with_reducible refine g_exint ?_ | with_reducible refine g_test ?_ | with_reducible refine g_B ?_ | with_reducible refine g_ifS ?_ | with_reducible refine g_ret ?_ | with_reducible refine g_retN ?_ | with_reducible refine g_next ?_
  | with_reducible refine g_CB ?_ | with_reducible refine g_sub ?_ | with_reducible refine g_drop ?_ | with_reducible refine g_not ?_ | with_reducible refine g_and ?_ | with_reducible refine g_or ?_ | with_reducible refine g_andV ?_ | with_reducible refine g_orV ?_ | with_reducible refine g_notV ?_ | with_reducible refine g_ifE ?_ | with_reducible refine g_isN ?_
  | with_reducible refine g_par ?_ | with_reducible refine g_expar ?_ | with_reducible refine g_chain ?_ | with_reducible refine g_un ?_ | with_reducible refine g_U ?_ | with_reducible refine g_bits ?_ | ((with_reducible show rEq _ _ _ _); refine g_eq rfl ?_) | ((with_reducible show rNe _ _ _ _); refine g_ne rfl ?_)
  | with_reducible refine g_for ?_ | with_reducible refine g_iRng1 ?_ | with_reducible refine g_iRng2 ?_ | with_reducible refine g_iList ?_ | with_reducible refine g_iTup ?_
  | ((with_reducible refine g_Imul ?hc ?_); (case hc => (first | (refine Or.inl ⟨?_, ?_⟩ <;> first | decide | omega) | (refine Or.inr ⟨?_, ?_⟩ <;> first | decide | omega))))
  | ((with_reducible refine g_Idiv ?hc ?_); (case hc => (first | (exact ⟨by decide, by decide⟩) | assumption)))
  | ((with_reducible refine g_Imod ?hc ?_); (case hc => (first | assumption | omega | decide)))
  | ((with_reducible refine g_exR1 ?hlo ?hhi ?_); (case hlo => omega); (case hhi => omega))
  | ((with_reducible refine g_exR2 ?hb ?_); (case hb => omega))
  | with_reducible refine g_lst ?_ | with_reducible refine g_tup ?_ | with_reducible refine g_call ?_ | with_reducible refine g_BM ?_ | with_reducible refine g_BM0 ?_
  | with_reducible refine g_intB ?_ | with_reducible refine g_lc ?_ | with_reducible refine g_yes ?_ | with_reducible refine g_iZip ?_ | with_reducible refine g_sl ?_ | with_reducible refine g_noP ?_ | with_reducible refine g_part ?_ | with_reducible refine g_gcons ?_ | with_reducible refine g_gnil ?_
  | with_reducible refine g_tfld ?_ | with_reducible refine g_tmeth ?_ | with_reducible refine g_tmake ?_ | with_reducible refine g_sfld ?_ | with_reducible refine g_tprop ?_ | with_reducible refine g_tstar ?_ | with_reducible refine g_tmethK ?_ | with_reducible refine g_isN1 ?_ | with_reducible refine g_notN1 ?_))
local macro_rules | `(tactic| walk_at "gs1") => `(tactic| (first
  | with_reducible refine g_seq ?_ | with_reducible refine g_asg ?_ | ((with_reducible show tVar _ _ _ _); refine g_var rfl ?_) | with_reducible refine g_c ?_ | with_reducible refine g_name ?_ | with_reducible refine g_op ?_ | with_reducible refine g_I0 ?_
  | with_reducible refine g_cons ?_ | with_reducible refine g_nil ?_ | with_reducible refine g_exbl ?_ | with_reducible refine g_exint ?_ | with_reducible refine g_test ?_ | with_reducible refine g_B ?_ | with_reducible refine g_ifS ?_ | with_reducible refine g_retN ?_ | with_reducible refine g_next ?_
  | with_reducible refine g_CB ?_ | with_reducible refine g_sub ?_ | with_reducible refine g_drop ?_ | with_reducible refine g_not ?_ | with_reducible refine g_and ?_ | with_reducible refine g_or ?_ | with_reducible refine g_andV ?_ | with_reducible refine g_orV ?_ | with_reducible refine g_notV ?_ | with_reducible refine g_ifE ?_ | with_reducible refine g_isN ?_
  | with_reducible refine g_par ?_ | with_reducible refine g_expar ?_ | with_reducible refine g_chain ?_ | with_reducible refine g_un ?_ | with_reducible refine g_U ?_ | with_reducible refine g_bits ?_ | ((with_reducible show rEq _ _ _ _); refine g_eq rfl ?_) | ((with_reducible show rNe _ _ _ _); refine g_ne rfl ?_)
  | with_reducible refine g_for ?_ | with_reducible refine g_iRng1 ?_ | with_reducible refine g_iRng2 ?_ | with_reducible refine g_iList ?_ | with_reducible refine g_iTup ?_
  | ((with_reducible refine g_Imul ?hc ?_); (case hc => (first | (refine Or.inl ⟨?_, ?_⟩ <;> first | decide | omega) | (refine Or.inr ⟨?_, ?_⟩ <;> first | decide | omega))))
  | ((with_reducible refine g_Idiv ?hc ?_); (case hc => (first | (exact ⟨by decide, by decide⟩) | assumption)))
  | ((with_reducible refine g_Imod ?hc ?_); (case hc => (first | assumption | omega | decide)))
  | ((with_reducible refine g_exR1 ?hlo ?hhi ?_); (case hlo => omega); (case hhi => omega))
  | ((with_reducible refine g_exR2 ?hb ?_); (case hb => omega))
  | with_reducible refine g_lst ?_ | with_reducible refine g_tup ?_ | with_reducible refine g_call ?_ | with_reducible refine g_BM ?_ | with_reducible refine g_BM0 ?_
  | with_reducible refine g_intB ?_ | with_reducible refine g_lc ?_ | with_reducible refine g_yes ?_ | with_reducible refine g_iZip ?_ | with_reducible refine g_sl ?_ | with_reducible refine g_noP ?_ | with_reducible refine g_part ?_ | with_reducible refine g_gcons ?_ | with_reducible refine g_gnil ?_
  | with_reducible refine g_tfld ?_ | with_reducible refine g_tmeth ?_ | with_reducible refine g_tmake ?_ | with_reducible refine g_sfld ?_ | with_reducible refine g_tprop ?_ | with_reducible refine g_tstar ?_ | with_reducible refine g_tmethK ?_ | with_reducible refine g_isN1 ?_ | with_reducible refine g_notN1 ?_))
local macro_rules | `(tactic| walk_at "gx1") => `(tactic| (first
  | with_reducible refine g_seq ?_ | with_reducible refine g_asg ?_ | ((with_reducible show tVar _ _ _ _); refine g_var rfl ?_) | with_reducible refine g_c ?_ | with_reducible refine g_name ?_ | with_reducible refine g_op ?_ | with_reducible refine g_I0 ?_
  | with_reducible refine g_cons ?_ | with_reducible refine g_nil ?_ | with_reducible refine g_exbl ?_ | with_reducible refine g_exint ?_ | with_reducible refine g_test ?_ | with_reducible refine g_B ?_ | with_reducible refine g_ifS ?_ | with_reducible refine g_retN ?_ | with_reducible refine g_next ?_
  | with_reducible refine g_CB ?_ | with_reducible refine g_sub ?_ | with_reducible refine g_drop ?_ | with_reducible refine g_not ?_ | with_reducible refine g_and ?_ | with_reducible refine g_or ?_ | with_reducible refine g_andV ?_ | with_reducible refine g_orV ?_ | with_reducible refine g_notV ?_ | with_reducible refine g_ret ?_ | with_reducible refine g_isN ?_
  | with_reducible refine g_par ?_ | with_reducible refine g_expar ?_ | with_reducible refine g_chain ?_ | with_reducible refine g_un ?_ | with_reducible refine g_U ?_ | with_reducible refine g_bits ?_ | ((with_reducible show rEq _ _ _ _); refine g_eq rfl ?_) | ((with_reducible show rNe _ _ _ _); refine g_ne rfl ?_)
  | with_reducible refine g_for ?_ | with_reducible refine g_iRng1 ?_ | with_reducible refine g_iRng2 ?_ | with_reducible refine g_iList ?_ | with_reducible refine g_iTup ?_
  | ((with_reducible refine g_Imul ?hc ?_); (case hc => (first | (refine Or.inl ⟨?_, ?_⟩ <;> first | decide | omega) | (refine Or.inr ⟨?_, ?_⟩ <;> first | decide | omega))))
  | ((with_reducible refine g_Idiv ?hc ?_); (case hc => (first | (exact ⟨by decide, by decide⟩) | assumption)))
  | ((with_reducible refine g_Imod ?hc ?_); (case hc => (first | assumption | omega | decide)))
  | ((with_reducible refine g_exR1 ?hlo ?hhi ?_); (case hlo => omega); (case hhi => omega))
  | ((with_reducible refine g_exR2 ?hb ?_); (case hb => omega))
  | with_reducible refine g_lst ?_ | with_reducible refine g_tup ?_ | with_reducible refine g_call ?_ | with_reducible refine g_BM ?_ | with_reducible refine g_BM0 ?_
  | with_reducible refine g_intB ?_ | with_reducible refine g_lc ?_ | with_reducible refine g_yes ?_ | with_reducible refine g_iZip ?_ | with_reducible refine g_sl ?_ | with_reducible refine g_noP ?_ | with_reducible refine g_part ?_ | with_reducible refine g_gcons ?_ | with_reducible refine g_gnil ?_
  | with_reducible refine g_tfld ?_ | with_reducible refine g_tmeth ?_ | with_reducible refine g_tmake ?_ | with_reducible refine g_sfld ?_ | with_reducible refine g_tprop ?_ | with_reducible refine g_tstar ?_ | with_reducible refine g_tmethK ?_ | with_reducible refine g_isN1 ?_ | with_reducible refine g_notN1 ?_))
local macro_rules | `(tactic| walk_at "hp") => `(tactic| (first | assumption | exact upd_same | (refine same_get (by assumption) ?_; walk_at "hp")))
local macro_rules | `(tactic| walk_at "sm") => `(tactic| (first | assumption | exact Same.refl _ | (refine Same.trans ?ha (by assumption); walk_at "sm")))
local macro_rules | `(tactic| walk_at "nn") => `(tactic| (first | assumption | (refine same_free (by assumption) ?_; walk_at "nn")))
local macro_rules | `(tactic| walk_at "sb") => `(tactic| (first | decide | (refine small_bits ?_ ?_ <;> omega)))
local macro_rules | `(tactic| walk_at "ln") => `(tactic| (simp only [List.length_cons, List.length_nil]; omega))
local macro_rules | `(tactic| walk_at "gg") => `(tactic| (repeat walk_at "g"))
local macro_rules | `(tactic| walk_at "gs") => `(tactic| (repeat walk_at "gs1"))
local macro_rules | `(tactic| walk_at "gx") => `(tactic| (repeat walk_at "gx1"))

section
variable {P : Program} {w : World} {K : PySem.W.Frag} {mg : Str → Option Value} {base : Heap} {X : Cx}
abbrev s_is_whole_number : Stmt := top 7
abbrev N_is_whole_number : List Str := ["thing"]
theorem sc_is_whole_number : FnScope N_is_whole_number ["thing"] (defScope s_is_whole_number) := ⟨rfl, rfl, rfl, by decide +kernel, rfl, by decide +kernel, by decide +kernel⟩

theorem ok_whole {f : Addr} {fd : FuncData} (D : Dn K mg "is_whole_number" s_is_whole_number ["thing"] f fd) (T : Bt mg) : Cal P w K mg base 1 "is_whole_number" (spWhole K) [] := by
  refine cal_of D (D.fn.ok sc_is_whole_number (fun vs H Q E h => ?_) (fun cdv A outer s H vs Q E hr h => ?_))
  · obtain ⟨x, b, rfl, _⟩ := h
    rfl
  · obtain ⟨x, b, rfl, hv, k⟩ := h
    refine ⟨_, (pss_one (ps_ret (pe_and (pe_callB call_isi (by rfl) T.n_isinstance bt_isinstance (pa_cons (pv 0) (pa_cons (pe_bltn (v := .ty "int") (by rfl) T.n_int bt_int rfl) pa_nil))) (pe_one (pe_not (pe_callB call_isi (by rfl) T.n_isinstance bt_isinstance (pa_cons (pv 0) (pa_cons (pe_bltn (v := .ty "bool") (by rfl) T.n_bool bt_bool rfl) pa_nil)))))))), ?_⟩
    walk_at "gg"
    cases hv with
    | int i =>
      refine g_isi (.ty "int") (.base (.int i)) (b := true) (kit_ty (by decide +kernel)) ?_
      walk_at "gg"
      refine g_ifT rfl ?_
      walk_at "gg"
      refine g_isi (.ty "bool") (.base (.int i)) (b := false) (kit_ty (by decide +kernel)) ?_
      walk_at "gg"
      exact k
    | bl c =>
      refine g_isi (.ty "int") (.base (.bl c)) (b := true) (kit_ty (by decide +kernel)) ?_
      walk_at "gg"
      refine g_ifT rfl ?_
      walk_at "gg"
      refine g_isi (.ty "bool") (.base (.bl c)) (b := true) (kit_ty (by decide +kernel)) ?_
      walk_at "gg"
      exact k
    | other ty no =>
      refine g_isi (.ty "int") ty no ?_
      walk_at "gg"
      refine g_ifF rfl ?_
      exact k
abbrev s_Line_is_point : Stmt := inClass (top 9) 3
abbrev N_Line_is_point : List Str := ["self", "thing"]
theorem sc_Line_is_point : FnScope N_Line_is_point ["self", "thing"] (defScope s_Line_is_point) := ⟨rfl, rfl, rfl, by decide +kernel, rfl, by decide +kernel, by decide +kernel⟩

theorem ok_point {f : Addr} {fd : FuncData} (F : Fun K "is_point" "Line.is_point" s_Line_is_point f fd) (c_is_whole_number : Cal P w K mg base 1 "is_whole_number" (spWhole K) []) : FnOk P w K mg base L2.CX0 2 f fd ["self", "thing"] (spPoint K) := by
  refine F.ok sc_Line_is_point (fun vs H Q E h => ?_) (fun cdv A outer s H vs Q E hr h => ?_)
  · obtain ⟨p, x, b, rfl, _⟩ := h
    rfl
  · obtain ⟨p, x, b, rfl, hv, k⟩ := h
    refine ⟨_, (pss_one (ps_ret (pe_c c_is_whole_number hr (by decide) (by rfl) (pa_cons (pv 1) pa_nil)))), ?_⟩
    walk_at "gg"
    exact ⟨x, b, rfl, hv, k⟩
abbrev s_Line_points : Stmt := inClass (top 9) 2
abbrev N_Line_points : List Str := ["self"]
theorem sc_Line_points : FnScope N_Line_points ["self"] (defScope s_Line_points) := ⟨rfl, rfl, rfl, by decide +kernel, rfl, by decide +kernel, by decide +kernel⟩

theorem ok_points {f : Addr} {fd : FuncData} {C : Addr} (F : Fun K "points" "Line.points" s_Line_points f fd) (L : LineC K C) (T : Bt mg) : FnOk P w K mg base L2.CX0 1 f fd ["self"] (spPoints K C) := by
  refine F.ok sc_Line_points (fun vs H Q E h => ?_) (fun cdv A outer s H vs Q E hr h => ?_)
  · obtain ⟨p, xs, rfl, _⟩ := h
    rfl
  · obtain ⟨p, xs, rfl, ⟨dx, q, h1, h2⟩, k⟩ := h
    refine ⟨_, (pss_one (ps_ret (pe_callTy cr_listQ (by rfl) T.n_list bt_list (pa_cons (pe_fld (pv 0) rfl) pa_nil)))), ?_⟩
    walk_at "gg"
    refine g_fld h1 L.cl L.own (lf_own q) ?_
    walk_at "gg"
    refine g_listof (SqL.of h2) fun l H' n S e => ?_
    exact k l H' n S e
abbrev s_Line_init : Stmt := inClass (top 9) 1
abbrev N_Line_init : List Str := ["self", "points", "one", "other"]
theorem sc_Line_init : FnScope N_Line_init ["self", "points"] (defScope s_Line_init) := ⟨rfl, rfl, rfl, by decide +kernel, rfl, by decide +kernel, by decide +kernel⟩

theorem ok_initI {f : Addr} {fd : FuncData} {C CF : Addr} (F : Fun K "__init__" "Line.__init__" s_Line_init f fd) (L : LineC K C) (T : Bt mg) (d_is_point : Met P w K mg base 2 C "is_point" (spPoint K) [])
    (g_Found : ∃ u, mg "Found" = some u ∧ RelV (.ref CF) u) (g_MOST_POINTS : ∃ u, mg "MOST_POINTS" = some u ∧ RelV (.int 500) u) (noF : PySem.W.kitOne K (.type "list") (.ref CF) = some false) : FnOk P w K mg base L2.CX0 3 f fd ["self", "points"] (spInitI K C) := by
  refine F.ok sc_Line_init (fun vs H Q E h => ?_) (fun cdv A outer s H vs Q E hr h => ?_)
  · obtain ⟨p, a, dx, ns, rfl, _⟩ := h
    rfl
  · obtain ⟨p, a, dx, ns, rfl, hp, ha, hl, rise, k⟩ := h
    refine ⟨_, (pss_one (ps_if (pt_val (pe_callB call_isi (by rfl) T.n_isinstance bt_isinstance (pa_cons (pv 1) (pa_cons (pe_gc (by rfl) g_Found) pa_nil)))) (pss_one (ps_fld (pv 0) (pe_fld (pv 1) rfl) rfl)) (pss_cons (ps_if (PW.pt (pw_or (pt_not (pt_val (pe_callB call_isi (by rfl) T.n_isinstance bt_isinstance (pa_cons (pv 1) (pa_cons (pe_bltn (v := .ty "list") (by rfl) T.n_list bt_list rfl) pa_nil))))) (pw_or1 (pt_cmpR op_gt (pe_callB cr_lenQ (by rfl) T.n_len bt_len (pa_cons (pv 1) pa_nil)) (pe_gc (by rfl) g_MOST_POINTS) (nomark _))))) (pss_one ps_never) pss_nil)
    (pss_cons (ps_if (pt_not (pt_val (pe_callB (cr_all rfl) (by rfl) T.n_all bt_all (pa_cons (pe_lc (own := [("one", 2)]) (g := gName 2) (tt := tYes) rfl sc_Line_init.nd (pi_list (pv 1)) (blkOk_by (own := [("one", 2)]) (N := N_Line_init) (sc := defScope s_Line_init) (by decide +kernel)) (fun _ _ _ _ _ => pg_name (i := 2) sc_Line_init.nd rfl (Or.inl rfl)) (fun _ _ _ _ _ => pts_nil) (fun _ _ _ _ _ => (pe_mt d_is_point hr (by decide) (pv 0) (pa_cons (pv 2) pa_nil)))) pa_nil)))) (pss_one ps_never) pss_nil)
    (pss_cons (ps_if (pt_not (pt_val (pe_callB (cr_all rfl) (by rfl) T.n_all bt_all (pa_cons (pe_lc (own := [("one", 2), ("other", 3)]) (g := gTup K 2 (gCons (gName 2) (gCons (gName 3) gNil))) (tt := tYes) rfl sc_Line_init.nd (pi_zip (by rfl) T.n_zip (pa_cons (pv 1) (pa_cons (pe_slice sl_list (pv 1) (po_some pe_int) po_none) pa_nil))) (blkOk_by (own := [("one", 2), ("other", 3)]) (N := N_Line_init) (sc := defScope s_Line_init) (by decide +kernel)) (fun _ _ _ _ _ => (pg_tup (by rfl) (pgs_cons (pg_name (i := 2) sc_Line_init.nd rfl (Or.inl rfl)) (pgs_cons (pg_name (i := 3) sc_Line_init.nd rfl (Or.inl rfl)) pgs_nil)))) (fun _ _ _ _ _ => pts_nil) (fun _ _ _ _ _ => (pe_cmpR op_lt (pv 2) (pv 3) (nomark _)))) pa_nil)))) (pss_one ps_never) pss_nil)
    (pss_one (ps_fld (pv 0) (pe_callTy cr_listQ (by rfl) T.n_list bt_list (pa_cons (pv 1) pa_nil)) rfl))))))), ?_⟩
    walk_at "gg"
    refine g_isi (.own CF) (.base (.lst ha)) noF ?_
    walk_at "gg"
    refine g_ifF rfl ?_
    walk_at "gg"
    refine g_isi (.ty "list") (.base (.lst ha)) (b := true) (kit_ty (by decide +kernel)) ?_
    walk_at "gg"
    refine g_ifF rfl ?_
    walk_at "gg"
    refine g_len (SqL.of ha) ?_
    rw [List.length_map]
    walk_at "gg"
    refine g_ifF (decide_eq_false (by omega)) ?_
    walk_at "gg"
    refine g_exL (SqL.of ha) ?_
    refine lc_map (src_list (SqL.of ha)) (by rw [List.length_map]; omega) (fun _ y => y = V.bl true) (fun i x H' Nx hi S it kx => ?_) fun D1 acc H1 n1 S1 e1 hl1 hacc => ?_
    · obtain ⟨n, hn, rfl⟩ := ints_at it
      walk_at "gg"
      refine ⟨rfl, ?_⟩
      walk_at "gg"
      refine g_meth (S _ _ hp) rfl ?_
      walk_at "gg"
      exact ⟨p, _, true, rfl, .int n, kx _ _ (Same.refl _) rfl⟩
    rw [trues hacc] at e1
    walk_at "gg"
    refine g_all (SqL.of e1) ?_
    rw [all_trues]
    walk_at "gg"
    refine g_ifF rfl ?_
    walk_at "gg"
    refine g_slL (SqL.of (S1 _ _ ha)) fun q2 H2 n2 S2 e2 => ?_
    rw [cut_one, ← List.map_drop] at e2
    have S02 := S1.trans S2
    walk_at "gg"
    refine g_exZ (SqL.of (S02 _ _ ha)) (SqL.of e2) ?_
    refine lc_map (src_zip (SqL.of (S02 _ _ ha)) (SqL.of e2)) (by rw [List.length_map]; omega) (fun _ y => y = V.bl true) (fun i x H' Nx hi S it kx => ?_) fun D3 acc3 H3 n3 S3 e3 hl3 hacc3 => ?_
    · obtain ⟨T, v1, v2, rfl, hT, x1, x2⟩ := it
      obtain ⟨m1, hm1, rfl⟩ := ints_at x1
      obtain ⟨m2, hm2, rfl⟩ := ints_at x2
      refine g_gtup (SqT.of hT) rfl ?_
      walk_at "gg"
      refine ⟨rfl, ?_⟩
      walk_at "gg"
      exact kx _ _ (Same.refl _) (congrArg V.bl (decide_eq_true (rising_zip rise hm1 hm2)))
    rw [trues hacc3] at e3
    walk_at "gg"
    refine g_all (SqL.of e3) ?_
    rw [all_trues]
    walk_at "gg"
    refine g_ifF rfl ?_
    have S03 := S02.trans S3
    walk_at "gg"
    refine g_listof (SqL.of (S03 _ _ ha)) fun l H4 n4 S4 e4 => ?_
    have S04 := S03.trans S4
    have hp4 := S04 _ _ hp
    walk_at "gg"
    refine g_store hp4 L.cl L.own (by decide) ?_
    have npl : l ≠ p := ne_of e4 hp4 (by intro z; cases z)
    refine k _ ⟨dx, l, upd_same, by rw [upd_ne npl]; exact e4⟩ (but_same S04)
end
end Gk

namespace Gk
open PySem L2 Gx
open C8 (Cal Met Mak pe_c pe_mt pe_mt0 pe_mk pe_gc)
open StX (pa_star)
local macro_rules | `(tactic| walk_at "g") => `(tactic| (first
  | with_reducible refine g_seq ?_ | with_reducible refine g_asg ?_ | ((with_reducible show tVar _ _ _ _); refine g_var rfl ?_) | with_reducible refine g_c ?_ | with_reducible refine g_name ?_ | with_reducible refine g_op ?_ | with_reducible refine g_I0 ?_
  | with_reducible refine g_cons ?_ | with_reducible refine g_nil ?_ | with_reducible refine g_exbl ?_ | with_reducible refine g_exint ?_ | with_reducible refine g_test ?_ | with_reducible refine g_B ?_ | with_reducible refine g_ifS ?_ | with_reducible refine g_ret ?_ | with_reducible refine g_retN ?_ | with_reducible refine g_next ?_
  | with_reducible refine g_CB ?_ | with_reducible refine g_sub ?_ | with_reducible refine g_drop ?_ | with_reducible refine g_not ?_ | with_reducible refine g_and ?_ | with_reducible refine g_or ?_ | with_reducible refine g_andV ?_ | with_reducible refine g_orV ?_ | with_reducible refine g_notV ?_ | with_reducible refine g_ifE ?_ | with_reducible refine g_isN ?_
  | with_reducible refine g_par ?_ | with_reducible refine g_expar ?_ | with_reducible refine g_chain ?_ | with_reducible refine g_un ?_ | with_reducible refine g_U ?_ | with_reducible refine g_bits ?_ | ((with_reducible show rEq _ _ _ _); refine g_eq rfl ?_) | ((with_reducible show rNe _ _ _ _); refine g_ne rfl ?_)
  | with_reducible refine g_for ?_ | with_reducible refine g_iRng1 ?_ | with_reducible refine g_iRng2 ?_ | with_reducible refine g_iList ?_ | with_reducible refine g_iTup ?_
  | ((with_reducible refine g_Imul ?hc ?_); (case hc => (first | (refine Or.inl ⟨?_, ?_⟩ <;> first | decide | omega) | (refine Or.inr ⟨?_, ?_⟩ <;> first | decide | omega))))
  | ((with_reducible refine g_Idiv ?hc ?_); (case hc => (first | (exact ⟨by decide, by decide⟩) | assumption)))
  | ((with_reducible refine g_Imod ?hc ?_); (case hc => (first | assumption | omega | decide)))
  | ((with_reducible refine g_exR1 ?hlo ?hhi ?_); (case hlo => omega); (case hhi => omega))
  | ((with_reducible refine g_exR2 ?hb ?_); (case hb => omega))
  | with_reducible refine g_lst ?_ | with_reducible refine g_tup ?_ | with_reducible refine g_call ?_ | with_reducible refine g_BM ?_ | with_reducible refine g_BM0 ?_
  | with_reducible refine g_intB ?_ | with_reducible refine g_lc ?_ | with_reducible refine g_yes ?_ | with_reducible refine g_iZip ?_ | with_reducible refine g_sl ?_ | with_reducible refine g_noP ?_ | with_reducible refine g_part ?_ | with_reducible refine g_gcons ?_ | with_reducible refine g_gnil ?_
  | with_reducible refine g_tfld ?_ | with_reducible refine g_tmeth ?_ | with_reducible refine g_tmake ?_ | with_reducible refine g_sfld ?_ | with_reducible refine g_tprop ?_ | with_reducible refine g_tstar ?_ | with_reducible refine g_tmethK ?_ | with_reducible refine g_isN1 ?_ | with_reducible refine g_notN1 ?_))
local macro_rules | `(tactic| walk_at "gs1") => `(tactic| (first
  | with_reducible refine g_seq ?_ | with_reducible refine g_asg ?_ | ((with_reducible show tVar _ _ _ _); refine g_var rfl ?_) | with_reducible refine g_c ?_ | with_reducible refine g_name ?_ | with_reducible refine g_op ?_ | with_reducible refine g_I0 ?_
  | with_reducible refine g_cons ?_ | with_reducible refine g_nil ?_ | with_reducible refine g_exbl ?_ | with_reducible refine g_exint ?_ | with_reducible refine g_test ?_ | with_reducible refine g_B ?_ | with_reducible refine g_ifS ?_ | with_reducible refine g_retN ?_ | with_reducible refine g_next ?_
  | with_reducible refine g_CB ?_ | with_reducible refine g_sub ?_ | with_reducible refine g_drop ?_ | with_reducible refine g_not ?_ | with_reducible refine g_and ?_ | with_reducible refine g_or ?_ | with_reducible refine g_andV ?_ | with_reducible refine g_orV ?_ | with_reducible refine g_notV ?_ | with_reducible refine g_ifE ?_ | with_reducible refine g_isN ?_
  | with_reducible refine g_par ?_ | with_reducible refine g_expar ?_ | with_reducible refine g_chain ?_ | with_reducible refine g_un ?_ | with_reducible refine g_U ?_ | with_reducible refine g_bits ?_ | ((with_reducible show rEq _ _ _ _); refine g_eq rfl ?_) | ((with_reducible show rNe _ _ _ _); refine g_ne rfl ?_)
  | with_reducible refine g_for ?_ | with_reducible refine g_iRng1 ?_ | with_reducible refine g_iRng2 ?_ | with_reducible refine g_iList ?_ | with_reducible refine g_iTup ?_
  | ((with_reducible refine g_Imul ?hc ?_); (case hc => (first | (refine Or.inl ⟨?_, ?_⟩ <;> first | decide | omega) | (refine Or.inr ⟨?_, ?_⟩ <;> first | decide | omega))))
  | ((with_reducible refine g_Idiv ?hc ?_); (case hc => (first | (exact ⟨by decide, by decide⟩) | assumption)))
  | ((with_reducible refine g_Imod ?hc ?_); (case hc => (first | assumption | omega | decide)))
  | ((with_reducible refine g_exR1 ?hlo ?hhi ?_); (case hlo => omega); (case hhi => omega))
  | ((with_reducible refine g_exR2 ?hb ?_); (case hb => omega))
  | with_reducible refine g_lst ?_ | with_reducible refine g_tup ?_ | with_reducible refine g_call ?_ | with_reducible refine g_BM ?_ | with_reducible refine g_BM0 ?_
  | with_reducible refine g_intB ?_ | with_reducible refine g_lc ?_ | with_reducible refine g_yes ?_ | with_reducible refine g_iZip ?_ | with_reducible refine g_sl ?_ | with_reducible refine g_noP ?_ | with_reducible refine g_part ?_ | with_reducible refine g_gcons ?_ | with_reducible refine g_gnil ?_
  | with_reducible refine g_tfld ?_ | with_reducible refine g_tmeth ?_ | with_reducible refine g_tmake ?_ | with_reducible refine g_sfld ?_ | with_reducible refine g_tprop ?_ | with_reducible refine g_tstar ?_ | with_reducible refine g_tmethK ?_ | with_reducible refine g_isN1 ?_ | with_reducible refine g_notN1 ?_))
local macro_rules | `(tactic| walk_at "gx1") => `(tactic| (first
  | with_reducible refine g_seq ?_ | with_reducible refine g_asg ?_ | ((with_reducible show tVar _ _ _ _); refine g_var rfl ?_) | with_reducible refine g_c ?_ | with_reducible refine g_name ?_ | with_reducible refine g_op ?_ | with_reducible refine g_I0 ?_
  | with_reducible refine g_cons ?_ | with_reducible refine g_nil ?_ | with_reducible refine g_exbl ?_ | with_reducible refine g_exint ?_ | with_reducible refine g_test ?_ | with_reducible refine g_B ?_ | with_reducible refine g_ifS ?_ | with_reducible refine g_retN ?_ | with_reducible refine g_next ?_
  | with_reducible refine g_CB ?_ | with_reducible refine g_sub ?_ | with_reducible refine g_drop ?_ | with_reducible refine g_not ?_ | with_reducible refine g_and ?_ | with_reducible refine g_or ?_ | with_reducible refine g_andV ?_ | with_reducible refine g_orV ?_ | with_reducible refine g_notV ?_ | with_reducible refine g_ret ?_ | with_reducible refine g_isN ?_
  | with_reducible refine g_par ?_ | with_reducible refine g_expar ?_ | with_reducible refine g_chain ?_ | with_reducible refine g_un ?_ | with_reducible refine g_U ?_ | with_reducible refine g_bits ?_ | ((with_reducible show rEq _ _ _ _); refine g_eq rfl ?_) | ((with_reducible show rNe _ _ _ _); refine g_ne rfl ?_)
  | with_reducible refine g_for ?_ | with_reducible refine g_iRng1 ?_ | with_reducible refine g_iRng2 ?_ | with_reducible refine g_iList ?_ | with_reducible refine g_iTup ?_
  | ((with_reducible refine g_Imul ?hc ?_); (case hc => (first | (refine Or.inl ⟨?_, ?_⟩ <;> first | decide | omega) | (refine Or.inr ⟨?_, ?_⟩ <;> first | decide | omega))))
  | ((with_reducible refine g_Idiv ?hc ?_); (case hc => (first | (exact ⟨by decide, by decide⟩) | assumption)))
  | ((with_reducible refine g_Imod ?hc ?_); (case hc => (first | assumption | omega | decide)))
  | ((with_reducible refine g_exR1 ?hlo ?hhi ?_); (case hlo => omega); (case hhi => omega))
  | ((with_reducible refine g_exR2 ?hb ?_); (case hb => omega))
  | with_reducible refine g_lst ?_ | with_reducible refine g_tup ?_ | with_reducible refine g_call ?_ | with_reducible refine g_BM ?_ | with_reducible refine g_BM0 ?_
  | with_reducible refine g_intB ?_ | with_reducible refine g_lc ?_ | with_reducible refine g_yes ?_ | with_reducible refine g_iZip ?_ | with_reducible refine g_sl ?_ | with_reducible refine g_noP ?_ | with_reducible refine g_part ?_ | with_reducible refine g_gcons ?_ | with_reducible refine g_gnil ?_
  | with_reducible refine g_tfld ?_ | with_reducible refine g_tmeth ?_ | with_reducible refine g_tmake ?_ | with_reducible refine g_sfld ?_ | with_reducible refine g_tprop ?_ | with_reducible refine g_tstar ?_ | with_reducible refine g_tmethK ?_ | with_reducible refine g_isN1 ?_ | with_reducible refine g_notN1 ?_))
local macro_rules | `(tactic| walk_at "hp") => `(tactic| (first | assumption | exact upd_same | (refine same_get (by assumption) ?_; walk_at "hp")))
local macro_rules | `(tactic| walk_at "sm") => `(tactic| (first | assumption | exact Same.refl _ | (refine Same.trans ?ha (by assumption); walk_at "sm")))
local macro_rules | `(tactic| walk_at "nn") => `(tactic| (first | assumption | (refine same_free (by assumption) ?_; walk_at "nn")))
local macro_rules | `(tactic| walk_at "sb") => `(tactic| (first | decide | (refine small_bits ?_ ?_ <;> omega)))
local macro_rules | `(tactic| walk_at "ln") => `(tactic| (simp only [List.length_cons, List.length_nil]; omega))
local macro_rules | `(tactic| walk_at "gg") => `(tactic| (repeat walk_at "g"))
local macro_rules | `(tactic| walk_at "gs") => `(tactic| (repeat walk_at "gs1"))
local macro_rules | `(tactic| walk_at "gx") => `(tactic| (repeat walk_at "gx1"))

section
variable {P : Program} {w : World} {K : PySem.W.Frag} {mg : Str → Option Value} {base : Heap} {X : Cx}
abbrev s_Line_is_ahead : Stmt := inClass (top 9) 4
abbrev N_Line_is_ahead : List Str := ["self", "point", "low"]
theorem sc_Line_is_ahead : FnScope N_Line_is_ahead ["self", "point", "low"] (defScope s_Line_is_ahead) := ⟨rfl, rfl, rfl, by decide +kernel, rfl, by decide +kernel, by decide +kernel⟩

theorem ok_ahead {f : Addr} {fd : FuncData} (F : Fun K "is_ahead" "Line.is_ahead" s_Line_is_ahead f fd) : FnOk P w K mg base CX0 1 f fd ["self", "point", "low"] spAhead := by
  refine F.ok sc_Line_is_ahead (fun vs H Q E h => ?_) (fun cdv A outer s H vs Q E hr h => ?_)
  · obtain ⟨p, a, lo, rfl, _⟩ := h
    rfl
  · obtain ⟨p, a, lo, rfl, k⟩ := h
    refine ⟨_, (pss_one (ps_ret (pe_cmpR op_lt (pv 1) (pv 2) (nomark _)))), ?_⟩
    walk_at "gg"
    exact k
abbrev s_Line_is_beyond : Stmt := inClass (top 9) 5
abbrev N_Line_is_beyond : List Str := ["self", "point", "high"]
theorem sc_Line_is_beyond : FnScope N_Line_is_beyond ["self", "point", "high"] (defScope s_Line_is_beyond) := ⟨rfl, rfl, rfl, by decide +kernel, rfl, by decide +kernel, by decide +kernel⟩

theorem ok_beyond {f : Addr} {fd : FuncData} (F : Fun K "is_beyond" "Line.is_beyond" s_Line_is_beyond f fd) : FnOk P w K mg base CX0 1 f fd ["self", "point", "high"] spBeyond := by
  refine F.ok sc_Line_is_beyond (fun vs H Q E h => ?_) (fun cdv A outer s H vs Q E hr h => ?_)
  · obtain ⟨p, a, lo, rfl, _⟩ := h
    rfl
  · obtain ⟨p, a, lo, rfl, k⟩ := h
    refine ⟨_, (pss_one (ps_ret (pe_cmpR op_gt (pv 1) (pv 2) (nomark _)))), ?_⟩
    walk_at "gg"
    exact k
abbrev s_Line_has_between : Stmt := inClass (top 9) 6
abbrev N_Line_has_between : List Str := ["self", "left", "right", "low", "high", "least"]
theorem sc_Line_has_between : FnScope N_Line_has_between ["self", "left", "right", "low", "high"] (defScope s_Line_has_between) := ⟨rfl, rfl, rfl, by decide +kernel, rfl, by decide +kernel, by decide +kernel⟩

theorem ok_between {f : Addr} {fd : FuncData} (F : Fun K "has_between" "Line.has_between" s_Line_has_between f fd) (T : Bt mg) : FnOk P w K mg base CX0 1 f fd ["self", "left", "right", "low", "high"] spBetween := by
  refine F.ok sc_Line_has_between (fun vs H Q E h => ?_) (fun cdv A outer s H vs Q E hr h => ?_)
  · obtain ⟨p, l, r, lo, hi, rfl, _⟩ := h
    rfl
  · obtain ⟨p, l, r, lo, hi, rfl, k⟩ := h
    refine ⟨_, (pss_cons (ps_set (i := 5) sc_Line_has_between.nd rfl (Or.inl rfl) (pe_ifExp (pt_cmpR op_isN1 (pv 1) pe_non (nomark _)) (pv 3) (pe_callB (cr_maxQ rfl) (by rfl) T.n_max bt_max (pa_cons (pv 3) (pa_cons (pe_op op_add (pv 1) pe_int) pa_nil)))))
    (pss_one (ps_ret (pe_cmpR op_le (pv 5) (pe_ifExp (pt_cmpR op_isN1 (pv 2) pe_non (nomark _)) (pv 4) (pe_callB (cr_minQ rfl) (by rfl) T.n_min bt_min (pa_cons (pv 4) (pa_cons (pe_op op_sub (pv 2) pe_int) pa_nil)))) (nomark _))))), ?_⟩
    have right : ∀ (σ : L2.St) (m : Int), σ = [some (.ref p), some (oV l), some (oV r), some (.int lo), some (.int hi), some (.int m)] → m = leastOf lo l →
        tRet (tOp (rI0 fun i j => V.bl (decide (i ≤ j))) (tVar 5) (tIf (tTest (tOp rIsN (tVar 2) (tC .non))) (tVar 4) (tCB rMinQ (tCons (tVar 4) (tCons (tOp (rI0 fun i j => V.int (i - j)) (tVar 2) (tC (.int 1))) tNil)))))
          { nx := fun _ H' => Q V.non H', rt := Q } σ H := by
      rintro σ m rfl hm
      walk_at "gg"
      cases r with
      | none =>
        refine g_iteT rfl ?_
        walk_at "gg"
        rw [hm]
        exact k
      | some y =>
        refine g_iteF nofun ?_
        walk_at "gg"
        refine ⟨hi, y - 1, rfl, ?_⟩
        walk_at "gg"
        rw [hm]
        exact k
    walk_at "gg"
    cases l with
    | none =>
      refine g_iteT rfl ?_
      walk_at "gs"
      exact right _ _ rfl rfl
    | some x =>
      refine g_iteF nofun ?_
      walk_at "gs"
      refine ⟨lo, x + 1, rfl, ?_⟩
      walk_at "gs"
      exact right _ _ rfl rfl
abbrev s_Line_cells_in : Stmt := inClass (top 9) 15
abbrev N_Line_cells_in : List Str := ["self", "low", "high", "found", "left", "right"]
theorem sc_Line_cells_in : FnScope N_Line_cells_in ["self", "low", "high"] (defScope s_Line_cells_in) := ⟨rfl, rfl, rfl, by decide +kernel, rfl, by decide +kernel, by decide +kernel⟩

theorem ok_cells {f : Addr} {fd : FuncData} {C : Addr} (F : Fun K "cells_in" "Line.cells_in" s_Line_cells_in f fd) (L : LineC K C) (T : Bt mg) (d_has_between : Met P w K mg base 1 C "has_between" spBetween [])
    (d_is_ahead : Met P w K mg base 1 C "is_ahead" spAhead []) (d_is_beyond : Met P w K mg base 1 C "is_beyond" spBeyond []) : FnOk P w K mg base CX0 2 f fd ["self", "low", "high"] (spCells K C) := by
  refine F.ok sc_Line_cells_in (fun vs H Q E h => ?_) (fun cdv A outer s H vs Q E hr h => ?_)
  · obtain ⟨p, ns, lo, hi, rfl, _⟩ := h
    rfl
  · obtain ⟨p, ns, lo, hi, rfl, ⟨dx, q, hp, hq⟩, hle, hl, k⟩ := h
    refine ⟨_, (pss_cons (ps_if (pt_cmpR op_gt (pv 1) (pv 2) (nomark _)) (pss_one ps_never) pss_nil)
    (pss_cons (ps_par (i := 3) (j := 4) (by rfl) sc_Line_cells_in.nd rfl rfl (by decide) rfl rfl (pa_cons (pe_lst pa_nil) (pa_cons pe_non pa_nil)) (by rfl))
    (pss_cons (ps_for PassesOwn.never rfl (pi_list (pe_lst (pa_star (pe_fld (pv 0) rfl) (pa_cons pe_non pa_nil)))) (pg_name (i := 5) sc_Line_cells_in.nd rfl (Or.inl rfl)) (pss_cons (ps_if (pt_val (pe_mt d_has_between hr (by decide) (pv 0) (pa_cons (pv 4) (pa_cons (pv 5) (pa_cons (pv 1) (pa_cons (pv 2) pa_nil)))))) (pss_one (ps_expr (pe_bm PySem.F.plainAttrs_list PySem.F.slot_list_append PySem.F.type_list_append mt_append (pv 3) (pa_cons (pe_tup (pa_cons pe_str (pa_cons (pv 4) (pa_cons (pv 5) pa_nil)))) pa_nil)))) pss_nil)
    (pss_cons (ps_if (PW.pt (pw_and (pt_cmpR op_notN1 (pv 5) pe_non (nomark _)) (pw_and (pt_not (pt_val (pe_mt d_is_ahead hr (by decide) (pv 0) (pa_cons (pv 5) (pa_cons (pv 1) pa_nil))))) (pw_and1 (pt_not (pt_val (pe_mt d_is_beyond hr (by decide) (pv 0) (pa_cons (pv 5) (pa_cons (pv 2) pa_nil))))))))) (pss_one (ps_expr (pe_bm PySem.F.plainAttrs_list PySem.F.slot_list_append PySem.F.type_list_append mt_append (pv 3) (pa_cons (pe_tup (pa_cons pe_str (pa_cons (pv 5) pa_nil))) pa_nil)))) pss_nil)
    (pss_one (ps_set (i := 4) sc_Line_cells_in.nd rfl (Or.inl rfl) (pv 5))))))
    (pss_one (ps_ret (pv 3)))))), ?_⟩
    walk_at "gg"
    refine g_iteF (by omega) ?_
    walk_at "gg"
    refine g_mkL (by walk_at "ln") fun p1 H1 n1 S1 e1 => ?_
    walk_at "gg"
    refine g_fld (S1 _ _ hp) L.cl L.own (lf_own q) ?_
    refine g_star (SqL.of (S1 _ _ hq)) ?_
    walk_at "gg"
    refine g_mkL (by rw [List.length_append, List.length_map]; simp only [List.length_cons, List.length_nil]; omega) fun q2 H2 n2 S2 e2 => ?_
    have nq : q2 ≠ p1 := fun e => by rw [e, e1] at n2; cases n2
    rw [rights_V] at e2
    refine g_exL (SqL.of e2) ?_
    refine fw_list (xs := (rights ns).map oV) (fun i σ H' => ∃ (acc : List V) (v : Option V), σ = [some (.ref p), some (.int lo), some (.int hi), some (.ref p1), some (oV (((rights ns).take i).foldl (cellFold lo hi) (none, [])).1), v] ∧ Same H H' ∧
        H' p1 = some (.lst acc) ∧ H' q2 = some (.lst ((rights ns).map oV)) ∧ DpAll K H' acc (((rights ns).take i).foldl (cellFold lo hi) (none, [])).2 ∧ acc.length ≤ 2 * i)
      ⟨[], none, rfl, S1.trans S2, S2 _ _ e1, e2, .nil, Nat.le_refl _⟩ (fun i σ H' _ ⟨_, _, _, _, _, e, _⟩ => SqL.of e) ?_ ?_
    · rintro i x σ H' hx ⟨acc, v, rfl, S, ea, eq, da, la⟩
      obtain ⟨r, hri, rfl⟩ := ors_at hx
      have hi2 : i < ns.length + 1 := by
        have := (List.getElem?_eq_some_iff.mp hri).1
        rw [rights_len] at this
        exact this
      have nol : noLstAll (((rights ns).take i).foldl (cellFold lo hi) (none, [])).2 = true := noLst_cells lo hi _
      have nx : ((rights ns).take (i + 1)).foldl (cellFold lo hi) (none, []) = cellFold lo hi (((rights ns).take i).foldl (cellFold lo hi) (none, [])) r := fold_next _ _ hri
      generalize ((rights ns).take i).foldl (cellFold lo hi) (none, []) = st at nol nx da ⊢
      obtain ⟨l, ds⟩ := st
      simp only at da nol
      walk_at "gg"
      refine g_meth (S _ _ hp) (lf_no q (by decide)) ?_
      walk_at "gg"
      refine ⟨p, l, r, lo, hi, rfl, ?_⟩
      walk_at "gg"
      refine g_iteJB (fun σ' H'' => ∃ acc1 : List V, σ' = [some (.ref p), some (.int lo), some (.int hi), some (.ref p1), some (oV l), some (oV r)] ∧ Same H H'' ∧ H'' p1 = some (.lst acc1) ∧ H'' q2 = some (.lst ((rights ns).map oV)) ∧
          DpAll K H'' acc1 (ds ++ (if gapIn l r lo hi = true then [gapD l r] else [])) ∧ acc1.length ≤ 2 * i + 1) ?_ ?_ ?_
      · rintro σ' H3 ⟨acc1, rfl, S3, ea3, eq3, da3, la3⟩
        have nol3 : noLstAll (ds ++ (if gapIn l r lo hi = true then [gapD l r] else [])) = true := by
          refine noLstAll_iff.mpr fun d hd => ?_
          rcases List.mem_append.mp hd with h | h
          · exact noLstAll_iff.mp nol d h
          · split at h
            · rw [List.mem_singleton.mp h]
              exact noLst_gap l r
            · cases h
        walk_at "gg"
        cases r with
        | none =>
          refine g_ifF rfl ?_
          refine g_ifF rfl ?_
          walk_at "gg"
          refine ⟨acc1, _, by rw [nx]; rfl, S3, ea3, eq3, ?_, by omega⟩
          rw [nx]
          show DpAll K H3 acc1 (ds ++ ((if gapIn l none lo hi = true then [gapD l none] else []) ++ []))
          rw [List.append_nil]
          exact da3
        | some y =>
          refine g_ifT rfl ?_
          walk_at "gg"
          refine g_meth (S3 _ _ hp) (lf_no q (by decide)) ?_
          walk_at "gg"
          refine ⟨p, y, lo, rfl, ?_⟩
          walk_at "gg"
          by_cases c1 : y < lo
          · rw [decide_eq_true c1]
            refine g_ifF rfl ?_
            refine g_ifF rfl ?_
            walk_at "gg"
            refine ⟨acc1, _, by rw [nx]; rfl, S3, ea3, eq3, ?_, by omega⟩
            rw [nx]
            show DpAll K H3 acc1 (ds ++ ((if gapIn l (some y) lo hi = true then [gapD l (some y)] else []) ++ (if lo ≤ y ∧ y ≤ hi then [pointD y] else [])))
            rw [if_neg (by omega : ¬ (lo ≤ y ∧ y ≤ hi)), List.append_nil]
            exact da3
          · rw [decide_eq_false c1]
            refine g_ifT rfl ?_
            walk_at "gg"
            refine g_meth (S3 _ _ hp) (lf_no q (by decide)) ?_
            walk_at "gg"
            refine ⟨p, y, hi, rfl, ?_⟩
            walk_at "gg"
            by_cases c2 : hi < y
            · rw [decide_eq_true c2]
              refine g_ifF rfl ?_
              walk_at "gg"
              refine ⟨acc1, _, by rw [nx]; rfl, S3, ea3, eq3, ?_, by omega⟩
              rw [nx]
              show DpAll K H3 acc1 (ds ++ ((if gapIn l (some y) lo hi = true then [gapD l (some y)] else []) ++ (if lo ≤ y ∧ y ≤ hi then [pointD y] else [])))
              rw [if_neg (by omega : ¬ (lo ≤ y ∧ y ≤ hi)), List.append_nil]
              exact da3
            · rw [decide_eq_false c2]
              refine g_ifT rfl ?_
              walk_at "gg"
              refine g_tyL ea3 ?_
              walk_at "gg"
              refine g_mkT (by walk_at "ln") fun t4 H4 n4 S4 e4 => ?_
              walk_at "gg"
              have ea4 := S4 _ _ ea3
              refine g_appB ea4 (by omega) fun H5 B5 e5 => ?_
              walk_at "gg"
              refine ⟨acc1 ++ [.ref t4], _, by rw [nx]; rfl, same_but (S3.trans S4) n1 B5, e5, B5 _ _ nq (S4 _ _ eq3), ?_, by rw [List.length_append]; simp only [List.length_cons, List.length_nil]; omega⟩
              rw [nx]
              show DpAll K H5 (acc1 ++ [.ref t4]) (ds ++ ((if gapIn l (some y) lo hi = true then [gapD l (some y)] else []) ++ (if lo ≤ y ∧ y ≤ hi then [pointD y] else [])))
              rw [if_pos (by omega : lo ≤ y ∧ y ≤ hi), ← List.append_assoc]
              refine dp_butAll ea4 B5 _ _ ?_ (dpAll_append (dp_sameAll S4 _ _ da3) (.cons (.tup (SqT.of e4) (.cons (.str _) (.cons (.int y) .nil))) .nil))
              refine noLstAll_iff.mpr fun d hd => ?_
              rcases List.mem_append.mp hd with h | h
              · exact noLstAll_iff.mp nol3 d h
              · rw [List.mem_singleton.mp h]
                exact noLst_point y
      · intro N' tl c
        rw [if_pos c] at tl
        walk_at "gg"
        refine g_tyL ea ?_
        walk_at "gg"
        refine g_mkT (by walk_at "ln") fun t3 H3 n3 S3 e3 => ?_
        walk_at "gg"
        have ea3 := S3 _ _ ea
        refine g_appB ea3 (by omega) fun H4 B4 e4 => ?_
        refine tl _ _ ⟨acc ++ [.ref t3], rfl, same_but (S.trans S3) n1 B4, e4, B4 _ _ nq (S3 _ _ eq), dp_butAll ea3 B4 _ _ ?_ (dpAll_append (dp_sameAll S3 _ _ da) (.cons (.tup (SqT.of e3) (.cons (.str _) (.cons (dp_o _) (.cons (dp_o _) .nil)))) .nil)), by rw [List.length_append]; simp only [List.length_cons, List.length_nil]; omega⟩
        refine noLstAll_iff.mpr fun d hd => ?_
        rcases List.mem_append.mp hd with h | h
        · exact noLstAll_iff.mp nol d h
        · rw [List.mem_singleton.mp h]
          exact noLst_gap l r
      · intro N' tl c
        rw [if_neg (by rw [c]; exact Bool.false_ne_true), List.append_nil] at tl
        walk_at "gg"
        exact tl _ _ ⟨acc, rfl, S, ea, eq, da, by omega⟩
    · rintro σ H' ⟨acc, v, rfl, S, ea, eq, da, la⟩
      rw [List.length_map, rights_len] at la
      rw [List.length_map, List.take_length] at da
      walk_at "gg"
      exact k p1 acc H' n1 S ea da (by omega)
end
end Gk

namespace Gk
open PySem L2 Gx
open C8 (Cal Met Mak pe_c pe_mt pe_mt0 pe_mk pe_gc)
local macro_rules | `(tactic| walk_at "g") => `(tactic| (first
  | with_reducible refine g_seq ?_ | with_reducible refine g_asg ?_ | ((with_reducible show tVar _ _ _ _); refine g_var rfl ?_) | with_reducible refine g_c ?_ | with_reducible refine g_name ?_ | with_reducible refine g_op ?_ | with_reducible refine g_I0 ?_
  | with_reducible refine g_cons ?_ | with_reducible refine g_nil ?_ | with_reducible refine g_exbl ?_ | with_reducible refine g_exint ?_ | with_reducible refine g_test ?_ | with_reducible refine g_B ?_ | with_reducible refine g_ifS ?_ | with_reducible refine g_ret ?_ | with_reducible refine g_retN ?_ | with_reducible refine g_next ?_
  | with_reducible refine g_CB ?_ | with_reducible refine g_sub ?_ | with_reducible refine g_drop ?_ | with_reducible refine g_not ?_ | with_reducible refine g_and ?_ | with_reducible refine g_or ?_ | with_reducible refine g_andV ?_ | with_reducible refine g_orV ?_ | with_reducible refine g_notV ?_ | with_reducible refine g_ifE ?_ | with_reducible refine g_isN ?_
  | with_reducible refine g_par ?_ | with_reducible refine g_expar ?_ | with_reducible refine g_chain ?_ | with_reducible refine g_un ?_ | with_reducible refine g_U ?_ | with_reducible refine g_bits ?_ | ((with_reducible show rEq _ _ _ _); refine g_eq rfl ?_) | ((with_reducible show rNe _ _ _ _); refine g_ne rfl ?_)
  | with_reducible refine g_for ?_ | with_reducible refine g_iRng1 ?_ | with_reducible refine g_iRng2 ?_ | with_reducible refine g_iList ?_ | with_reducible refine g_iTup ?_
  | ((with_reducible refine g_Imul ?hc ?_); (case hc => (first | (refine Or.inl ⟨?_, ?_⟩ <;> first | decide | omega) | (refine Or.inr ⟨?_, ?_⟩ <;> first | decide | omega))))
  | ((with_reducible refine g_Idiv ?hc ?_); (case hc => (first | (exact ⟨by decide, by decide⟩) | assumption)))
  | ((with_reducible refine g_Imod ?hc ?_); (case hc => (first | assumption | omega | decide)))
  | ((with_reducible refine g_exR1 ?hlo ?hhi ?_); (case hlo => omega); (case hhi => omega))
  | ((with_reducible refine g_exR2 ?hb ?_); (case hb => omega))
  | with_reducible refine g_lst ?_ | with_reducible refine g_tup ?_ | with_reducible refine g_call ?_ | with_reducible refine g_BM ?_ | with_reducible refine g_BM0 ?_
  | with_reducible refine g_intB ?_ | with_reducible refine g_lc ?_ | with_reducible refine g_yes ?_ | with_reducible refine g_iZip ?_ | with_reducible refine g_sl ?_ | with_reducible refine g_noP ?_ | with_reducible refine g_part ?_ | with_reducible refine g_gcons ?_ | with_reducible refine g_gnil ?_
  | with_reducible refine g_tfld ?_ | with_reducible refine g_tmeth ?_ | with_reducible refine g_tmake ?_ | with_reducible refine g_sfld ?_ | with_reducible refine g_tprop ?_ | with_reducible refine g_tstar ?_ | with_reducible refine g_tmethK ?_ | with_reducible refine g_isN1 ?_ | with_reducible refine g_notN1 ?_))
local macro_rules | `(tactic| walk_at "gs1") => `(tactic| (first
  | with_reducible refine g_seq ?_ | with_reducible refine g_asg ?_ | ((with_reducible show tVar _ _ _ _); refine g_var rfl ?_) | with_reducible refine g_c ?_ | with_reducible refine g_name ?_ | with_reducible refine g_op ?_ | with_reducible refine g_I0 ?_
  | with_reducible refine g_cons ?_ | with_reducible refine g_nil ?_ | with_reducible refine g_exbl ?_ | with_reducible refine g_exint ?_ | with_reducible refine g_test ?_ | with_reducible refine g_B ?_ | with_reducible refine g_ifS ?_ | with_reducible refine g_retN ?_ | with_reducible refine g_next ?_
  | with_reducible refine g_CB ?_ | with_reducible refine g_sub ?_ | with_reducible refine g_drop ?_ | with_reducible refine g_not ?_ | with_reducible refine g_and ?_ | with_reducible refine g_or ?_ | with_reducible refine g_andV ?_ | with_reducible refine g_orV ?_ | with_reducible refine g_notV ?_ | with_reducible refine g_ifE ?_ | with_reducible refine g_isN ?_
  | with_reducible refine g_par ?_ | with_reducible refine g_expar ?_ | with_reducible refine g_chain ?_ | with_reducible refine g_un ?_ | with_reducible refine g_U ?_ | with_reducible refine g_bits ?_ | ((with_reducible show rEq _ _ _ _); refine g_eq rfl ?_) | ((with_reducible show rNe _ _ _ _); refine g_ne rfl ?_)
  | with_reducible refine g_for ?_ | with_reducible refine g_iRng1 ?_ | with_reducible refine g_iRng2 ?_ | with_reducible refine g_iList ?_ | with_reducible refine g_iTup ?_
  | ((with_reducible refine g_Imul ?hc ?_); (case hc => (first | (refine Or.inl ⟨?_, ?_⟩ <;> first | decide | omega) | (refine Or.inr ⟨?_, ?_⟩ <;> first | decide | omega))))
  | ((with_reducible refine g_Idiv ?hc ?_); (case hc => (first | (exact ⟨by decide, by decide⟩) | assumption)))
  | ((with_reducible refine g_Imod ?hc ?_); (case hc => (first | assumption | omega | decide)))
  | ((with_reducible refine g_exR1 ?hlo ?hhi ?_); (case hlo => omega); (case hhi => omega))
  | ((with_reducible refine g_exR2 ?hb ?_); (case hb => omega))
  | with_reducible refine g_lst ?_ | with_reducible refine g_tup ?_ | with_reducible refine g_call ?_ | with_reducible refine g_BM ?_ | with_reducible refine g_BM0 ?_
  | with_reducible refine g_intB ?_ | with_reducible refine g_lc ?_ | with_reducible refine g_yes ?_ | with_reducible refine g_iZip ?_ | with_reducible refine g_sl ?_ | with_reducible refine g_noP ?_ | with_reducible refine g_part ?_ | with_reducible refine g_gcons ?_ | with_reducible refine g_gnil ?_
  | with_reducible refine g_tfld ?_ | with_reducible refine g_tmeth ?_ | with_reducible refine g_tmake ?_ | with_reducible refine g_sfld ?_ | with_reducible refine g_tprop ?_ | with_reducible refine g_tstar ?_ | with_reducible refine g_tmethK ?_ | with_reducible refine g_isN1 ?_ | with_reducible refine g_notN1 ?_))
local macro_rules | `(tactic| walk_at "gx1") => `(tactic| (first
  | with_reducible refine g_seq ?_ | with_reducible refine g_asg ?_ | ((with_reducible show tVar _ _ _ _); refine g_var rfl ?_) | with_reducible refine g_c ?_ | with_reducible refine g_name ?_ | with_reducible refine g_op ?_ | with_reducible refine g_I0 ?_
  | with_reducible refine g_cons ?_ | with_reducible refine g_nil ?_ | with_reducible refine g_exbl ?_ | with_reducible refine g_exint ?_ | with_reducible refine g_test ?_ | with_reducible refine g_B ?_ | with_reducible refine g_ifS ?_ | with_reducible refine g_retN ?_ | with_reducible refine g_next ?_
  | with_reducible refine g_CB ?_ | with_reducible refine g_sub ?_ | with_reducible refine g_drop ?_ | with_reducible refine g_not ?_ | with_reducible refine g_and ?_ | with_reducible refine g_or ?_ | with_reducible refine g_andV ?_ | with_reducible refine g_orV ?_ | with_reducible refine g_notV ?_ | with_reducible refine g_ret ?_ | with_reducible refine g_isN ?_
  | with_reducible refine g_par ?_ | with_reducible refine g_expar ?_ | with_reducible refine g_chain ?_ | with_reducible refine g_un ?_ | with_reducible refine g_U ?_ | with_reducible refine g_bits ?_ | ((with_reducible show rEq _ _ _ _); refine g_eq rfl ?_) | ((with_reducible show rNe _ _ _ _); refine g_ne rfl ?_)
  | with_reducible refine g_for ?_ | with_reducible refine g_iRng1 ?_ | with_reducible refine g_iRng2 ?_ | with_reducible refine g_iList ?_ | with_reducible refine g_iTup ?_
  | ((with_reducible refine g_Imul ?hc ?_); (case hc => (first | (refine Or.inl ⟨?_, ?_⟩ <;> first | decide | omega) | (refine Or.inr ⟨?_, ?_⟩ <;> first | decide | omega))))
  | ((with_reducible refine g_Idiv ?hc ?_); (case hc => (first | (exact ⟨by decide, by decide⟩) | assumption)))
  | ((with_reducible refine g_Imod ?hc ?_); (case hc => (first | assumption | omega | decide)))
  | ((with_reducible refine g_exR1 ?hlo ?hhi ?_); (case hlo => omega); (case hhi => omega))
  | ((with_reducible refine g_exR2 ?hb ?_); (case hb => omega))
  | with_reducible refine g_lst ?_ | with_reducible refine g_tup ?_ | with_reducible refine g_call ?_ | with_reducible refine g_BM ?_ | with_reducible refine g_BM0 ?_
  | with_reducible refine g_intB ?_ | with_reducible refine g_lc ?_ | with_reducible refine g_yes ?_ | with_reducible refine g_iZip ?_ | with_reducible refine g_sl ?_ | with_reducible refine g_noP ?_ | with_reducible refine g_part ?_ | with_reducible refine g_gcons ?_ | with_reducible refine g_gnil ?_
  | with_reducible refine g_tfld ?_ | with_reducible refine g_tmeth ?_ | with_reducible refine g_tmake ?_ | with_reducible refine g_sfld ?_ | with_reducible refine g_tprop ?_ | with_reducible refine g_tstar ?_ | with_reducible refine g_tmethK ?_ | with_reducible refine g_isN1 ?_ | with_reducible refine g_notN1 ?_))
local macro_rules | `(tactic| walk_at "hp") => `(tactic| (first | assumption | exact upd_same | (refine same_get (by assumption) ?_; walk_at "hp")))
local macro_rules | `(tactic| walk_at "sm") => `(tactic| (first | assumption | exact Same.refl _ | (refine Same.trans ?ha (by assumption); walk_at "sm")))
local macro_rules | `(tactic| walk_at "nn") => `(tactic| (first | assumption | (refine same_free (by assumption) ?_; walk_at "nn")))
local macro_rules | `(tactic| walk_at "sb") => `(tactic| (first | decide | (refine small_bits ?_ ?_ <;> omega)))
local macro_rules | `(tactic| walk_at "ln") => `(tactic| (simp only [List.length_cons, List.length_nil]; omega))
local macro_rules | `(tactic| walk_at "gg") => `(tactic| (repeat walk_at "g"))
local macro_rules | `(tactic| walk_at "gs") => `(tactic| (repeat walk_at "gs1"))
local macro_rules | `(tactic| walk_at "gx") => `(tactic| (repeat walk_at "gx1"))

section
variable {P : Program} {w : World} {K : PySem.W.Frag} {mg : Str → Option Value} {base : Heap} {X : Cx}
/-- up to fifteen ascending ints from -12 to 12 -/
def spFew : Sp := fun vs H Q _ => ∃ (f : Addr), vs = [.ref f] ∧ H f = some (FlowO f) ∧
  ∀ (ns : List Int) (p : Addr) (H' : Hp), ns.length ≤ 15 → ns.Pairwise (· < ·) → (∀ n ∈ ns, -12 ≤ n ∧ n ≤ 12) → H p = none → Same H H' → H' p = some (.lst (ns.map V.int)) → Q (.ref p) H'
abbrev s_few : Stmt := top 15
abbrev N_few : List Str := ["_law_flow_here", "_law_found", "_law_turn"]
theorem sc_few : FnScope N_few ["_law_flow_here"] (defScope s_few) := ⟨rfl, rfl, rfl, by decide +kernel, rfl, by decide +kernel, by decide +kernel⟩

theorem ok_few {f : Addr} {fd : FuncData} (D : Dn K mg "_law_few" s_few ["_law_flow_here"] f fd) (T : Bt mg) (c__law_dip : Cal P w K mg base 1 "_law_dip" spDip []) : Cal P w K mg base 2 "_law_few" spFew [] := by
  refine cal_of D (D.fn.ok sc_few (fun vs H Q E h => ?_) (fun cdv A outer s H vs Q E hr h => ?_))
  · obtain ⟨f, rfl, _⟩ := h
    rfl
  · obtain ⟨f, rfl, hf, k⟩ := h
    refine ⟨_, (pss_cons (ps_set (i := 1) sc_few.nd rfl (Or.inl rfl) (pe_lst pa_nil))
    (pss_cons (ps_for PassesOwn.never rfl (pi_range1 (by rfl) T.n_range (pa_cons (pe_ix ix_list (pe_lst (pa_cons (pe_c c__law_dip hr (by decide) (by rfl) (pa_cons (pv 0) (pa_cons pe_int pa_nil))) (pa_cons pe_int (pa_cons (pe_c c__law_dip hr (by decide) (by rfl) (pa_cons (pv 0) (pa_cons pe_int pa_nil))) pa_nil)))) (pe_c c__law_dip hr (by decide) (by rfl) (pa_cons (pv 0) (pa_cons pe_int pa_nil))) (fun _ _ => rfl)) pa_nil)) (pg_name (i := 2) sc_few.nd rfl (Or.inl rfl)) (pss_one (ps_expr (pe_bm PySem.F.plainAttrs_list PySem.F.slot_list_append PySem.F.type_list_append mt_append (pv 1) (pa_cons (pe_op op_sub (pe_c c__law_dip hr (by decide) (by rfl) (pa_cons (pv 0) (pa_cons pe_int pa_nil))) pe_int) pa_nil)))))
    (pss_one (ps_ret (pe_callB (cr_sortedSet rfl) (by rfl) T.n_sorted bt_sorted (pa_cons (pe_callTy (cr_setOfI rfl hr) (by rfl) T.n_set bt_set (pa_cons (pv 1) pa_nil)) pa_nil)))))), ?_⟩
    walk_at "gg"
    refine g_mkL (by walk_at "ln") fun p1 H1 n1 S1 e1 => ?_
    have hf1 := S1 _ _ hf
    walk_at "gg"
    refine g_dip hf1 (by omega) (by walk_at "sb") fun r2 H2 a2 b2 S2 => ?_
    walk_at "gg"
    refine g_dip (S2 _ _ hf1) (by omega) (by walk_at "sb") fun r3 H3 a3 b3 S3 => ?_
    walk_at "gg"
    refine g_mkL (by walk_at "ln") fun p4 H4 n4 S4 e4 => ?_
    walk_at "gg"
    refine g_dip (S4 _ _ (S3 _ _ (S2 _ _ hf1))) (by omega) (by walk_at "sb") fun r5 H5 a5 b5 S5 => ?_
    refine g_ixI (fun n => 0 ≤ n ∧ n ≤ 15) (S5 _ _ e4) a5 b5 (all_cons ⟨_, rfl, by omega⟩ (all_cons ⟨_, rfl, by omega⟩ (all_cons ⟨_, rfl, by omega⟩ all_nil))) fun many ⟨m1, m2⟩ => ?_
    have S15 : Same H1 H5 := ((S2.trans S3).trans S4).trans S5
    walk_at "gg"
    refine fw_range (fun i σ H' => ∃ (ns : List Int) (v : Option V), σ = [some (.ref f), some (.ref p1), v] ∧ Same H H' ∧ H' p1 = some (.lst (ns.map V.int)) ∧ ns.length = i ∧ (∀ n ∈ ns, -12 ≤ n ∧ n ≤ 12))
      ⟨[], none, rfl, S1.trans S15, S15 _ _ e1, rfl, fun n hn => nomatch hn⟩ ?_ ?_
    · rintro i σ H' hi ⟨ns, v, rfl, S, e, hl, bd⟩
      walk_at "gg"
      refine g_tyL e ?_
      walk_at "gg"
      refine g_dip (S _ _ hf) (by omega) (by walk_at "sb") fun r H6 a b S6 => ?_
      walk_at "gg"
      refine g_app (S.trans S6) n1 (S6 _ _ e) (by rw [List.length_map]; omega) fun H7 S7 e7 => ?_
      walk_at "gg"
      refine ⟨ns ++ [r - 12], _, rfl, S7, by rw [e7, List.map_append]; rfl, by rw [List.length_append, hl]; rfl, fun n hn => ?_⟩
      rcases List.mem_append.mp hn with hn | hn
      · exact bd n hn
      · rw [List.mem_singleton.mp hn]
        omega
    · rintro σ H' ⟨ns, v, rfl, S, e, hl, bd⟩
      walk_at "gg"
      refine g_setI (SqL.of e) (by omega) fun a M n H8 n8 S8 e8 m8 l8 => ?_
      walk_at "gg"
      refine g_sortedSet e8 (by omega) fun ms p H9 up mem len n9 S9 e9 => ?_
      refine k ms p H9 (by omega) up (fun m hm => bd m ((m8 m).mp ((mem m).mp hm))) ?_ ((S.trans S8).trans S9) e9
      exact same_free (S.trans S8) n9
end
end Gk

namespace Gk
open PySem L2 Gx
open C8 (Cal Met Mak pe_c pe_mt pe_mt0 pe_mk pe_gc)
local macro_rules | `(tactic| walk_at "g") => `(tactic| (first
  | with_reducible refine g_seq ?_ | with_reducible refine g_asg ?_ | ((with_reducible show tVar _ _ _ _); refine g_var rfl ?_) | with_reducible refine g_c ?_ | with_reducible refine g_name ?_ | with_reducible refine g_op ?_ | with_reducible refine g_I0 ?_
  | with_reducible refine g_cons ?_ | with_reducible refine g_nil ?_ | with_reducible refine g_exbl ?_ | with_reducible refine g_exint ?_ | with_reducible refine g_test ?_ | with_reducible refine g_B ?_ | with_reducible refine g_ifS ?_ | with_reducible refine g_ret ?_ | with_reducible refine g_retN ?_ | with_reducible refine g_next ?_
  | with_reducible refine g_CB ?_ | with_reducible refine g_sub ?_ | with_reducible refine g_drop ?_ | with_reducible refine g_not ?_ | with_reducible refine g_and ?_ | with_reducible refine g_or ?_ | with_reducible refine g_andV ?_ | with_reducible refine g_orV ?_ | with_reducible refine g_notV ?_ | with_reducible refine g_ifE ?_ | with_reducible refine g_isN ?_
  | with_reducible refine g_par ?_ | with_reducible refine g_expar ?_ | with_reducible refine g_chain ?_ | with_reducible refine g_un ?_ | with_reducible refine g_U ?_ | with_reducible refine g_bits ?_ | ((with_reducible show rEq _ _ _ _); refine g_eq rfl ?_) | ((with_reducible show rNe _ _ _ _); refine g_ne rfl ?_)
  | with_reducible refine g_for ?_ | with_reducible refine g_iRng1 ?_ | with_reducible refine g_iRng2 ?_ | with_reducible refine g_iList ?_ | with_reducible refine g_iTup ?_
  | ((with_reducible refine g_Imul ?hc ?_); (case hc => (first | (refine Or.inl ⟨?_, ?_⟩ <;> first | decide | omega) | (refine Or.inr ⟨?_, ?_⟩ <;> first | decide | omega))))
  | ((with_reducible refine g_Idiv ?hc ?_); (case hc => (first | (exact ⟨by decide, by decide⟩) | assumption)))
  | ((with_reducible refine g_Imod ?hc ?_); (case hc => (first | assumption | omega | decide)))
  | ((with_reducible refine g_exR1 ?hlo ?hhi ?_); (case hlo => omega); (case hhi => omega))
  | ((with_reducible refine g_exR2 ?hb ?_); (case hb => omega))
  | with_reducible refine g_lst ?_ | with_reducible refine g_tup ?_ | with_reducible refine g_call ?_ | with_reducible refine g_BM ?_ | with_reducible refine g_BM0 ?_
  | with_reducible refine g_intB ?_ | with_reducible refine g_lc ?_ | with_reducible refine g_yes ?_ | with_reducible refine g_iZip ?_ | with_reducible refine g_sl ?_ | with_reducible refine g_noP ?_ | with_reducible refine g_part ?_ | with_reducible refine g_gcons ?_ | with_reducible refine g_gnil ?_
  | with_reducible refine g_tfld ?_ | with_reducible refine g_tmeth ?_ | with_reducible refine g_tmake ?_ | with_reducible refine g_sfld ?_ | with_reducible refine g_tprop ?_ | with_reducible refine g_tstar ?_ | with_reducible refine g_tmethK ?_ | with_reducible refine g_isN1 ?_ | with_reducible refine g_notN1 ?_))
local macro_rules | `(tactic| walk_at "gs1") => `(tactic| (first
  | with_reducible refine g_seq ?_ | with_reducible refine g_asg ?_ | ((with_reducible show tVar _ _ _ _); refine g_var rfl ?_) | with_reducible refine g_c ?_ | with_reducible refine g_name ?_ | with_reducible refine g_op ?_ | with_reducible refine g_I0 ?_
  | with_reducible refine g_cons ?_ | with_reducible refine g_nil ?_ | with_reducible refine g_exbl ?_ | with_reducible refine g_exint ?_ | with_reducible refine g_test ?_ | with_reducible refine g_B ?_ | with_reducible refine g_ifS ?_ | with_reducible refine g_retN ?_ | with_reducible refine g_next ?_
  | with_reducible refine g_CB ?_ | with_reducible refine g_sub ?_ | with_reducible refine g_drop ?_ | with_reducible refine g_not ?_ | with_reducible refine g_and ?_ | with_reducible refine g_or ?_ | with_reducible refine g_andV ?_ | with_reducible refine g_orV ?_ | with_reducible refine g_notV ?_ | with_reducible refine g_ifE ?_ | with_reducible refine g_isN ?_
  | with_reducible refine g_par ?_ | with_reducible refine g_expar ?_ | with_reducible refine g_chain ?_ | with_reducible refine g_un ?_ | with_reducible refine g_U ?_ | with_reducible refine g_bits ?_ | ((with_reducible show rEq _ _ _ _); refine g_eq rfl ?_) | ((with_reducible show rNe _ _ _ _); refine g_ne rfl ?_)
  | with_reducible refine g_for ?_ | with_reducible refine g_iRng1 ?_ | with_reducible refine g_iRng2 ?_ | with_reducible refine g_iList ?_ | with_reducible refine g_iTup ?_
  | ((with_reducible refine g_Imul ?hc ?_); (case hc => (first | (refine Or.inl ⟨?_, ?_⟩ <;> first | decide | omega) | (refine Or.inr ⟨?_, ?_⟩ <;> first | decide | omega))))
  | ((with_reducible refine g_Idiv ?hc ?_); (case hc => (first | (exact ⟨by decide, by decide⟩) | assumption)))
  | ((with_reducible refine g_Imod ?hc ?_); (case hc => (first | assumption | omega | decide)))
  | ((with_reducible refine g_exR1 ?hlo ?hhi ?_); (case hlo => omega); (case hhi => omega))
  | ((with_reducible refine g_exR2 ?hb ?_); (case hb => omega))
  | with_reducible refine g_lst ?_ | with_reducible refine g_tup ?_ | with_reducible refine g_call ?_ | with_reducible refine g_BM ?_ | with_reducible refine g_BM0 ?_
  | with_reducible refine g_intB ?_ | with_reducible refine g_lc ?_ | with_reducible refine g_yes ?_ | with_reducible refine g_iZip ?_ | with_reducible refine g_sl ?_ | with_reducible refine g_noP ?_ | with_reducible refine g_part ?_ | with_reducible refine g_gcons ?_ | with_reducible refine g_gnil ?_
  | with_reducible refine g_tfld ?_ | with_reducible refine g_tmeth ?_ | with_reducible refine g_tmake ?_ | with_reducible refine g_sfld ?_ | with_reducible refine g_tprop ?_ | with_reducible refine g_tstar ?_ | with_reducible refine g_tmethK ?_ | with_reducible refine g_isN1 ?_ | with_reducible refine g_notN1 ?_))
local macro_rules | `(tactic| walk_at "gx1") => `(tactic| (first
  | with_reducible refine g_seq ?_ | with_reducible refine g_asg ?_ | ((with_reducible show tVar _ _ _ _); refine g_var rfl ?_) | with_reducible refine g_c ?_ | with_reducible refine g_name ?_ | with_reducible refine g_op ?_ | with_reducible refine g_I0 ?_
  | with_reducible refine g_cons ?_ | with_reducible refine g_nil ?_ | with_reducible refine g_exbl ?_ | with_reducible refine g_exint ?_ | with_reducible refine g_test ?_ | with_reducible refine g_B ?_ | with_reducible refine g_ifS ?_ | with_reducible refine g_retN ?_ | with_reducible refine g_next ?_
  | with_reducible refine g_CB ?_ | with_reducible refine g_sub ?_ | with_reducible refine g_drop ?_ | with_reducible refine g_not ?_ | with_reducible refine g_and ?_ | with_reducible refine g_or ?_ | with_reducible refine g_andV ?_ | with_reducible refine g_orV ?_ | with_reducible refine g_notV ?_ | with_reducible refine g_ret ?_ | with_reducible refine g_isN ?_
  | with_reducible refine g_par ?_ | with_reducible refine g_expar ?_ | with_reducible refine g_chain ?_ | with_reducible refine g_un ?_ | with_reducible refine g_U ?_ | with_reducible refine g_bits ?_ | ((with_reducible show rEq _ _ _ _); refine g_eq rfl ?_) | ((with_reducible show rNe _ _ _ _); refine g_ne rfl ?_)
  | with_reducible refine g_for ?_ | with_reducible refine g_iRng1 ?_ | with_reducible refine g_iRng2 ?_ | with_reducible refine g_iList ?_ | with_reducible refine g_iTup ?_
  | ((with_reducible refine g_Imul ?hc ?_); (case hc => (first | (refine Or.inl ⟨?_, ?_⟩ <;> first | decide | omega) | (refine Or.inr ⟨?_, ?_⟩ <;> first | decide | omega))))
  | ((with_reducible refine g_Idiv ?hc ?_); (case hc => (first | (exact ⟨by decide, by decide⟩) | assumption)))
  | ((with_reducible refine g_Imod ?hc ?_); (case hc => (first | assumption | omega | decide)))
  | ((with_reducible refine g_exR1 ?hlo ?hhi ?_); (case hlo => omega); (case hhi => omega))
  | ((with_reducible refine g_exR2 ?hb ?_); (case hb => omega))
  | with_reducible refine g_lst ?_ | with_reducible refine g_tup ?_ | with_reducible refine g_call ?_ | with_reducible refine g_BM ?_ | with_reducible refine g_BM0 ?_
  | with_reducible refine g_intB ?_ | with_reducible refine g_lc ?_ | with_reducible refine g_yes ?_ | with_reducible refine g_iZip ?_ | with_reducible refine g_sl ?_ | with_reducible refine g_noP ?_ | with_reducible refine g_part ?_ | with_reducible refine g_gcons ?_ | with_reducible refine g_gnil ?_
  | with_reducible refine g_tfld ?_ | with_reducible refine g_tmeth ?_ | with_reducible refine g_tmake ?_ | with_reducible refine g_sfld ?_ | with_reducible refine g_tprop ?_ | with_reducible refine g_tstar ?_ | with_reducible refine g_tmethK ?_ | with_reducible refine g_isN1 ?_ | with_reducible refine g_notN1 ?_))
local macro_rules | `(tactic| walk_at "hp") => `(tactic| (first | assumption | exact upd_same | (refine same_get (by assumption) ?_; walk_at "hp")))
local macro_rules | `(tactic| walk_at "sm") => `(tactic| (first | assumption | exact Same.refl _ | (refine Same.trans ?ha (by assumption); walk_at "sm")))
local macro_rules | `(tactic| walk_at "nn") => `(tactic| (first | assumption | (refine same_free (by assumption) ?_; walk_at "nn")))
local macro_rules | `(tactic| walk_at "sb") => `(tactic| (first | decide | (refine small_bits ?_ ?_ <;> omega)))
local macro_rules | `(tactic| walk_at "ln") => `(tactic| (simp only [List.length_cons, List.length_nil]; omega))
local macro_rules | `(tactic| walk_at "gg") => `(tactic| (repeat walk_at "g"))
local macro_rules | `(tactic| walk_at "gs") => `(tactic| (repeat walk_at "gs1"))
local macro_rules | `(tactic| walk_at "gx") => `(tactic| (repeat walk_at "gx1"))

section
variable {P : Program} {w : World} {K : PySem.W.Frag} {mg : Str → Option Value} {base : Heap} {X : Cx}
/-- a line of each of both classes -/
def spLines (CL CK : Addr) : Sp := fun vs H Q _ => ∃ (a : Addr) (ns : List Int), vs = [.ref a] ∧ H a = some (.lst (ns.map V.int)) ∧ ns.length ≤ 500 ∧ ns.Pairwise (· < ·) ∧
  ∀ (l p1 p2 : Addr) (H' : Hp), H l = none → Same H H' → H' l = some (.lst [.ref p1, .ref p2]) → LineAt CL H' p1 (ns.map V.int) → LineAt CK H' p2 (ns.map V.int) → Q (.ref l) H'
abbrev s_lines : Stmt := top 14
abbrev N_lines : List Str := ["_law_rows"]
theorem sc_lines : FnScope N_lines ["_law_rows"] (defScope s_lines) := ⟨rfl, rfl, rfl, by decide +kernel, rfl, by decide +kernel, by decide +kernel⟩

theorem ok_lines {f CL CK : Addr} {fd : FuncData} (D : Dn K mg "_law_lines" s_lines ["_law_rows"] f fd) (T : Bt mg) (m_Line : Mak P w K mg base 3 "Line" CL (spInitI K CL) []) (m_KeyLine : Mak P w K mg base 3 "KeyLine" CK (spInitI K CK) []) :
    Cal P w K mg base 5 "_law_lines" (spLines CL CK) [] := by
  refine cal_of D (D.fn.ok sc_lines (fun vs H Q E h => ?_) (fun cdv A outer s H vs Q E hr h => ?_))
  · obtain ⟨a, ns, rfl, _⟩ := h
    rfl
  · obtain ⟨a, ns, rfl, ha, hl, rise, k⟩ := h
    refine ⟨_, (pss_one (ps_ret (pe_lst (pa_cons (pe_mk m_Line hr (by decide) (by rfl) (pa_cons (pe_callTy cr_listQ (by rfl) T.n_list bt_list (pa_cons (pv 0) pa_nil)) pa_nil)) (pa_cons (pe_mk m_KeyLine hr (by decide) (by rfl) (pa_cons (pe_callTy cr_listQ (by rfl) T.n_list bt_list (pa_cons (pv 0) pa_nil)) pa_nil)) pa_nil))))), ?_⟩
    walk_at "gg"
    refine g_listof (SqL.of ha) fun l1 H1 n1 S1 e1 => ?_
    walk_at "gg"
    refine g_make fun x1 d1 H2 n2 S2 e2 => ?_
    refine ⟨x1, l1, d1, ns, rfl, e2, S2 _ _ e1, hl, rise, fun H3 L3 B3 => ⟨rfl, ?_⟩⟩
    have S13 : Same H1 H3 := same_but S2 n2 B3
    have S03 := S1.trans S13
    walk_at "gg"
    refine g_listof (SqL.of (S03 _ _ ha)) fun l4 H4 n4 S4 e4 => ?_
    walk_at "gg"
    refine g_make fun x5 d5 H5 n5 S5 e5 => ?_
    refine ⟨x5, l4, d5, ns, rfl, e5, S5 _ _ e4, hl, rise, fun H6 L6 B6 => ⟨rfl, ?_⟩⟩
    have S46 : Same H4 H6 := same_but S5 n5 B6
    walk_at "gg"
    refine g_mkL (by walk_at "ln") fun l H7 n7 S7 e7 => ?_
    have S37 := (S4.trans S46).trans S7
    exact k l x1 x5 H7 (same_free ((S03.trans S4).trans S46) n7) (S03.trans S37) e7 (L3.same S37) (L6.same S7)
end
end Gk

namespace Gk
open PySem L2 Gx
open C8 (Cal Met Mak pe_c pe_mt pe_mt0 pe_mk pe_gc)
local macro_rules | `(tactic| walk_at "g") => `(tactic| (first
  | with_reducible refine g_seq ?_ | with_reducible refine g_asg ?_ | ((with_reducible show tVar _ _ _ _); refine g_var rfl ?_) | with_reducible refine g_c ?_ | with_reducible refine g_name ?_ | with_reducible refine g_op ?_ | with_reducible refine g_I0 ?_
  | with_reducible refine g_cons ?_ | with_reducible refine g_nil ?_ | with_reducible refine g_exbl ?_ | with_reducible refine g_exint ?_ | with_reducible refine g_test ?_ | with_reducible refine g_B ?_ | with_reducible refine g_ifS ?_ | with_reducible refine g_ret ?_ | with_reducible refine g_retN ?_ | with_reducible refine g_next ?_
  | with_reducible refine g_CB ?_ | with_reducible refine g_sub ?_ | with_reducible refine g_drop ?_ | with_reducible refine g_not ?_ | with_reducible refine g_and ?_ | with_reducible refine g_or ?_ | with_reducible refine g_andV ?_ | with_reducible refine g_orV ?_ | with_reducible refine g_notV ?_ | with_reducible refine g_ifE ?_ | with_reducible refine g_isN ?_
  | with_reducible refine g_par ?_ | with_reducible refine g_expar ?_ | with_reducible refine g_chain ?_ | with_reducible refine g_un ?_ | with_reducible refine g_U ?_ | with_reducible refine g_bits ?_ | ((with_reducible show rEq _ _ _ _); refine g_eq rfl ?_) | ((with_reducible show rNe _ _ _ _); refine g_ne rfl ?_)
  | with_reducible refine g_for ?_ | with_reducible refine g_iRng1 ?_ | with_reducible refine g_iRng2 ?_ | with_reducible refine g_iList ?_ | with_reducible refine g_iTup ?_
  | ((with_reducible refine g_Imul ?hc ?_); (case hc => (first | (refine Or.inl ⟨?_, ?_⟩ <;> first | decide | omega) | (refine Or.inr ⟨?_, ?_⟩ <;> first | decide | omega))))
  | ((with_reducible refine g_Idiv ?hc ?_); (case hc => (first | (exact ⟨by decide, by decide⟩) | assumption)))
  | ((with_reducible refine g_Imod ?hc ?_); (case hc => (first | assumption | omega | decide)))
  | ((with_reducible refine g_exR1 ?hlo ?hhi ?_); (case hlo => omega); (case hhi => omega))
  | ((with_reducible refine g_exR2 ?hb ?_); (case hb => omega))
  | with_reducible refine g_lst ?_ | with_reducible refine g_tup ?_ | with_reducible refine g_call ?_ | with_reducible refine g_BM ?_ | with_reducible refine g_BM0 ?_
  | with_reducible refine g_intB ?_ | with_reducible refine g_lc ?_ | with_reducible refine g_yes ?_ | with_reducible refine g_iZip ?_ | with_reducible refine g_sl ?_ | with_reducible refine g_noP ?_ | with_reducible refine g_part ?_ | with_reducible refine g_gcons ?_ | with_reducible refine g_gnil ?_
  | with_reducible refine g_tfld ?_ | with_reducible refine g_tmeth ?_ | with_reducible refine g_tmake ?_ | with_reducible refine g_sfld ?_ | with_reducible refine g_tprop ?_ | with_reducible refine g_tstar ?_ | with_reducible refine g_tmethK ?_ | with_reducible refine g_isN1 ?_ | with_reducible refine g_notN1 ?_))
local macro_rules | `(tactic| walk_at "gs1") => `(tactic| (first
  | with_reducible refine g_seq ?_ | with_reducible refine g_asg ?_ | ((with_reducible show tVar _ _ _ _); refine g_var rfl ?_) | with_reducible refine g_c ?_ | with_reducible refine g_name ?_ | with_reducible refine g_op ?_ | with_reducible refine g_I0 ?_
  | with_reducible refine g_cons ?_ | with_reducible refine g_nil ?_ | with_reducible refine g_exbl ?_ | with_reducible refine g_exint ?_ | with_reducible refine g_test ?_ | with_reducible refine g_B ?_ | with_reducible refine g_ifS ?_ | with_reducible refine g_retN ?_ | with_reducible refine g_next ?_
  | with_reducible refine g_CB ?_ | with_reducible refine g_sub ?_ | with_reducible refine g_drop ?_ | with_reducible refine g_not ?_ | with_reducible refine g_and ?_ | with_reducible refine g_or ?_ | with_reducible refine g_andV ?_ | with_reducible refine g_orV ?_ | with_reducible refine g_notV ?_ | with_reducible refine g_ifE ?_ | with_reducible refine g_isN ?_
  | with_reducible refine g_par ?_ | with_reducible refine g_expar ?_ | with_reducible refine g_chain ?_ | with_reducible refine g_un ?_ | with_reducible refine g_U ?_ | with_reducible refine g_bits ?_ | ((with_reducible show rEq _ _ _ _); refine g_eq rfl ?_) | ((with_reducible show rNe _ _ _ _); refine g_ne rfl ?_)
  | with_reducible refine g_for ?_ | with_reducible refine g_iRng1 ?_ | with_reducible refine g_iRng2 ?_ | with_reducible refine g_iList ?_ | with_reducible refine g_iTup ?_
  | ((with_reducible refine g_Imul ?hc ?_); (case hc => (first | (refine Or.inl ⟨?_, ?_⟩ <;> first | decide | omega) | (refine Or.inr ⟨?_, ?_⟩ <;> first | decide | omega))))
  | ((with_reducible refine g_Idiv ?hc ?_); (case hc => (first | (exact ⟨by decide, by decide⟩) | assumption)))
  | ((with_reducible refine g_Imod ?hc ?_); (case hc => (first | assumption | omega | decide)))
  | ((with_reducible refine g_exR1 ?hlo ?hhi ?_); (case hlo => omega); (case hhi => omega))
  | ((with_reducible refine g_exR2 ?hb ?_); (case hb => omega))
  | with_reducible refine g_lst ?_ | with_reducible refine g_tup ?_ | with_reducible refine g_call ?_ | with_reducible refine g_BM ?_ | with_reducible refine g_BM0 ?_
  | with_reducible refine g_intB ?_ | with_reducible refine g_lc ?_ | with_reducible refine g_yes ?_ | with_reducible refine g_iZip ?_ | with_reducible refine g_sl ?_ | with_reducible refine g_noP ?_ | with_reducible refine g_part ?_ | with_reducible refine g_gcons ?_ | with_reducible refine g_gnil ?_
  | with_reducible refine g_tfld ?_ | with_reducible refine g_tmeth ?_ | with_reducible refine g_tmake ?_ | with_reducible refine g_sfld ?_ | with_reducible refine g_tprop ?_ | with_reducible refine g_tstar ?_ | with_reducible refine g_tmethK ?_ | with_reducible refine g_isN1 ?_ | with_reducible refine g_notN1 ?_))
local macro_rules | `(tactic| walk_at "gx1") => `(tactic| (first
  | with_reducible refine g_seq ?_ | with_reducible refine g_asg ?_ | ((with_reducible show tVar _ _ _ _); refine g_var rfl ?_) | with_reducible refine g_c ?_ | with_reducible refine g_name ?_ | with_reducible refine g_op ?_ | with_reducible refine g_I0 ?_
  | with_reducible refine g_cons ?_ | with_reducible refine g_nil ?_ | with_reducible refine g_exbl ?_ | with_reducible refine g_exint ?_ | with_reducible refine g_test ?_ | with_reducible refine g_B ?_ | with_reducible refine g_ifS ?_ | with_reducible refine g_retN ?_ | with_reducible refine g_next ?_
  | with_reducible refine g_CB ?_ | with_reducible refine g_sub ?_ | with_reducible refine g_drop ?_ | with_reducible refine g_not ?_ | with_reducible refine g_and ?_ | with_reducible refine g_or ?_ | with_reducible refine g_andV ?_ | with_reducible refine g_orV ?_ | with_reducible refine g_notV ?_ | with_reducible refine g_ret ?_ | with_reducible refine g_isN ?_
  | with_reducible refine g_par ?_ | with_reducible refine g_expar ?_ | with_reducible refine g_chain ?_ | with_reducible refine g_un ?_ | with_reducible refine g_U ?_ | with_reducible refine g_bits ?_ | ((with_reducible show rEq _ _ _ _); refine g_eq rfl ?_) | ((with_reducible show rNe _ _ _ _); refine g_ne rfl ?_)
  | with_reducible refine g_for ?_ | with_reducible refine g_iRng1 ?_ | with_reducible refine g_iRng2 ?_ | with_reducible refine g_iList ?_ | with_reducible refine g_iTup ?_
  | ((with_reducible refine g_Imul ?hc ?_); (case hc => (first | (refine Or.inl ⟨?_, ?_⟩ <;> first | decide | omega) | (refine Or.inr ⟨?_, ?_⟩ <;> first | decide | omega))))
  | ((with_reducible refine g_Idiv ?hc ?_); (case hc => (first | (exact ⟨by decide, by decide⟩) | assumption)))
  | ((with_reducible refine g_Imod ?hc ?_); (case hc => (first | assumption | omega | decide)))
  | ((with_reducible refine g_exR1 ?hlo ?hhi ?_); (case hlo => omega); (case hhi => omega))
  | ((with_reducible refine g_exR2 ?hb ?_); (case hb => omega))
  | with_reducible refine g_lst ?_ | with_reducible refine g_tup ?_ | with_reducible refine g_call ?_ | with_reducible refine g_BM ?_ | with_reducible refine g_BM0 ?_
  | with_reducible refine g_intB ?_ | with_reducible refine g_lc ?_ | with_reducible refine g_yes ?_ | with_reducible refine g_iZip ?_ | with_reducible refine g_sl ?_ | with_reducible refine g_noP ?_ | with_reducible refine g_part ?_ | with_reducible refine g_gcons ?_ | with_reducible refine g_gnil ?_
  | with_reducible refine g_tfld ?_ | with_reducible refine g_tmeth ?_ | with_reducible refine g_tmake ?_ | with_reducible refine g_sfld ?_ | with_reducible refine g_tprop ?_ | with_reducible refine g_tstar ?_ | with_reducible refine g_tmethK ?_ | with_reducible refine g_isN1 ?_ | with_reducible refine g_notN1 ?_))
local macro_rules | `(tactic| walk_at "hp") => `(tactic| (first | assumption | exact upd_same | (refine same_get (by assumption) ?_; walk_at "hp")))
local macro_rules | `(tactic| walk_at "sm") => `(tactic| (first | assumption | exact Same.refl _ | (refine Same.trans ?ha (by assumption); walk_at "sm")))
local macro_rules | `(tactic| walk_at "nn") => `(tactic| (first | assumption | (refine same_free (by assumption) ?_; walk_at "nn")))
local macro_rules | `(tactic| walk_at "sb") => `(tactic| (first | decide | (refine small_bits ?_ ?_ <;> omega)))
local macro_rules | `(tactic| walk_at "ln") => `(tactic| (simp only [List.length_cons, List.length_nil]; omega))
local macro_rules | `(tactic| walk_at "gg") => `(tactic| (repeat walk_at "g"))
local macro_rules | `(tactic| walk_at "gs") => `(tactic| (repeat walk_at "gs1"))
local macro_rules | `(tactic| walk_at "gx") => `(tactic| (repeat walk_at "gx1"))

section
variable {P : Program} {w : World} {K : PySem.W.Frag} {mg : Str → Option Value} {base : Heap} {X : Cx}
abbrev s_due : Stmt := top 18
abbrev N_due : List Str := ["_law_rows", "_law_first", "_law_last", "_law_found", "_law_one", "_law_cell", "_law_less", "_law_more", "_law_row"]
theorem sc_due : FnScope N_due ["_law_rows", "_law_first", "_law_last"] (defScope s_due) := ⟨rfl, rfl, rfl, by decide +kernel, rfl, by decide +kernel, by decide +kernel⟩

theorem ok_due {f : Addr} {fd : FuncData} (D : Dn K mg "_law_due" s_due ["_law_rows", "_law_first", "_law_last"] f fd) (T : Bt mg) : Cal P w K mg base 1 "_law_due" (spDue K) [] := by
  refine cal_of D (D.fn.ok sc_due (fun vs H Q E h => ?_) (fun cdv A outer s H vs Q E hr h => ?_))
  · obtain ⟨a, ns, lo, hi, rfl, _⟩ := h
    rfl
  · obtain ⟨a, ns, lo, hi, rfl, ha, hl, hb, h1, h2, h3, k⟩ := h
    refine ⟨_, (pss_cons (ps_set (i := 3) sc_due.nd rfl (Or.inl rfl) (pe_lst pa_nil))
    (pss_cons (ps_for PassesOwn.never rfl (pi_range2 (by rfl) T.n_range (pa_cons (pv 1) (pa_cons (pe_op op_add (pv 2) pe_int) pa_nil))) (pg_name (i := 4) sc_due.nd rfl (Or.inr rfl)) (pss_cons (ps_set (i := 5) sc_due.nd rfl (Or.inl rfl) (pe_tup (pa_cons pe_str (pa_cons (pv 4) pa_nil))))
    (pss_cons (ps_if (pt_cmpR op_notIn_seq (pv 4) (pv 0) (by rfl)) (pss_cons (ps_par (i := 6) (j := 7) (by rfl) sc_due.nd rfl rfl (by decide) rfl rfl (pa_cons (pe_lc (own := [("_law_row", 8)]) (g := gName 8) rfl sc_due.nd (pi_list (pv 0)) (blkOk_by (own := [("_law_row", 8)]) (N := N_due) (sc := defScope s_due) (by decide +kernel)) (fun _ _ _ _ _ => pg_name (i := 8) sc_due.nd rfl (Or.inl rfl)) (fun _ _ _ _ _ => (pts_one (pt_cmpR op_lt (pv 8) (pv 4) (nomark _)))) (fun _ _ _ _ _ => (pv 8))) (pa_cons (pe_lc (own := [("_law_row", 8)]) (g := gName 8) rfl sc_due.nd (pi_list (pv 0)) (blkOk_by (own := [("_law_row", 8)]) (N := N_due) (sc := defScope s_due) (by decide +kernel)) (fun _ _ _ _ _ => pg_name (i := 8) sc_due.nd rfl (Or.inl rfl)) (fun _ _ _ _ _ => (pts_one (pt_cmpR op_gt (pv 8) (pv 4) (nomark _)))) (fun _ _ _ _ _ => (pv 8))) pa_nil)) (by rfl))
    (pss_one (ps_set (i := 5) sc_due.nd rfl (Or.inl rfl) (pe_tup (pa_cons pe_str (pa_cons (pe_ifExp (pt_cmpR (op_neD hr.units) (pv 6) (pe_lst pa_nil) (nomark _)) (pe_ix ix_list (pv 6) (pe_un un_neg pe_int) (fun _ _ => rfl)) pe_non) (pa_cons (pe_ifExp (pt_cmpR (op_neD hr.units) (pv 7) (pe_lst pa_nil) (nomark _)) (pe_ix ix_list (pv 7) pe_int (fun _ _ => rfl)) pe_non) pa_nil))))))) pss_nil)
    (pss_one (ps_if (PW.pt (pw_or (pt_cmpR (op_eqD hr.units) (pv 3) (pe_lst pa_nil) (nomark _)) (pw_or1 (pt_cmpR (op_neD hr.units) (pe_ix ix_list (pv 3) (pe_un un_neg pe_int) (fun _ _ => rfl)) (pv 5) (nomark _))))) (pss_one (ps_expr (pe_bm PySem.F.plainAttrs_list PySem.F.slot_list_append PySem.F.type_list_append mt_append (pv 3) (pa_cons (pv 5) pa_nil)))) pss_nil)))))
    (pss_one (ps_ret (pv 3))))), ?_⟩
    walk_at "gg"
    refine g_mkL (by walk_at "ln") fun p1 H1 n1 S1 e1 => ?_
    walk_at "gg"
    refine fw_range (fun i σ H' => ∃ (acc : List V) (v4 v5 v6 v7 : Option V), σ = [some (.ref a), some (.int lo), some (.int hi), some (.ref p1), v4, v5, v6, v7, none] ∧ Same H H' ∧ H' p1 = some (.lst acc) ∧ DpAll K H' acc (dueOf ns lo i))
      ⟨[], none, none, none, none, rfl, S1, e1, .nil⟩ ?_ ?_
    · rintro i σ H' hi' ⟨acc, v4, v5, v6, v7, rfl, S, e, da⟩
      walk_at "gg"
      have hm : In80 (lo + (i : Int)) := ⟨by omega, by omega⟩
      refine g_mkT (by walk_at "ln") fun t2 H2 n2 S2 e2 => ?_
      have S02 := S.trans S2
      walk_at "gg"
      refine g_notInI (SqL.of (S02 _ _ ha)) ?_
      walk_at "gg"
      refine g_iteNJ (fun σ' H4 => ∃ (v6 v7 : Option V) (t : Addr), σ' = [some (.ref a), some (.int lo), some (.int hi), some (.ref p1), some (.int (lo + (i : Int))), some (.ref t), v6, v7, none] ∧ Same H2 H4 ∧ Dp K H4 (.ref t) (cellAt ns (lo + (i : Int)))) ?_ ?_ ?_
      · rintro σ' H4 ⟨v6, v7, t, rfl, S4, dt⟩
        have S24 := S2.trans S4
        have e4 := S24 _ _ e
        have d4 := dp_sameAll S24 _ _ da
        have fcell := fine_cellAt hb hm
        have fall : ∀ d ∈ dueOf ns lo i, Fine 1 4 d := due_all _ i fun j hj => fine_cellAt hb ⟨by omega, by omega⟩
        refine g_ifS (g_cutT (fun b H' => b = (!sameLast (dueOf ns lo i) (cellAt ns (lo + (i : Int)))) ∧ Same H4 H') (fun Q' kq => ?_) ?_)
        · walk_at "gx"
          refine g_mkL (by walk_at "ln") fun p5 H5 n5 S5 e5 => ?_
          refine g_eqD (.lst (SqL.of (S5 _ _ e4)) (dp_sameAll S5 _ _ d4)) (.lst (SqL.of e5) .nil) ((fine_list fall).shaped (by decide)) (shaped_ints []) ?_
          rw [eqv_nil]
          walk_at "gx"
          cases hd : (dueOf ns lo i).getLast? with
          | none =>
            have z : dueOf ns lo i = [] := List.getLast?_eq_none_iff.mp hd
            refine g_ifT (by rw [z]; rfl) ?_
            refine kq _ _ ⟨?_, S5⟩
            unfold sameLast
            rw [hd]
            rfl
          | some d =>
            have z : dueOf ns lo i ≠ [] := fun z => by rw [z] at hd; cases hd
            refine g_ifF (by cases q : dueOf ns lo i with
              | nil => exact absurd q z
              | cons x r => rfl) ?_
            obtain ⟨v, hv, dv⟩ := dpAll_last (dp_sameAll S5 _ _ d4) hd
            walk_at "gx"
            refine g_ixL (SqL.of (S5 _ _ e4)) (atI_neg1 hv) ?_
            walk_at "gx"
            refine g_neD dv (dp_same S5 _ _ dt) ((fall d (List.mem_of_getLast? hd)).shaped (by decide)) (fcell.shaped (by decide)) ?_
            walk_at "gx"
            refine kq _ _ ⟨?_, S5⟩
            unfold sameLast
            rw [hd]
        · rintro b H5 ⟨rfl, S5⟩
          have d5 := dp_sameAll S5 _ _ d4
          have st : dueOf ns lo (i + 1) = dueStep ns (dueOf ns lo i) (lo + (i : Int)) := due_succ ns lo i
          cases hs : sameLast (dueOf ns lo i) (cellAt ns (lo + (i : Int))) with
          | true =>
            refine g_ifF rfl ?_
            walk_at "gg"
            refine ⟨acc, _, _, _, _, rfl, (S.trans S24).trans S5, S5 _ _ e4, ?_⟩
            rw [st]
            unfold dueStep
            rw [if_pos hs]
            exact d5
          | false =>
            refine g_ifT rfl ?_
            walk_at "gg"
            refine g_tyL (S5 _ _ e4) ?_
            walk_at "gg"
            have la := dpAll_len da
            have ld := due_len ns lo i
            refine g_appB (S5 _ _ e4) (by omega) fun H6 B6 e6 => ?_
            walk_at "gg"
            refine ⟨acc ++ [.ref t], _, _, _, _, rfl, same_but ((S.trans S24).trans S5) n1 B6, e6, ?_⟩
            rw [st]
            unfold dueStep
            rw [if_neg (by rw [hs]; exact Bool.false_ne_true)]
            refine dp_butAll (S5 _ _ e4) B6 _ _ (noLstAll_iff.mpr fun d hd => ?_) (dpAll_append d5 (.cons (dp_same S5 _ _ dt) .nil))
            rcases List.mem_append.mp hd with h | h
            · exact due_all (fun d => noLst d = true) i (fun j _ => noLst_cellAt ns _) d h
            · rw [List.mem_singleton.mp h]
              exact noLst_cellAt ns _
      · intro N' tl c
        walk_at "gg"
        have h02 := SqL.of (K := K) (S02 _ _ ha)
        refine g_exL h02 ?_
        refine lc_filter (src_list h02) (fun _ _ _ h => h) (by rw [List.length_map]; omega) (fun x => match x with | .int n => decide (n < lo + (i : Int)) | _ => false) (fun x => x) (fun j x H3 Nx No hx S3 k1 k2 => ?_) fun D6 H6 n6 S6 e6 => ?_
        · obtain ⟨n, hn, rfl⟩ := ints_at hx
          walk_at "gg"
          refine ⟨rfl, ?_⟩
          walk_at "gg"
          refine g_ite (fun h => ?_) (fun h => ?_)
          · walk_at "gg"
            exact k1 _ (Same.refl _) (decide_eq_true h)
          · exact k2 _ (Same.refl _) (decide_eq_false h)
        rw [filter_ints ns _ (fun n => decide (n < lo + (i : Int))) (fun _ => rfl)] at e6
        walk_at "gg"
        have h06 := SqL.of (K := K) (S6 _ _ (S02 _ _ ha))
        refine g_exL h06 ?_
        refine lc_filter (src_list h06) (fun _ _ _ h => h) (by rw [List.length_map]; omega) (fun x => match x with | .int n => decide (lo + (i : Int) < n) | _ => false) (fun x => x) (fun j x H3 Nx No hx S3 k1 k2 => ?_) fun D7 H7 n7 S7 e7 => ?_
        · obtain ⟨n, hn, rfl⟩ := ints_at hx
          walk_at "gg"
          refine ⟨rfl, ?_⟩
          walk_at "gg"
          refine g_ite (fun h => ?_) (fun h => ?_)
          · walk_at "gg"
            exact k1 _ (Same.refl _) (decide_eq_true h)
          · exact k2 _ (Same.refl _) (decide_eq_false h)
        rw [filter_ints ns _ (fun n => decide (lo + (i : Int) < n)) (fun _ => rfl)] at e7
        have e67 := S7 _ _ e6
        walk_at "gx"
        refine g_cutE (fun v H' => v = oV (ns.filter fun n => decide (n < lo + (i : Int))).getLast? ∧ Same H7 H') (fun Q' kq => ?_) ?_
        · walk_at "gg"
          refine g_mkL (by walk_at "ln") fun p8 H8 n8 S8 e8 => ?_
          refine g_neI (SqL.of (S8 _ _ e67)) (ms := []) (SqL.of e8) ?_
          walk_at "gg"
          refine g_iteN (fun h => ?_) (fun h => ?_)
          · walk_at "gg"
            refine g_ixL (SqL.of (S8 _ _ e67)) (atI_neg1 (oV_last _ h)) ?_
            exact kq _ _ ⟨rfl, S8⟩
          · walk_at "gg"
            exact kq _ _ ⟨by rw [h]; rfl, S8⟩
        rintro v H8 ⟨rfl, S8⟩
        walk_at "gx"
        refine g_cutE (fun v H' => v = oV (ns.filter fun n => decide (lo + (i : Int) < n)).head? ∧ Same H8 H') (fun Q' kq => ?_) ?_
        · walk_at "gg"
          refine g_mkL (by walk_at "ln") fun p9 H9 n9 S9 e9 => ?_
          refine g_neI (SqL.of (S9 _ _ (S8 _ _ e7))) (ms := []) (SqL.of e9) ?_
          walk_at "gg"
          refine g_iteN (fun h => ?_) (fun h => ?_)
          · walk_at "gg"
            refine g_ixL (SqL.of (S9 _ _ (S8 _ _ e7))) (atI_head (oV_head _ h)) ?_
            exact kq _ _ ⟨rfl, S9⟩
          · walk_at "gg"
            exact kq _ _ ⟨by rw [h]; rfl, S9⟩
        rintro v H9 ⟨rfl, S9⟩
        walk_at "gx"
        refine g_mkT (by walk_at "ln") fun t10 H10 n10 S10 e10 => ?_
        walk_at "gx"
        refine tl _ _ ⟨_, _, t10, rfl, (((S6.trans S7).trans S8).trans S9).trans S10, ?_⟩
        unfold cellAt
        rw [if_neg c]
        exact .tup (SqT.of e10) (.cons (.str _) (.cons (dp_o _) (.cons (dp_o _) .nil)))
      · intro N' tl c
        walk_at "gg"
        refine tl _ _ ⟨v6, v7, t2, rfl, Same.refl _, ?_⟩
        unfold cellAt
        rw [if_pos c]
        exact .tup (SqT.of e2) (.cons (.str _) (.cons (.int _) .nil))
    · rintro σ H' ⟨acc, v4, v5, v6, v7, rfl, S, e, da⟩
      walk_at "gg"
      exact k p1 acc H' n1 S e da
end
end Gk

namespace Gk
open PySem L2 Gx
open C8 (Cal Met Mak pe_c pe_mt pe_mt0 pe_mk pe_gc)
local macro_rules | `(tactic| walk_at "g") => `(tactic| (first
  | with_reducible refine g_seq ?_ | with_reducible refine g_asg ?_ | ((with_reducible show tVar _ _ _ _); refine g_var rfl ?_) | with_reducible refine g_c ?_ | with_reducible refine g_name ?_ | with_reducible refine g_op ?_ | with_reducible refine g_I0 ?_
  | with_reducible refine g_cons ?_ | with_reducible refine g_nil ?_ | with_reducible refine g_exbl ?_ | with_reducible refine g_exint ?_ | with_reducible refine g_test ?_ | with_reducible refine g_B ?_ | with_reducible refine g_ifS ?_ | with_reducible refine g_ret ?_ | with_reducible refine g_retN ?_ | with_reducible refine g_next ?_
  | with_reducible refine g_CB ?_ | with_reducible refine g_sub ?_ | with_reducible refine g_drop ?_ | with_reducible refine g_not ?_ | with_reducible refine g_and ?_ | with_reducible refine g_or ?_ | with_reducible refine g_andV ?_ | with_reducible refine g_orV ?_ | with_reducible refine g_notV ?_ | with_reducible refine g_ifE ?_ | with_reducible refine g_isN ?_
  | with_reducible refine g_par ?_ | with_reducible refine g_expar ?_ | with_reducible refine g_chain ?_ | with_reducible refine g_un ?_ | with_reducible refine g_U ?_ | with_reducible refine g_bits ?_ | ((with_reducible show rEq _ _ _ _); refine g_eq rfl ?_) | ((with_reducible show rNe _ _ _ _); refine g_ne rfl ?_)
  | with_reducible refine g_for ?_ | with_reducible refine g_iRng1 ?_ | with_reducible refine g_iRng2 ?_ | with_reducible refine g_iList ?_ | with_reducible refine g_iTup ?_
  | ((with_reducible refine g_Imul ?hc ?_); (case hc => (first | (refine Or.inl ⟨?_, ?_⟩ <;> first | decide | omega) | (refine Or.inr ⟨?_, ?_⟩ <;> first | decide | omega))))
  | ((with_reducible refine g_Idiv ?hc ?_); (case hc => (first | (exact ⟨by decide, by decide⟩) | assumption)))
  | ((with_reducible refine g_Imod ?hc ?_); (case hc => (first | assumption | omega | decide)))
  | ((with_reducible refine g_exR1 ?hlo ?hhi ?_); (case hlo => omega); (case hhi => omega))
  | ((with_reducible refine g_exR2 ?hb ?_); (case hb => omega))
  | with_reducible refine g_lst ?_ | with_reducible refine g_tup ?_ | with_reducible refine g_call ?_ | with_reducible refine g_BM ?_ | with_reducible refine g_BM0 ?_
  | with_reducible refine g_intB ?_ | with_reducible refine g_lc ?_ | with_reducible refine g_yes ?_ | with_reducible refine g_iZip ?_ | with_reducible refine g_sl ?_ | with_reducible refine g_noP ?_ | with_reducible refine g_part ?_ | with_reducible refine g_gcons ?_ | with_reducible refine g_gnil ?_
  | with_reducible refine g_tfld ?_ | with_reducible refine g_tmeth ?_ | with_reducible refine g_tmake ?_ | with_reducible refine g_sfld ?_ | with_reducible refine g_tprop ?_ | with_reducible refine g_tstar ?_ | with_reducible refine g_tmethK ?_ | with_reducible refine g_isN1 ?_ | with_reducible refine g_notN1 ?_))
local macro_rules | `(tactic| walk_at "gs1") => `(tactic| (first
  | with_reducible refine g_seq ?_ | with_reducible refine g_asg ?_ | ((with_reducible show tVar _ _ _ _); refine g_var rfl ?_) | with_reducible refine g_c ?_ | with_reducible refine g_name ?_ | with_reducible refine g_op ?_ | with_reducible refine g_I0 ?_
  | with_reducible refine g_cons ?_ | with_reducible refine g_nil ?_ | with_reducible refine g_exbl ?_ | with_reducible refine g_exint ?_ | with_reducible refine g_test ?_ | with_reducible refine g_B ?_ | with_reducible refine g_ifS ?_ | with_reducible refine g_retN ?_ | with_reducible refine g_next ?_
  | with_reducible refine g_CB ?_ | with_reducible refine g_sub ?_ | with_reducible refine g_drop ?_ | with_reducible refine g_not ?_ | with_reducible refine g_and ?_ | with_reducible refine g_or ?_ | with_reducible refine g_andV ?_ | with_reducible refine g_orV ?_ | with_reducible refine g_notV ?_ | with_reducible refine g_ifE ?_ | with_reducible refine g_isN ?_
  | with_reducible refine g_par ?_ | with_reducible refine g_expar ?_ | with_reducible refine g_chain ?_ | with_reducible refine g_un ?_ | with_reducible refine g_U ?_ | with_reducible refine g_bits ?_ | ((with_reducible show rEq _ _ _ _); refine g_eq rfl ?_) | ((with_reducible show rNe _ _ _ _); refine g_ne rfl ?_)
  | with_reducible refine g_for ?_ | with_reducible refine g_iRng1 ?_ | with_reducible refine g_iRng2 ?_ | with_reducible refine g_iList ?_ | with_reducible refine g_iTup ?_
  | ((with_reducible refine g_Imul ?hc ?_); (case hc => (first | (refine Or.inl ⟨?_, ?_⟩ <;> first | decide | omega) | (refine Or.inr ⟨?_, ?_⟩ <;> first | decide | omega))))
  | ((with_reducible refine g_Idiv ?hc ?_); (case hc => (first | (exact ⟨by decide, by decide⟩) | assumption)))
  | ((with_reducible refine g_Imod ?hc ?_); (case hc => (first | assumption | omega | decide)))
  | ((with_reducible refine g_exR1 ?hlo ?hhi ?_); (case hlo => omega); (case hhi => omega))
  | ((with_reducible refine g_exR2 ?hb ?_); (case hb => omega))
  | with_reducible refine g_lst ?_ | with_reducible refine g_tup ?_ | with_reducible refine g_call ?_ | with_reducible refine g_BM ?_ | with_reducible refine g_BM0 ?_
  | with_reducible refine g_intB ?_ | with_reducible refine g_lc ?_ | with_reducible refine g_yes ?_ | with_reducible refine g_iZip ?_ | with_reducible refine g_sl ?_ | with_reducible refine g_noP ?_ | with_reducible refine g_part ?_ | with_reducible refine g_gcons ?_ | with_reducible refine g_gnil ?_
  | with_reducible refine g_tfld ?_ | with_reducible refine g_tmeth ?_ | with_reducible refine g_tmake ?_ | with_reducible refine g_sfld ?_ | with_reducible refine g_tprop ?_ | with_reducible refine g_tstar ?_ | with_reducible refine g_tmethK ?_ | with_reducible refine g_isN1 ?_ | with_reducible refine g_notN1 ?_))
local macro_rules | `(tactic| walk_at "gx1") => `(tactic| (first
  | with_reducible refine g_seq ?_ | with_reducible refine g_asg ?_ | ((with_reducible show tVar _ _ _ _); refine g_var rfl ?_) | with_reducible refine g_c ?_ | with_reducible refine g_name ?_ | with_reducible refine g_op ?_ | with_reducible refine g_I0 ?_
  | with_reducible refine g_cons ?_ | with_reducible refine g_nil ?_ | with_reducible refine g_exbl ?_ | with_reducible refine g_exint ?_ | with_reducible refine g_test ?_ | with_reducible refine g_B ?_ | with_reducible refine g_ifS ?_ | with_reducible refine g_retN ?_ | with_reducible refine g_next ?_
  | with_reducible refine g_CB ?_ | with_reducible refine g_sub ?_ | with_reducible refine g_drop ?_ | with_reducible refine g_not ?_ | with_reducible refine g_and ?_ | with_reducible refine g_or ?_ | with_reducible refine g_andV ?_ | with_reducible refine g_orV ?_ | with_reducible refine g_notV ?_ | with_reducible refine g_ret ?_ | with_reducible refine g_isN ?_
  | with_reducible refine g_par ?_ | with_reducible refine g_expar ?_ | with_reducible refine g_chain ?_ | with_reducible refine g_un ?_ | with_reducible refine g_U ?_ | with_reducible refine g_bits ?_ | ((with_reducible show rEq _ _ _ _); refine g_eq rfl ?_) | ((with_reducible show rNe _ _ _ _); refine g_ne rfl ?_)
  | with_reducible refine g_for ?_ | with_reducible refine g_iRng1 ?_ | with_reducible refine g_iRng2 ?_ | with_reducible refine g_iList ?_ | with_reducible refine g_iTup ?_
  | ((with_reducible refine g_Imul ?hc ?_); (case hc => (first | (refine Or.inl ⟨?_, ?_⟩ <;> first | decide | omega) | (refine Or.inr ⟨?_, ?_⟩ <;> first | decide | omega))))
  | ((with_reducible refine g_Idiv ?hc ?_); (case hc => (first | (exact ⟨by decide, by decide⟩) | assumption)))
  | ((with_reducible refine g_Imod ?hc ?_); (case hc => (first | assumption | omega | decide)))
  | ((with_reducible refine g_exR1 ?hlo ?hhi ?_); (case hlo => omega); (case hhi => omega))
  | ((with_reducible refine g_exR2 ?hb ?_); (case hb => omega))
  | with_reducible refine g_lst ?_ | with_reducible refine g_tup ?_ | with_reducible refine g_call ?_ | with_reducible refine g_BM ?_ | with_reducible refine g_BM0 ?_
  | with_reducible refine g_intB ?_ | with_reducible refine g_lc ?_ | with_reducible refine g_yes ?_ | with_reducible refine g_iZip ?_ | with_reducible refine g_sl ?_ | with_reducible refine g_noP ?_ | with_reducible refine g_part ?_ | with_reducible refine g_gcons ?_ | with_reducible refine g_gnil ?_
  | with_reducible refine g_tfld ?_ | with_reducible refine g_tmeth ?_ | with_reducible refine g_tmake ?_ | with_reducible refine g_sfld ?_ | with_reducible refine g_tprop ?_ | with_reducible refine g_tstar ?_ | with_reducible refine g_tmethK ?_ | with_reducible refine g_isN1 ?_ | with_reducible refine g_notN1 ?_))
local macro_rules | `(tactic| walk_at "hp") => `(tactic| (first | assumption | exact upd_same | (refine same_get (by assumption) ?_; walk_at "hp")))
local macro_rules | `(tactic| walk_at "sm") => `(tactic| (first | assumption | exact Same.refl _ | (refine Same.trans ?ha (by assumption); walk_at "sm")))
local macro_rules | `(tactic| walk_at "nn") => `(tactic| (first | assumption | (refine same_free (by assumption) ?_; walk_at "nn")))
local macro_rules | `(tactic| walk_at "sb") => `(tactic| (first | decide | (refine small_bits ?_ ?_ <;> omega)))
local macro_rules | `(tactic| walk_at "ln") => `(tactic| (simp only [List.length_cons, List.length_nil]; omega))
local macro_rules | `(tactic| walk_at "gg") => `(tactic| (repeat walk_at "g"))
local macro_rules | `(tactic| walk_at "gs") => `(tactic| (repeat walk_at "gs1"))
local macro_rules | `(tactic| walk_at "gx") => `(tactic| (repeat walk_at "gx1"))

section
variable {P : Program} {w : World} {K : PySem.W.Frag} {mg : Str → Option Value} {base : Heap} {X : Cx}
theorem fine_cells {ns : List Int} (p : ns.Pairwise (· < ·)) (hb : ∀ n ∈ ns, In80 n) {lo hi : Int} (h : lo ≤ hi) (h1 : In80 lo) (h2 : In80 hi) : Fine 2 (4 * (cellsOf ns lo hi).length + 1) (.list (cellsOf ns lo hi)) := by
  refine fine_list fun d hd => ?_
  rw [← due_cells p h] at hd
  refine due_all (fun d => Fine 1 4 d) _ (fun i hi' => fine_cellAt hb ⟨?_, ?_⟩) d hd
  · have := h1.1
    omega
  · have := h2.2
    omega
/-- a line of ints answers all ranges as it should -/
def spRight (C : Addr) : Sp := fun vs H Q _ => ∃ (p a : Addr) (ns : List Int), vs = [.ref p, .ref a] ∧ LineAt C H p (ns.map V.int) ∧ H a = some (.lst (ns.map V.int)) ∧ ns.length ≤ 500 ∧ ns.Pairwise (· < ·) ∧ (∀ n ∈ ns, In80 n) ∧ ∀ H', Same H H' → Q (.bl true) H'
abbrev s_right : Stmt := top 19
abbrev N_right : List Str := ["_law_line_here", "_law_rows", "_law_first", "_law_last", "_law_told"]
theorem sc_right : FnScope N_right ["_law_line_here", "_law_rows"] (defScope s_right) := ⟨rfl, rfl, rfl, by decide +kernel, rfl, by decide +kernel, by decide +kernel⟩

theorem ok_right {f C : Addr} {fd : FuncData} (D : Dn K mg "_law_right" s_right ["_law_line_here", "_law_rows"] f fd) (T : Bt mg) (d_cells_in : Met P w K mg base 2 C "cells_in" (spCells K C) []) (k_cells_in : MetK P w K mg base 2 C "cells_in" ["high", "low"] swapV (spCells K C))
    (p_points : PropR P w K mg base 1 C "points" (spPoints K C)) (c__law_due : Cal P w K mg base 1 "_law_due" (spDue K) []) : FnG P w K mg base 3 f fd ["_law_line_here", "_law_rows"] (spRight C) := by
  refine fnG_of D.fn sc_right (fun vs H Q E h => ?_) (fun cdv A outer s H vs Q E gd hr h => ?_)
  · obtain ⟨p, a, ns, rfl, _⟩ := h
    rfl
  · obtain ⟨p, a, ns, rfl, LA, ha, hl, up, hb, k⟩ := h
    refine ⟨_, (pss_cons (ps_for PassesOwn.never rfl (pi_range2 (by rfl) T.n_range (pa_cons (pe_un un_neg pe_int) (pa_cons pe_int pa_nil))) (pg_name (i := 2) sc_right.nd rfl (Or.inl rfl)) (pss_cons (ps_for PassesOwn.never rfl (pi_range2 (by rfl) T.n_range (pa_cons (pv 2) (pa_cons pe_int pa_nil))) (pg_name (i := 3) sc_right.nd rfl (Or.inl rfl)) (pss_cons (ps_set (i := 4) sc_right.nd rfl (Or.inl rfl) (pe_mt d_cells_in hr (by decide) (pv 0) (pa_cons (pv 2) (pa_cons (pv 3) pa_nil))))
    (pss_cons (ps_if (pt_cmpR op_ne (pe_callB (cr_repr gd hr) (by rfl) T.n_repr bt_repr (pa_cons (pv 4) pa_nil)) (pe_callB (cr_repr gd hr) (by rfl) T.n_repr bt_repr (pa_cons (pe_c c__law_due hr (by decide) (by rfl) (pa_cons (pv 1) (pa_cons (pv 2) (pa_cons (pv 3) pa_nil)))) pa_nil)) (nomark _)) (pss_one (ps_ret pe_bl)) pss_nil)
    (pss_one (ps_expr (pe_bm0 PySem.F.plainAttrs_list PySem.F.slot_list_clear PySem.F.type_list_clear mt_clear (pv 4)))))))
    (pss_one (ps_if (pt_cmpR (op_neD hr.units) (pe_mtK k_cells_in hr (by decide) (pv 0) (pk_cons pe_int (pk_cons (pv 2) pk_nil))) (pe_c c__law_due hr (by decide) (by rfl) (pa_cons (pv 1) (pa_cons (pv 2) (pa_cons pe_int pa_nil)))) (nomark _)) (pss_one (ps_ret pe_bl)) pss_nil))))
    (pss_one (ps_ret (pe_cmpR (op_eqD hr.units) (pe_pr p_points hr (by decide) (pv 0)) (pv 1) (nomark _))))), ?_⟩
    obtain ⟨dx, q, hp, hq⟩ := id LA
    walk_at "gg"
    refine fw_range (fun i σ H' => ∃ (v2 v3 v4 : Option V), σ = [some (.ref p), some (.ref a), v2, v3, v4] ∧ Same H H') ⟨none, none, none, rfl, Same.refl _⟩ ?_ ?_
    · rintro i σ H1 hi ⟨v2, v3, v4, rfl, S1⟩
      have i1 : i < 29 := hi
      generalize hlo : (-14 + (i : Int)) = lo
      have l1 : -14 ≤ lo := by omega
      have l2 : lo ≤ 14 := by omega
      walk_at "gg"
      refine fw_range (fun j σ H' => ∃ (v3 v4 : Option V), σ = [some (.ref p), some (.ref a), some (.int lo), v3, v4] ∧ Same H H') ⟨v3, v4, rfl, S1⟩ ?_ ?_
      · rintro j σ H2 hj ⟨v3, v4, rfl, S2⟩
        generalize hhi : (lo + (j : Int)) = hi
        have j1 : j < (15 - lo).toNat := hj
        have h1 : lo ≤ hi := by omega
        have h2 : hi ≤ 14 := by omega
        walk_at "gg"
        refine g_meth (S2 _ _ hp) (lf_no q (by decide)) ?_
        walk_at "gg"
        refine ⟨p, ns, lo, hi, rfl, LA.same S2, h1, hl, fun l acc H3 n3 S3 e3 d3 la3 => ?_⟩
        have fc := fine_cells up hb h1 ⟨by omega, by omega⟩ ⟨by omega, by omega⟩
        have lc := dpAll_len d3
        walk_at "gg"
        refine g_repr (.lst (SqL.of e3) d3) fc (by decide) (by omega) ?_
        walk_at "gg"
        refine ⟨a, ns, lo, hi, rfl, S3 _ _ (S2 _ _ ha), hl, hb, by omega, h1, by omega, fun l4 acc4 H4 n4 S4 e4 d4 => ?_⟩
        rw [due_cells up h1] at d4
        walk_at "gg"
        refine g_repr (.lst (SqL.of e4) d4) fc (by decide) (by omega) ?_
        walk_at "gg"
        refine g_ifF (by simp) ?_
        walk_at "gg"
        refine g_tyL (S4 _ _ e3) ?_
        refine g_clear (S3.trans S4) n3 (S4 _ _ e3) fun H5 S5 e5 => ?_
        walk_at "gg"
        exact ⟨_, _, rfl, S2.trans S5⟩
      · rintro σ H2 ⟨v3, v4, rfl, S2⟩
        walk_at "gg"
        refine g_methK (S2 _ _ hp) (lf_no q (by decide)) ?_
        walk_at "gg"
        refine ⟨p, ns, lo, 14, rfl, LA.same S2, by omega, hl, fun l acc H3 n3 S3 e3 d3 la3 => ?_⟩
        have fc := fine_cells up hb (show lo ≤ 14 by omega) ⟨by omega, by omega⟩ ⟨by omega, by omega⟩
        walk_at "gg"
        refine ⟨a, ns, lo, 14, rfl, S3 _ _ (S2 _ _ ha), hl, hb, by omega, by omega, by omega, fun l4 acc4 H4 n4 S4 e4 d4 => ?_⟩
        rw [due_cells up (show lo ≤ 14 by omega)] at d4
        have sh := fc.shaped (by decide)
        refine g_neD (.lst (SqL.of (S4 _ _ e3)) (dp_sameAll S4 _ _ d3)) (.lst (SqL.of e4) d4) sh sh ?_
        rw [SeqAt.eqv_refl _ (SeqAt.canLay_of_shaped sh)]
        walk_at "gg"
        refine g_ifF rfl ?_
        walk_at "gg"
        exact ⟨_, _, _, rfl, (S2.trans S3).trans S4⟩
    · rintro σ H1 ⟨v2, v3, v4, rfl, S1⟩
      walk_at "gg"
      refine g_prop (S1 _ _ hp) ⟨p, _, rfl, LA.same S1, fun l H2 n2 S2 e2 => ?_⟩
      walk_at "gg"
      refine g_eqI (SqL.of e2) (SqL.of (S2 _ _ (S1 _ _ ha))) ?_
      rw [decide_eq_true rfl]
      exact k H2 (S1.trans S2)
end
end Gk

namespace Gk
open PySem L2 Gx
open C8 (Cal Met Mak pe_c pe_mt pe_mt0 pe_mk pe_gc)
local macro_rules | `(tactic| walk_at "g") => `(tactic| (first
  | with_reducible refine g_seq ?_ | with_reducible refine g_asg ?_ | ((with_reducible show tVar _ _ _ _); refine g_var rfl ?_) | with_reducible refine g_c ?_ | with_reducible refine g_name ?_ | with_reducible refine g_op ?_ | with_reducible refine g_I0 ?_
  | with_reducible refine g_cons ?_ | with_reducible refine g_nil ?_ | with_reducible refine g_exbl ?_ | with_reducible refine g_exint ?_ | with_reducible refine g_test ?_ | with_reducible refine g_B ?_ | with_reducible refine g_ifS ?_ | with_reducible refine g_ret ?_ | with_reducible refine g_retN ?_ | with_reducible refine g_next ?_
  | with_reducible refine g_CB ?_ | with_reducible refine g_sub ?_ | with_reducible refine g_drop ?_ | with_reducible refine g_not ?_ | with_reducible refine g_and ?_ | with_reducible refine g_or ?_ | with_reducible refine g_andV ?_ | with_reducible refine g_orV ?_ | with_reducible refine g_notV ?_ | with_reducible refine g_ifE ?_ | with_reducible refine g_isN ?_
  | with_reducible refine g_par ?_ | with_reducible refine g_expar ?_ | with_reducible refine g_chain ?_ | with_reducible refine g_un ?_ | with_reducible refine g_U ?_ | with_reducible refine g_bits ?_ | ((with_reducible show rEq _ _ _ _); refine g_eq rfl ?_) | ((with_reducible show rNe _ _ _ _); refine g_ne rfl ?_)
  | with_reducible refine g_for ?_ | with_reducible refine g_iRng1 ?_ | with_reducible refine g_iRng2 ?_ | with_reducible refine g_iList ?_ | with_reducible refine g_iTup ?_
  | ((with_reducible refine g_Imul ?hc ?_); (case hc => (first | (refine Or.inl ⟨?_, ?_⟩ <;> first | decide | omega) | (refine Or.inr ⟨?_, ?_⟩ <;> first | decide | omega))))
  | ((with_reducible refine g_Idiv ?hc ?_); (case hc => (first | (exact ⟨by decide, by decide⟩) | assumption)))
  | ((with_reducible refine g_Imod ?hc ?_); (case hc => (first | assumption | omega | decide)))
  | ((with_reducible refine g_exR1 ?hlo ?hhi ?_); (case hlo => omega); (case hhi => omega))
  | ((with_reducible refine g_exR2 ?hb ?_); (case hb => omega))
  | with_reducible refine g_lst ?_ | with_reducible refine g_tup ?_ | with_reducible refine g_call ?_ | with_reducible refine g_BM ?_ | with_reducible refine g_BM0 ?_
  | with_reducible refine g_intB ?_ | with_reducible refine g_lc ?_ | with_reducible refine g_yes ?_ | with_reducible refine g_iZip ?_ | with_reducible refine g_sl ?_ | with_reducible refine g_noP ?_ | with_reducible refine g_part ?_ | with_reducible refine g_gcons ?_ | with_reducible refine g_gnil ?_
  | with_reducible refine g_tfld ?_ | with_reducible refine g_tmeth ?_ | with_reducible refine g_tmake ?_ | with_reducible refine g_sfld ?_ | with_reducible refine g_tprop ?_ | with_reducible refine g_tstar ?_ | with_reducible refine g_tmethK ?_ | with_reducible refine g_isN1 ?_ | with_reducible refine g_notN1 ?_))
local macro_rules | `(tactic| walk_at "gs1") => `(tactic| (first
  | with_reducible refine g_seq ?_ | with_reducible refine g_asg ?_ | ((with_reducible show tVar _ _ _ _); refine g_var rfl ?_) | with_reducible refine g_c ?_ | with_reducible refine g_name ?_ | with_reducible refine g_op ?_ | with_reducible refine g_I0 ?_
  | with_reducible refine g_cons ?_ | with_reducible refine g_nil ?_ | with_reducible refine g_exbl ?_ | with_reducible refine g_exint ?_ | with_reducible refine g_test ?_ | with_reducible refine g_B ?_ | with_reducible refine g_ifS ?_ | with_reducible refine g_retN ?_ | with_reducible refine g_next ?_
  | with_reducible refine g_CB ?_ | with_reducible refine g_sub ?_ | with_reducible refine g_drop ?_ | with_reducible refine g_not ?_ | with_reducible refine g_and ?_ | with_reducible refine g_or ?_ | with_reducible refine g_andV ?_ | with_reducible refine g_orV ?_ | with_reducible refine g_notV ?_ | with_reducible refine g_ifE ?_ | with_reducible refine g_isN ?_
  | with_reducible refine g_par ?_ | with_reducible refine g_expar ?_ | with_reducible refine g_chain ?_ | with_reducible refine g_un ?_ | with_reducible refine g_U ?_ | with_reducible refine g_bits ?_ | ((with_reducible show rEq _ _ _ _); refine g_eq rfl ?_) | ((with_reducible show rNe _ _ _ _); refine g_ne rfl ?_)
  | with_reducible refine g_for ?_ | with_reducible refine g_iRng1 ?_ | with_reducible refine g_iRng2 ?_ | with_reducible refine g_iList ?_ | with_reducible refine g_iTup ?_
  | ((with_reducible refine g_Imul ?hc ?_); (case hc => (first | (refine Or.inl ⟨?_, ?_⟩ <;> first | decide | omega) | (refine Or.inr ⟨?_, ?_⟩ <;> first | decide | omega))))
  | ((with_reducible refine g_Idiv ?hc ?_); (case hc => (first | (exact ⟨by decide, by decide⟩) | assumption)))
  | ((with_reducible refine g_Imod ?hc ?_); (case hc => (first | assumption | omega | decide)))
  | ((with_reducible refine g_exR1 ?hlo ?hhi ?_); (case hlo => omega); (case hhi => omega))
  | ((with_reducible refine g_exR2 ?hb ?_); (case hb => omega))
  | with_reducible refine g_lst ?_ | with_reducible refine g_tup ?_ | with_reducible refine g_call ?_ | with_reducible refine g_BM ?_ | with_reducible refine g_BM0 ?_
  | with_reducible refine g_intB ?_ | with_reducible refine g_lc ?_ | with_reducible refine g_yes ?_ | with_reducible refine g_iZip ?_ | with_reducible refine g_sl ?_ | with_reducible refine g_noP ?_ | with_reducible refine g_part ?_ | with_reducible refine g_gcons ?_ | with_reducible refine g_gnil ?_
  | with_reducible refine g_tfld ?_ | with_reducible refine g_tmeth ?_ | with_reducible refine g_tmake ?_ | with_reducible refine g_sfld ?_ | with_reducible refine g_tprop ?_ | with_reducible refine g_tstar ?_ | with_reducible refine g_tmethK ?_ | with_reducible refine g_isN1 ?_ | with_reducible refine g_notN1 ?_))
local macro_rules | `(tactic| walk_at "gx1") => `(tactic| (first
  | with_reducible refine g_seq ?_ | with_reducible refine g_asg ?_ | ((with_reducible show tVar _ _ _ _); refine g_var rfl ?_) | with_reducible refine g_c ?_ | with_reducible refine g_name ?_ | with_reducible refine g_op ?_ | with_reducible refine g_I0 ?_
  | with_reducible refine g_cons ?_ | with_reducible refine g_nil ?_ | with_reducible refine g_exbl ?_ | with_reducible refine g_exint ?_ | with_reducible refine g_test ?_ | with_reducible refine g_B ?_ | with_reducible refine g_ifS ?_ | with_reducible refine g_retN ?_ | with_reducible refine g_next ?_
  | with_reducible refine g_CB ?_ | with_reducible refine g_sub ?_ | with_reducible refine g_drop ?_ | with_reducible refine g_not ?_ | with_reducible refine g_and ?_ | with_reducible refine g_or ?_ | with_reducible refine g_andV ?_ | with_reducible refine g_orV ?_ | with_reducible refine g_notV ?_ | with_reducible refine g_ret ?_ | with_reducible refine g_isN ?_
  | with_reducible refine g_par ?_ | with_reducible refine g_expar ?_ | with_reducible refine g_chain ?_ | with_reducible refine g_un ?_ | with_reducible refine g_U ?_ | with_reducible refine g_bits ?_ | ((with_reducible show rEq _ _ _ _); refine g_eq rfl ?_) | ((with_reducible show rNe _ _ _ _); refine g_ne rfl ?_)
  | with_reducible refine g_for ?_ | with_reducible refine g_iRng1 ?_ | with_reducible refine g_iRng2 ?_ | with_reducible refine g_iList ?_ | with_reducible refine g_iTup ?_
  | ((with_reducible refine g_Imul ?hc ?_); (case hc => (first | (refine Or.inl ⟨?_, ?_⟩ <;> first | decide | omega) | (refine Or.inr ⟨?_, ?_⟩ <;> first | decide | omega))))
  | ((with_reducible refine g_Idiv ?hc ?_); (case hc => (first | (exact ⟨by decide, by decide⟩) | assumption)))
  | ((with_reducible refine g_Imod ?hc ?_); (case hc => (first | assumption | omega | decide)))
  | ((with_reducible refine g_exR1 ?hlo ?hhi ?_); (case hlo => omega); (case hhi => omega))
  | ((with_reducible refine g_exR2 ?hb ?_); (case hb => omega))
  | with_reducible refine g_lst ?_ | with_reducible refine g_tup ?_ | with_reducible refine g_call ?_ | with_reducible refine g_BM ?_ | with_reducible refine g_BM0 ?_
  | with_reducible refine g_intB ?_ | with_reducible refine g_lc ?_ | with_reducible refine g_yes ?_ | with_reducible refine g_iZip ?_ | with_reducible refine g_sl ?_ | with_reducible refine g_noP ?_ | with_reducible refine g_part ?_ | with_reducible refine g_gcons ?_ | with_reducible refine g_gnil ?_
  | with_reducible refine g_tfld ?_ | with_reducible refine g_tmeth ?_ | with_reducible refine g_tmake ?_ | with_reducible refine g_sfld ?_ | with_reducible refine g_tprop ?_ | with_reducible refine g_tstar ?_ | with_reducible refine g_tmethK ?_ | with_reducible refine g_isN1 ?_ | with_reducible refine g_notN1 ?_))
local macro_rules | `(tactic| walk_at "hp") => `(tactic| (first | assumption | exact upd_same | (refine same_get (by assumption) ?_; walk_at "hp")))
local macro_rules | `(tactic| walk_at "sm") => `(tactic| (first | assumption | exact Same.refl _ | (refine Same.trans ?ha (by assumption); walk_at "sm")))
local macro_rules | `(tactic| walk_at "nn") => `(tactic| (first | assumption | (refine same_free (by assumption) ?_; walk_at "nn")))
local macro_rules | `(tactic| walk_at "sb") => `(tactic| (first | decide | (refine small_bits ?_ ?_ <;> omega)))
local macro_rules | `(tactic| walk_at "ln") => `(tactic| (simp only [List.length_cons, List.length_nil]; omega))
local macro_rules | `(tactic| walk_at "gg") => `(tactic| (repeat walk_at "g"))
local macro_rules | `(tactic| walk_at "gs") => `(tactic| (repeat walk_at "gs1"))
local macro_rules | `(tactic| walk_at "gx") => `(tactic| (repeat walk_at "gx1"))

section
variable {P : Program} {w : World} {K : PySem.W.Frag} {mg : Str → Option Value} {base : Heap} {X : Cx}
/-- where the fold stands: the point left of the i-th cell -/
theorem fold_left (lo hi : Int) (ns : List Int) : ∀ (i : Nat), i ≤ (rights ns).length → (none :: rights ns)[i]? = some (((rights ns).take i).foldl (cellFold lo hi) (none, [])).1
  | 0, _ => rfl
  | i + 1, h => by
    have lt : i < (rights ns).length := h
    rw [fold_next (cellFold lo hi) _ (List.getElem?_eq_getElem lt)]
    show (rights ns)[i]? = some ((rights ns)[i])
    exact List.getElem?_eq_getElem lt
theorem g_ixAt {p : Addr} {xs : List V} {i : Int} {v : V} {H : Hp} {Q : VK} (h : SqL K H p xs) (e : atI xs i = some v) (q : Q v H) : rIxL K (.ref p) (.int i) H Q := ⟨p, xs, i, v, rfl, rfl, h, e, q⟩
def spGreat : Sp := fun vs H Q _ => ∃ (f a : Addr) (ns : List Int), vs = [.ref f, .ref a] ∧ H f = some (FlowO f) ∧ H a = some (.lst (ns.map V.int)) ∧ ns.length ≤ 500 ∧ ns.Pairwise (· < ·) ∧ (∀ n ∈ ns, -1000000000000000000000000000000000000000000000000000000000000 ≤ n ∧ n ≤ 1000000000000000000000000000000000000000000000000000000000000) ∧ ∀ H', Same H H' → Q (.bl true) H'
abbrev s_great_right : Stmt := top 20
abbrev N_great_right : List Str := ["_law_flow_here", "_law_rows", "_law_line_here", "_law_ends", "_law_turn", "_law_first", "_law_last", "_law_due_here", "_law_at", "_law_left", "_law_right_here", "_law_least"]
theorem sc_great_right : FnScope N_great_right ["_law_flow_here", "_law_rows"] (defScope s_great_right) := ⟨rfl, rfl, rfl, by decide +kernel, rfl, by decide +kernel, by decide +kernel⟩

theorem ok_great {f CK : Addr} {fd : FuncData} (D : Dn K mg "_law_great_right" s_great_right ["_law_flow_here", "_law_rows"] f fd) (T : Bt mg) (m_KeyLine : Mak P w K mg base 3 "KeyLine" CK (spInitI K CK) []) (d_cells_in : Met P w K mg base 2 CK "cells_in" (spCells K CK) [])
    (p_points : PropR P w K mg base 1 CK "points" (spPoints K CK)) (c__law_near : Cal P w K mg base 2 "_law_near" (spNear K) []) : FnG P w K mg base 5 f fd ["_law_flow_here", "_law_rows"] spGreat := by
  refine fnG_of D.fn sc_great_right (fun vs H Q E h => ?_) (fun cdv A outer s H vs Q E gd hr h => ?_)
  · obtain ⟨p, a, ns, rfl, _⟩ := h
    rfl
  · obtain ⟨f, a, ns, rfl, hf, ha, hl, up, hb, k⟩ := h
    refine ⟨_, (pss_cons (ps_par (i := 2) (j := 3) (by rfl) sc_great_right.nd rfl rfl (by decide) rfl rfl (pa_cons (pe_mk m_KeyLine hr (by decide) (by rfl) (pa_cons (pe_callTy cr_listQ (by rfl) T.n_list bt_list (pa_cons (pv 1) pa_nil)) pa_nil)) (pa_cons (pe_op op_cat (pe_op op_cat (pe_lst (pa_cons pe_non pa_nil)) (pv 1)) (pe_lst (pa_cons pe_non pa_nil))) pa_nil)) (by rfl))
    (pss_cons (ps_for PassesOwn.never rfl (pi_range1 (by rfl) T.n_range (pa_cons pe_int pa_nil)) (pg_name (i := 4) sc_great_right.nd rfl (Or.inl rfl)) (pss_cons (ps_asg (pe_callB cr_sorted (by rfl) T.n_sorted bt_sorted (pa_cons (pe_lst (pa_cons (pe_c c__law_near hr (by decide) (by rfl) (pa_cons (pv 0) (pa_cons (pv 1) pa_nil))) (pa_cons (pe_c c__law_near hr (by decide) (by rfl) (pa_cons (pv 0) (pa_cons (pv 1) pa_nil))) pa_nil))) pa_nil)) (pg_unl (by rfl) (pgs_cons (pg_name (i := 5) sc_great_right.nd rfl (Or.inl rfl)) (pgs_cons (pg_name (i := 6) sc_great_right.nd rfl (Or.inl rfl)) pgs_nil))))
    (pss_cons (ps_set (i := 7) sc_great_right.nd rfl (Or.inl rfl) (pe_lst pa_nil))
    (pss_cons (ps_for PassesOwn.never rfl (pi_range1 (by rfl) T.n_range (pa_cons (pe_op op_sub (pe_callB cr_lenQ (by rfl) T.n_len bt_len (pa_cons (pv 3) pa_nil)) pe_int) pa_nil)) (pg_name (i := 8) sc_great_right.nd rfl (Or.inl rfl)) (pss_cons (ps_par (i := 9) (j := 10) (by rfl) sc_great_right.nd rfl rfl (by decide) rfl rfl (pa_cons (pe_ix ix_list (pv 3) (pv 8) (fun _ _ => rfl)) (pa_cons (pe_ix ix_list (pv 3) (pe_op op_add (pv 8) pe_int) (fun _ _ => rfl)) pa_nil)) (by rfl))
    (pss_cons (ps_set (i := 11) sc_great_right.nd rfl (Or.inl rfl) (pe_ifExp (pt_cmpR op_isN1 (pv 9) pe_non (nomark _)) (pv 5) (pe_callB (cr_maxQ rfl) (by rfl) T.n_max bt_max (pa_cons (pv 5) (pa_cons (pe_op op_add (pv 9) pe_int) pa_nil)))))
    (pss_cons (ps_if (pt_cmpR op_le (pv 11) (pe_ifExp (pt_cmpR op_isN1 (pv 10) pe_non (nomark _)) (pv 6) (pe_callB (cr_minQ rfl) (by rfl) T.n_min bt_min (pa_cons (pv 6) (pa_cons (pe_op op_sub (pv 10) pe_int) pa_nil)))) (nomark _)) (pss_one (ps_expr (pe_bm PySem.F.plainAttrs_list PySem.F.slot_list_append PySem.F.type_list_append mt_append (pv 7) (pa_cons (pe_tup (pa_cons pe_str (pa_cons (pv 9) (pa_cons (pv 10) pa_nil)))) pa_nil)))) pss_nil)
    (pss_one (ps_if (PW.pt (pw_and (pt_cmpR op_notN1 (pv 10) pe_non (nomark _)) (pw_and1 (pt_chain op_le op_le (pv 5) (pv 10) (pv 6))))) (pss_one (ps_expr (pe_bm PySem.F.plainAttrs_list PySem.F.slot_list_append PySem.F.type_list_append mt_append (pv 7) (pa_cons (pe_tup (pa_cons pe_str (pa_cons (pv 10) pa_nil))) pa_nil)))) pss_nil))))))
    (pss_one (ps_if (pt_cmpR op_ne (pe_callB (cr_repr gd hr) (by rfl) T.n_repr bt_repr (pa_cons (pe_mt d_cells_in hr (by decide) (pv 2) (pa_cons (pv 5) (pa_cons (pv 6) pa_nil))) pa_nil)) (pe_callB (cr_repr gd hr) (by rfl) T.n_repr bt_repr (pa_cons (pv 7) pa_nil)) (nomark _)) (pss_one (ps_ret pe_bl)) pss_nil))))))
    (pss_one (ps_ret (pe_cmpR (op_eqD hr.units) (pe_pr p_points hr (by decide) (pv 2)) (pv 1) (nomark _)))))), ?_⟩
    walk_at "gg"
    refine g_listof (SqL.of ha) fun l1 H1 n1 S1 e1 => ?_
    walk_at "gg"
    refine g_make fun x2 d2 H2 n2 S2 e2 => ?_
    refine ⟨x2, l1, d2, ns, rfl, e2, S2 _ _ e1, hl, up, fun H3 L3 B3 => ⟨rfl, ?_⟩⟩
    have S03 : Same H H3 := S1.trans (same_but S2 n2 B3)
    walk_at "gg"
    refine g_mkL (by walk_at "ln") fun l4 H4 n4 S4 e4 => ?_
    walk_at "gg"
    refine g_cat e4 (S4 _ _ (S03 _ _ ha)) (by rw [List.length_map]; simp only [List.length_cons, List.length_nil]; omega) fun l5 H5 n5 S5 e5 => ?_
    walk_at "gg"
    refine g_mkL (by walk_at "ln") fun l6 H6 n6 S6 e6 => ?_
    refine g_cat (S6 _ _ e5) e6 (by rw [List.length_append, List.length_map]; simp only [List.length_cons, List.length_nil]; omega) fun l7 H7 n7 S7 e7 => ?_
    have ends : [V.non] ++ ns.map V.int ++ [V.non] = (none :: rights ns).map oV := by
      rw [List.append_assoc, rights_V]
      rfl
    rw [ends] at e7
    have S37 : Same H3 H7 := ((S4.trans S5).trans S6).trans S7
    have S07 := S03.trans S37
    have L7 := L3.same S37
    obtain ⟨dx, q, hp, hq⟩ := id L7
    walk_at "gg"
    refine fw_range (fun i σ H' => ∃ (v4 v5 v6 v7 v8 v9 v10 v11 : Option V), σ = [some (.ref f), some (.ref a), some (.ref x2), some (.ref l7), v4, v5, v6, v7, v8, v9, v10, v11] ∧ Same H7 H') ⟨none, none, none, none, none, none, none, none, rfl, Same.refl _⟩ ?_ ?_
    · rintro i σ H8 hi ⟨v4, v5, v6, v7, v8, v9, v10, v11, rfl, S8⟩
      have S08 := S07.trans S8
      walk_at "gg"
      refine ⟨f, a, ns, rfl, S08 _ _ hf, SqL.of (S08 _ _ ha), by omega, hb, fun n1 H9 b1 b2 S9 => ?_⟩
      walk_at "gg"
      refine ⟨f, a, ns, rfl, S9 _ _ (S08 _ _ hf), SqL.of (S9 _ _ (S08 _ _ ha)), by omega, hb, fun n2 H10 b3 b4 S10 => ?_⟩
      walk_at "gg"
      refine g_mkL (by walk_at "ln") fun l11 H11 n11 S11 e11 => ?_
      walk_at "gg"
      refine g_sorted (ns := [n1, n2]) (SqL.of e11) (by simp) fun ms l12 H12 pm um n12 S12 e12 => ?_
      obtain ⟨lo, hi, rfl, le, lo1, hi1⟩ := two_sorted pm um
      have inlo : In80 lo := ⟨by omega, by omega⟩
      have inhi : In80 hi := ⟨by omega, by omega⟩
      refine g_unl (SqL.of e12) rfl ?_
      show gCons (gName 5) (gCons (gName 6) gNil) [V.int lo, V.int hi] _ _ _
      walk_at "gg"
      refine g_mkL (by walk_at "ln") fun l13 H13 n13 S13 e13 => ?_
      have S712 : Same H7 H12 := (((S8.trans S9).trans S10).trans S11).trans S12
      have S713 := S712.trans S13
      have e713 := S713 _ _ e7
      walk_at "gg"
      refine g_len (SqL.of e713) ?_
      have ll : ((none :: rights ns).map oV).length = ns.length + 2 := by rw [List.length_map, List.length_cons, rights_len]
      rw [ll]
      walk_at "gg"
      generalize V.int (0 + (i : Int)) = tn
      refine fw_range (fun j σ H' => ∃ (acc : List V) (v8 v9 v10 v11 : Option V), σ = [some (.ref f), some (.ref a), some (.ref x2), some (.ref l7), some tn, some (.int lo), some (.int hi), some (.ref l13), v8, v9, v10, v11] ∧ Same H12 H' ∧ H' l13 = some (.lst acc) ∧
          DpAll K H' acc (((rights ns).take j).foldl (cellFold lo hi) (none, [])).2 ∧ acc.length ≤ 2 * j)
        ⟨[], v8, v9, v10, v11, rfl, S13, e13, .nil, Nat.le_refl _⟩ ?_ ?_
      · rintro j σ H14 hj ⟨acc, v8, v9, v10, v11, rfl, S14, ea, da, la⟩
        have j1 : j < ns.length + 1 := by omega
        have jr : j < (rights ns).length := by rw [rights_len]; exact j1
        have nol : noLstAll (((rights ns).take j).foldl (cellFold lo hi) (none, [])).2 = true := noLst_cells lo hi _
        have hri := List.getElem?_eq_getElem jr
        have nx : ((rights ns).take (j + 1)).foldl (cellFold lo hi) (none, []) = cellFold lo hi (((rights ns).take j).foldl (cellFold lo hi) (none, [])) (rights ns)[j] := fold_next _ _ hri
        have atl := fold_left lo hi ns j (by omega)
        generalize (rights ns)[j] = r at hri nx
        generalize ((rights ns).take j).foldl (cellFold lo hi) (none, []) = st at nol nx da atl ⊢
        obtain ⟨l, ds⟩ := st
        simp only at da nol atl
        have e714 := S14 _ _ (S712 _ _ e7)
        have a1 : atI ((none :: rights ns).map oV) (0 + (j : Int)) = some (oV l) := by
          rw [Int.zero_add]
          exact atI_nat (by rw [List.getElem?_map, atl]; rfl)
        have a2 : atI ((none :: rights ns).map oV) (0 + (j : Int) + 1) = some (oV r) := by
          rw [Int.zero_add]
          exact atI_nat (j := j + 1) (by rw [List.getElem?_map, List.getElem?_cons_succ, hri]; rfl)
        walk_at "gg"
        refine g_ixAt (SqL.of e714) a1 ?_
        walk_at "gg"
        refine g_ixAt (SqL.of e714) a2 ?_
        walk_at "gx"
        refine g_cutE (fun v H' => v = .int (leastOf lo l) ∧ H14 = H') (fun Q' kq => ?_) ?_
        · walk_at "gg"
          cases l with
          | none =>
            refine g_iteT rfl ?_
            walk_at "gg"
            exact kq _ _ ⟨rfl, rfl⟩
          | some x =>
            refine g_iteF nofun ?_
            walk_at "gg"
            refine g_max2 fun c c1 c2 c3 => ?_
            refine kq _ _ ⟨?_, rfl⟩
            refine congrArg V.int ?_
            show c = if x + 1 > lo then x + 1 else lo
            split <;> omega
        · rintro _ _ ⟨rfl, rfl⟩
          walk_at "gx"
          refine g_cutE (fun v H' => v = .int (mostOf hi r) ∧ H14 = H') (fun Q' kq => ?_) ?_
          · walk_at "gg"
            cases r with
            | none =>
              refine g_iteT rfl ?_
              walk_at "gg"
              exact kq _ _ ⟨rfl, rfl⟩
            | some x =>
              refine g_iteF nofun ?_
              walk_at "gg"
              refine g_min2 fun c c1 c2 c3 => ?_
              refine kq _ _ ⟨?_, rfl⟩
              refine congrArg V.int ?_
              show c = if x - 1 < hi then x - 1 else hi
              split <;> omega
          · rintro _ _ ⟨rfl, rfl⟩
            walk_at "gg"
            refine g_iteJB (fun σ' H'' => ∃ acc1 : List V, σ' = [some (.ref f), some (.ref a), some (.ref x2), some (.ref l7), some tn, some (.int lo), some (.int hi), some (.ref l13), some (.int (0 + (j : Int))), some (oV l), some (oV r), some (.int (leastOf lo l))] ∧
              Same H12 H'' ∧ H'' l13 = some (.lst acc1) ∧ DpAll K H'' acc1 (ds ++ (if gapIn l r lo hi = true then [gapD l r] else [])) ∧ acc1.length ≤ 2 * j + 1) ?_ ?_ ?_
            · rintro σ' H3 ⟨acc1, rfl, S3, ea3, da3, la3⟩
              have nol3 : noLstAll (ds ++ (if gapIn l r lo hi = true then [gapD l r] else [])) = true := by
                refine noLstAll_iff.mpr fun d hd => ?_
                rcases List.mem_append.mp hd with h | h
                · exact noLstAll_iff.mp nol d h
                · split at h
                  · rw [List.mem_singleton.mp h]
                    exact noLst_gap l r
                  · cases h
              walk_at "gg"
              cases r with
              | none =>
                refine g_ifF rfl ?_
                refine g_ifF rfl ?_
                walk_at "gg"
                refine ⟨acc1, _, _, _, _, rfl, S3, ea3, ?_, by omega⟩
                rw [nx]
                show DpAll K H3 acc1 (ds ++ ((if gapIn l none lo hi = true then [gapD l none] else []) ++ []))
                rw [List.append_nil]
                exact da3
              | some y =>
                refine g_ifT rfl ?_
                walk_at "gg"
                by_cases c1 : lo ≤ y
                · rw [decide_eq_true c1]
                  refine g_ifT rfl ?_
                  walk_at "gg"
                  by_cases c2 : y ≤ hi
                  · rw [decide_eq_true c2]
                    refine g_ifT rfl ?_
                    walk_at "gg"
                    refine g_tyL ea3 ?_
                    walk_at "gg"
                    refine g_mkT (by walk_at "ln") fun t4 H4 n4 S4 e4 => ?_
                    walk_at "gg"
                    have ea4 := S4 _ _ ea3
                    refine g_appB ea4 (by omega) fun H5 B5 e5 => ?_
                    walk_at "gg"
                    refine ⟨acc1 ++ [.ref t4], _, _, _, _, rfl, same_but (S3.trans S4) n13 B5, e5, ?_, by rw [List.length_append]; simp only [List.length_cons, List.length_nil]; omega⟩
                    rw [nx]
                    show DpAll K H5 (acc1 ++ [.ref t4]) (ds ++ ((if gapIn l (some y) lo hi = true then [gapD l (some y)] else []) ++ (if lo ≤ y ∧ y ≤ hi then [pointD y] else [])))
                    rw [if_pos (by omega : lo ≤ y ∧ y ≤ hi), ← List.append_assoc]
                    refine dp_butAll ea4 B5 _ _ ?_ (dpAll_append (dp_sameAll S4 _ _ da3) (.cons (.tup (SqT.of e4) (.cons (.str _) (.cons (.int y) .nil))) .nil))
                    refine noLstAll_iff.mpr fun d hd => ?_
                    rcases List.mem_append.mp hd with h | h
                    · exact noLstAll_iff.mp nol3 d h
                    · rw [List.mem_singleton.mp h]
                      exact noLst_point y
                  · rw [decide_eq_false c2]
                    refine g_ifF rfl ?_
                    walk_at "gg"
                    refine ⟨acc1, _, _, _, _, rfl, S3, ea3, ?_, by omega⟩
                    rw [nx]
                    show DpAll K H3 acc1 (ds ++ ((if gapIn l (some y) lo hi = true then [gapD l (some y)] else []) ++ (if lo ≤ y ∧ y ≤ hi then [pointD y] else [])))
                    rw [if_neg (by omega : ¬ (lo ≤ y ∧ y ≤ hi)), List.append_nil]
                    exact da3
                · rw [decide_eq_false c1]
                  refine g_ifF rfl ?_
                  walk_at "gg"
                  refine ⟨acc1, _, _, _, _, rfl, S3, ea3, ?_, by omega⟩
                  rw [nx]
                  show DpAll K H3 acc1 (ds ++ ((if gapIn l (some y) lo hi = true then [gapD l (some y)] else []) ++ (if lo ≤ y ∧ y ≤ hi then [pointD y] else [])))
                  rw [if_neg (by omega : ¬ (lo ≤ y ∧ y ≤ hi)), List.append_nil]
                  exact da3
            · intro N' tl c
              rw [show gapIn l r lo hi = true from c, if_pos rfl] at tl
              walk_at "gg"
              refine g_tyL ea ?_
              walk_at "gg"
              refine g_mkT (by walk_at "ln") fun t3 H3 n3 S3 e3 => ?_
              walk_at "gg"
              have ea3 := S3 _ _ ea
              refine g_appB ea3 (by omega) fun H4 B4 e4 => ?_
              walk_at "gg"
              refine tl _ _ ⟨acc ++ [.ref t3], rfl, same_but (S14.trans S3) n13 B4, e4, dp_butAll ea3 B4 _ _ ?_ (dpAll_append (dp_sameAll S3 _ _ da) (.cons (.tup (SqT.of e3) (.cons (.str _) (.cons (dp_o _) (.cons (dp_o _) .nil)))) .nil)), by rw [List.length_append]; simp only [List.length_cons, List.length_nil]; omega⟩
              refine noLstAll_iff.mpr fun d hd => ?_
              rcases List.mem_append.mp hd with h | h
              · exact noLstAll_iff.mp nol d h
              · rw [List.mem_singleton.mp h]
                exact noLst_gap l r
            · intro N' tl c
              rw [show gapIn l r lo hi = false from c, if_neg Bool.false_ne_true, List.append_nil] at tl
              walk_at "gg"
              exact tl _ _ ⟨acc, rfl, S14, ea, da, by omega⟩
      · rintro σ H14 ⟨acc, v8, v9, v10, v11, rfl, S14, ea, da, la⟩
        have S714 := S712.trans S14
        have rl : (((ns.length + 2 : Nat) : Int) - 1).toNat = (rights ns).length := by rw [rights_len]; omega
        have S114 := S07.trans S714
        walk_at "gg"
        refine g_meth (S714 _ _ hp) (lf_no q (by decide)) ?_
        walk_at "gg"
        refine ⟨x2, ns, lo, hi, rfl, L7.same S714, le, hl, fun l15 acc5 H15 n15 S15 e15 d15 la15 => ?_⟩
        have fc := fine_cells up (fun n hn => ⟨by have := (hb n hn).1; omega, by have := (hb n hn).2; omega⟩) le inlo inhi
        have lc := dpAll_len d15
        walk_at "gg"
        refine g_repr (.lst (SqL.of e15) d15) fc (by decide) (by omega) ?_
        rw [rl, List.take_length] at da
        walk_at "gg"
        refine g_repr (.lst (SqL.of (S15 _ _ ea)) (dp_sameAll S15 _ _ da)) fc (by decide) (by omega) ?_
        walk_at "gg"
        refine g_ifF (by simp [cellsOf]) ?_
        walk_at "gg"
        exact ⟨_, _, _, _, _, _, _, _, rfl, (S712.trans S14).trans S15⟩
    · rintro σ H1 ⟨v4, v5, v6, v7, v8, v9, v10, v11, rfl, S1⟩
      walk_at "gg"
      refine g_prop (S1 _ _ hp) ⟨x2, _, rfl, L7.same S1, fun l H2 n2 S2 e2 => ?_⟩
      walk_at "gg"
      refine g_eqI (SqL.of e2) (SqL.of (S2 _ _ (S1 _ _ (S07 _ _ ha)))) ?_
      rw [decide_eq_true rfl]
      exact k H2 ((S07.trans S1).trans S2)
end
end Gk

namespace Gk
open PySem L2 Gx
open C8 (Cal Met Mak pe_c pe_mt pe_mt0 pe_mk pe_gc)
local macro_rules | `(tactic| walk_at "g") => `(tactic| (first
  | with_reducible refine g_seq ?_ | with_reducible refine g_asg ?_ | ((with_reducible show tVar _ _ _ _); refine g_var rfl ?_) | with_reducible refine g_c ?_ | with_reducible refine g_name ?_ | with_reducible refine g_op ?_ | with_reducible refine g_I0 ?_
  | with_reducible refine g_cons ?_ | with_reducible refine g_nil ?_ | with_reducible refine g_exbl ?_ | with_reducible refine g_exint ?_ | with_reducible refine g_test ?_ | with_reducible refine g_B ?_ | with_reducible refine g_ifS ?_ | with_reducible refine g_ret ?_ | with_reducible refine g_retN ?_ | with_reducible refine g_next ?_
  | with_reducible refine g_CB ?_ | with_reducible refine g_sub ?_ | with_reducible refine g_drop ?_ | with_reducible refine g_not ?_ | with_reducible refine g_and ?_ | with_reducible refine g_or ?_ | with_reducible refine g_andV ?_ | with_reducible refine g_orV ?_ | with_reducible refine g_notV ?_ | with_reducible refine g_ifE ?_ | with_reducible refine g_isN ?_
  | with_reducible refine g_par ?_ | with_reducible refine g_expar ?_ | with_reducible refine g_chain ?_ | with_reducible refine g_un ?_ | with_reducible refine g_U ?_ | with_reducible refine g_bits ?_ | ((with_reducible show rEq _ _ _ _); refine g_eq rfl ?_) | ((with_reducible show rNe _ _ _ _); refine g_ne rfl ?_)
  | with_reducible refine g_for ?_ | with_reducible refine g_iRng1 ?_ | with_reducible refine g_iRng2 ?_ | with_reducible refine g_iList ?_ | with_reducible refine g_iTup ?_
  | ((with_reducible refine g_Imul ?hc ?_); (case hc => (first | (refine Or.inl ⟨?_, ?_⟩ <;> first | decide | omega) | (refine Or.inr ⟨?_, ?_⟩ <;> first | decide | omega))))
  | ((with_reducible refine g_Idiv ?hc ?_); (case hc => (first | (exact ⟨by decide, by decide⟩) | assumption)))
  | ((with_reducible refine g_Imod ?hc ?_); (case hc => (first | assumption | omega | decide)))
  | ((with_reducible refine g_exR1 ?hlo ?hhi ?_); (case hlo => omega); (case hhi => omega))
  | ((with_reducible refine g_exR2 ?hb ?_); (case hb => omega))
  | with_reducible refine g_lst ?_ | with_reducible refine g_tup ?_ | with_reducible refine g_call ?_ | with_reducible refine g_BM ?_ | with_reducible refine g_BM0 ?_
  | with_reducible refine g_intB ?_ | with_reducible refine g_lc ?_ | with_reducible refine g_yes ?_ | with_reducible refine g_iZip ?_ | with_reducible refine g_sl ?_ | with_reducible refine g_noP ?_ | with_reducible refine g_part ?_ | with_reducible refine g_gcons ?_ | with_reducible refine g_gnil ?_
  | with_reducible refine g_tfld ?_ | with_reducible refine g_tmeth ?_ | with_reducible refine g_tmake ?_ | with_reducible refine g_sfld ?_ | with_reducible refine g_tprop ?_ | with_reducible refine g_tstar ?_ | with_reducible refine g_tmethK ?_ | with_reducible refine g_isN1 ?_ | with_reducible refine g_notN1 ?_))
local macro_rules | `(tactic| walk_at "gs1") => `(tactic| (first
  | with_reducible refine g_seq ?_ | with_reducible refine g_asg ?_ | ((with_reducible show tVar _ _ _ _); refine g_var rfl ?_) | with_reducible refine g_c ?_ | with_reducible refine g_name ?_ | with_reducible refine g_op ?_ | with_reducible refine g_I0 ?_
  | with_reducible refine g_cons ?_ | with_reducible refine g_nil ?_ | with_reducible refine g_exbl ?_ | with_reducible refine g_exint ?_ | with_reducible refine g_test ?_ | with_reducible refine g_B ?_ | with_reducible refine g_ifS ?_ | with_reducible refine g_retN ?_ | with_reducible refine g_next ?_
  | with_reducible refine g_CB ?_ | with_reducible refine g_sub ?_ | with_reducible refine g_drop ?_ | with_reducible refine g_not ?_ | with_reducible refine g_and ?_ | with_reducible refine g_or ?_ | with_reducible refine g_andV ?_ | with_reducible refine g_orV ?_ | with_reducible refine g_notV ?_ | with_reducible refine g_ifE ?_ | with_reducible refine g_isN ?_
  | with_reducible refine g_par ?_ | with_reducible refine g_expar ?_ | with_reducible refine g_chain ?_ | with_reducible refine g_un ?_ | with_reducible refine g_U ?_ | with_reducible refine g_bits ?_ | ((with_reducible show rEq _ _ _ _); refine g_eq rfl ?_) | ((with_reducible show rNe _ _ _ _); refine g_ne rfl ?_)
  | with_reducible refine g_for ?_ | with_reducible refine g_iRng1 ?_ | with_reducible refine g_iRng2 ?_ | with_reducible refine g_iList ?_ | with_reducible refine g_iTup ?_
  | ((with_reducible refine g_Imul ?hc ?_); (case hc => (first | (refine Or.inl ⟨?_, ?_⟩ <;> first | decide | omega) | (refine Or.inr ⟨?_, ?_⟩ <;> first | decide | omega))))
  | ((with_reducible refine g_Idiv ?hc ?_); (case hc => (first | (exact ⟨by decide, by decide⟩) | assumption)))
  | ((with_reducible refine g_Imod ?hc ?_); (case hc => (first | assumption | omega | decide)))
  | ((with_reducible refine g_exR1 ?hlo ?hhi ?_); (case hlo => omega); (case hhi => omega))
  | ((with_reducible refine g_exR2 ?hb ?_); (case hb => omega))
  | with_reducible refine g_lst ?_ | with_reducible refine g_tup ?_ | with_reducible refine g_call ?_ | with_reducible refine g_BM ?_ | with_reducible refine g_BM0 ?_
  | with_reducible refine g_intB ?_ | with_reducible refine g_lc ?_ | with_reducible refine g_yes ?_ | with_reducible refine g_iZip ?_ | with_reducible refine g_sl ?_ | with_reducible refine g_noP ?_ | with_reducible refine g_part ?_ | with_reducible refine g_gcons ?_ | with_reducible refine g_gnil ?_
  | with_reducible refine g_tfld ?_ | with_reducible refine g_tmeth ?_ | with_reducible refine g_tmake ?_ | with_reducible refine g_sfld ?_ | with_reducible refine g_tprop ?_ | with_reducible refine g_tstar ?_ | with_reducible refine g_tmethK ?_ | with_reducible refine g_isN1 ?_ | with_reducible refine g_notN1 ?_))
local macro_rules | `(tactic| walk_at "gx1") => `(tactic| (first
  | with_reducible refine g_seq ?_ | with_reducible refine g_asg ?_ | ((with_reducible show tVar _ _ _ _); refine g_var rfl ?_) | with_reducible refine g_c ?_ | with_reducible refine g_name ?_ | with_reducible refine g_op ?_ | with_reducible refine g_I0 ?_
  | with_reducible refine g_cons ?_ | with_reducible refine g_nil ?_ | with_reducible refine g_exbl ?_ | with_reducible refine g_exint ?_ | with_reducible refine g_test ?_ | with_reducible refine g_B ?_ | with_reducible refine g_ifS ?_ | with_reducible refine g_retN ?_ | with_reducible refine g_next ?_
  | with_reducible refine g_CB ?_ | with_reducible refine g_sub ?_ | with_reducible refine g_drop ?_ | with_reducible refine g_not ?_ | with_reducible refine g_and ?_ | with_reducible refine g_or ?_ | with_reducible refine g_andV ?_ | with_reducible refine g_orV ?_ | with_reducible refine g_notV ?_ | with_reducible refine g_ret ?_ | with_reducible refine g_isN ?_
  | with_reducible refine g_par ?_ | with_reducible refine g_expar ?_ | with_reducible refine g_chain ?_ | with_reducible refine g_un ?_ | with_reducible refine g_U ?_ | with_reducible refine g_bits ?_ | ((with_reducible show rEq _ _ _ _); refine g_eq rfl ?_) | ((with_reducible show rNe _ _ _ _); refine g_ne rfl ?_)
  | with_reducible refine g_for ?_ | with_reducible refine g_iRng1 ?_ | with_reducible refine g_iRng2 ?_ | with_reducible refine g_iList ?_ | with_reducible refine g_iTup ?_
  | ((with_reducible refine g_Imul ?hc ?_); (case hc => (first | (refine Or.inl ⟨?_, ?_⟩ <;> first | decide | omega) | (refine Or.inr ⟨?_, ?_⟩ <;> first | decide | omega))))
  | ((with_reducible refine g_Idiv ?hc ?_); (case hc => (first | (exact ⟨by decide, by decide⟩) | assumption)))
  | ((with_reducible refine g_Imod ?hc ?_); (case hc => (first | assumption | omega | decide)))
  | ((with_reducible refine g_exR1 ?hlo ?hhi ?_); (case hlo => omega); (case hhi => omega))
  | ((with_reducible refine g_exR2 ?hb ?_); (case hb => omega))
  | with_reducible refine g_lst ?_ | with_reducible refine g_tup ?_ | with_reducible refine g_call ?_ | with_reducible refine g_BM ?_ | with_reducible refine g_BM0 ?_
  | with_reducible refine g_intB ?_ | with_reducible refine g_lc ?_ | with_reducible refine g_yes ?_ | with_reducible refine g_iZip ?_ | with_reducible refine g_sl ?_ | with_reducible refine g_noP ?_ | with_reducible refine g_part ?_ | with_reducible refine g_gcons ?_ | with_reducible refine g_gnil ?_
  | with_reducible refine g_tfld ?_ | with_reducible refine g_tmeth ?_ | with_reducible refine g_tmake ?_ | with_reducible refine g_sfld ?_ | with_reducible refine g_tprop ?_ | with_reducible refine g_tstar ?_ | with_reducible refine g_tmethK ?_ | with_reducible refine g_isN1 ?_ | with_reducible refine g_notN1 ?_))
local macro_rules | `(tactic| walk_at "hp") => `(tactic| (first | assumption | exact upd_same | (refine same_get (by assumption) ?_; walk_at "hp")))
local macro_rules | `(tactic| walk_at "sm") => `(tactic| (first | assumption | exact Same.refl _ | (refine Same.trans ?ha (by assumption); walk_at "sm")))
local macro_rules | `(tactic| walk_at "nn") => `(tactic| (first | assumption | (refine same_free (by assumption) ?_; walk_at "nn")))
local macro_rules | `(tactic| walk_at "sb") => `(tactic| (first | decide | (refine small_bits ?_ ?_ <;> omega)))
local macro_rules | `(tactic| walk_at "ln") => `(tactic| (simp only [List.length_cons, List.length_nil]; omega))
local macro_rules | `(tactic| walk_at "gg") => `(tactic| (repeat walk_at "g"))
local macro_rules | `(tactic| walk_at "gs") => `(tactic| (repeat walk_at "gs1"))
local macro_rules | `(tactic| walk_at "gx") => `(tactic| (repeat walk_at "gx1"))

section
variable {P : Program} {w : World} {K : PySem.W.Frag} {mg : Str → Option Value} {base : Heap} {X : Cx}
theorem fnG_or {f : Addr} {fd : FuncData} {k : Nat} {ps : List Str} {sp1 sp2 : Sp} (F1 : FnG P w K mg base k f fd ps sp1) (F2 : FnG P w K mg base k f fd ps sp2) : FnG P w K mg base k f fd ps fun vs H Q E => sp1 vs H Q E ∨ sp2 vs H Q E := by
  refine ⟨fun vs H Q E h => ?_, fun A outer s H args us vs Q E gd hr e0 hb hv h => ?_⟩
  · rcases h with h | h
    · exact F1.size _ _ _ _ h
    · exact F2.size _ _ _ _ h
  · rcases h with h | h
    · exact F1.goes A outer s H args us vs Q E gd hr e0 hb hv h
    · exact F2.goes A outer s H args us vs Q E gd hr e0 hb hv h
def spTwo (CL CK : Addr) : Sp := fun vs H Q E => spRight CL vs H Q E ∨ spRight CK vs H Q E
theorem two_of {CL CK p a : Addr} {ns : List Int} {H : Hp} {Q : VK} {E : XK} (l : LineAt CL H p (ns.map V.int) ∨ LineAt CK H p (ns.map V.int)) (ha : H a = some (.lst (ns.map V.int))) (hl : ns.length ≤ 500) (up : ns.Pairwise (· < ·)) (hb : ∀ n ∈ ns, In80 n) (k : ∀ H', Same H H' → Q (.bl true) H') : spTwo CL CK [.ref p, .ref a] H Q E := by
  rcases l with l | l
  · exact .inl ⟨p, a, ns, rfl, l, ha, hl, up, hb, k⟩
  · exact .inr ⟨p, a, ns, rfl, l, ha, hl, up, hb, k⟩
def spLaw (K : PySem.W.Frag) : Sp := fun vs H Q _ => ∃ (a : Addr) (ns : List Int), vs = [.ref a] ∧ SqL K H a (ns.map V.int) ∧ ∀ H', Same H H' → Q (.bl true) H'
abbrev s_law : Stmt := top 21
abbrev N_law : List Str := ["_law_script", "_law_k", "_law_flow_here", "_law_rows", "_law_due_here", "_law_told"]
theorem sc_law : FnScope N_law ["_law_script"] (defScope s_law) := ⟨rfl, rfl, rfl, by decide +kernel, rfl, by decide +kernel, by decide +kernel⟩

theorem ok_law {f CL CK : Addr} {fd : FuncData} (D : Dn K mg "law" s_law ["_law_script"] f fd) (T : Bt mg) (m_Line : Mak P w K mg base 3 "Line" CL (spInitI K CL) []) (m_KeyLine : Mak P w K mg base 3 "KeyLine" CK (spInitI K CK) [])
    (d_cells_in : Met P w K mg base 2 CK "cells_in" (spCells K CK) []) (e_cells_in : Met P w K mg base 2 CL "cells_in" (spCells K CL) [])
    (c__law_dip : Cal P w K mg base 1 "_law_dip" spDip []) (c__law_flow : Cal P w K mg base 1 "_law_flow" (spFlow K) []) (c__law_few : Cal P w K mg base 2 "_law_few" spFew []) (c__law_spots : Cal P w K mg base 2 "_law_spots" spSpots []) (c__law_lines : Cal P w K mg base 5 "_law_lines" (spLines CL CK) [])
    (c__law_right : CalG P w K mg base 3 "_law_right" (spTwo CL CK)) (c__law_great_right : CalG P w K mg base 5 "_law_great_right" spGreat) : FnG P w K mg base 6 f fd ["_law_script"] (spLaw K) := by
  refine fnG_of D.fn sc_law (fun vs H Q E h => ?_) (fun cdv A outer s H vs Q E gd hr h => ?_)
  · obtain ⟨a, ns, rfl, _⟩ := h
    rfl
  · obtain ⟨a, ns, rfl, ha, k⟩ := h
    refine ⟨_, (pss_cons (ps_for PassesOwn.never rfl (pi_range1 (by rfl) T.n_range (pa_cons (pe_callB (cr_maxQ rfl) (by rfl) T.n_max bt_max (pa_cons pe_int (pa_cons (pe_callB (cr_minQ rfl) (by rfl) T.n_min bt_min (pa_cons pe_int (pa_cons (pe_callB cr_lenQ (by rfl) T.n_len bt_len (pa_cons (pv 0) pa_nil)) pa_nil))) pa_nil))) pa_nil)) (pg_name (i := 1) sc_law.nd rfl (Or.inl rfl)) (pss_cons (ps_set (i := 2) sc_law.nd rfl (Or.inl rfl) (pe_c c__law_flow hr (by decide) (by rfl) (pa_cons (pv 0) (pa_cons (pv 1) pa_nil))))
    (pss_cons (ps_set (i := 3) sc_law.nd rfl (Or.inl rfl) (pe_c c__law_few hr (by decide) (by rfl) (pa_cons (pv 2) pa_nil)))
    (pss_cons (ps_if (pt_not (pt_val (pe_cG c__law_right gd hr (by decide) (by rfl) (pa_cons (pe_ix ix_list (pe_c c__law_lines hr (by decide) (by rfl) (pa_cons (pv 3) pa_nil)) (pe_c c__law_dip hr (by decide) (by rfl) (pa_cons (pv 2) (pa_cons pe_int pa_nil))) (fun _ _ => rfl)) (pa_cons (pv 3) pa_nil))))) (pss_one (ps_ret pe_bl)) pss_nil)
    (pss_one (ps_if (pt_not (pt_val (pe_cG c__law_great_right gd hr (by decide) (by rfl) (pa_cons (pv 2) (pa_cons (pe_c c__law_spots hr (by decide) (by rfl) (pa_cons (pv 2) (pa_cons (pe_ix ix_list (pe_lst (pa_cons pe_int (pa_cons pe_int pa_nil))) (pe_callTy cr_intQ (by rfl) T.n_int bt_int (pa_cons (pe_cmpR op_gt (pv 1) pe_int (nomark _)) pa_nil)) (fun _ _ => rfl)) pa_nil))) pa_nil))))) (pss_one (ps_ret pe_bl)) pss_nil))))))
    (pss_cons (ps_set (i := 4) sc_law.nd rfl (Or.inl rfl) (pe_lst (pa_cons (pe_tup (pa_cons pe_str (pa_cons pe_non (pa_cons pe_int pa_nil)))) (pa_cons (pe_tup (pa_cons pe_str (pa_cons pe_int pa_nil))) (pa_cons (pe_tup (pa_cons pe_str (pa_cons pe_int pa_nil))) (pa_cons (pe_tup (pa_cons pe_str (pa_cons pe_int (pa_cons pe_int pa_nil)))) pa_nil))))))
    (pss_cons (ps_set (i := 5) sc_law.nd rfl (Or.inl rfl) (pe_mt d_cells_in hr (by decide) (pe_mk m_KeyLine hr (by decide) (by rfl) (pa_cons (pe_lst (pa_cons pe_int (pa_cons pe_int (pa_cons pe_int pa_nil)))) pa_nil)) (pa_cons pe_int (pa_cons pe_int pa_nil))))
    (pss_cons (ps_if (PW.pt (pw_or (pt_cmpR (op_neD hr.units) (pv 5) (pv 4) (nomark _)) (pw_or1 (pt_cmpR (op_neD hr.units) (pe_mt d_cells_in hr (by decide) (pe_mk m_KeyLine hr (by decide) (by rfl) (pa_cons (pe_lst (pa_cons pe_int (pa_cons pe_int pa_nil))) pa_nil)) (pa_cons pe_int (pa_cons pe_int pa_nil))) (pe_slice sl_list (pv 4) (po_some pe_int) (po_some pe_int)) (nomark _))))) (pss_one (ps_ret pe_bl)) pss_nil)
    (pss_one (ps_ret (pe_cmpR (op_eqD hr.units) (pe_mt e_cells_in hr (by decide) (pe_mk m_Line hr (by decide) (by rfl) (pa_cons (pe_lst pa_nil) pa_nil)) (pa_cons pe_int (pa_cons pe_int pa_nil))) (pe_lst (pa_cons (pe_tup (pa_cons pe_str (pa_cons pe_non (pa_cons pe_non pa_nil)))) pa_nil)) (nomark _)))))))), ?_⟩
    walk_at "gg"
    refine g_len ha ?_
    walk_at "gg"
    refine g_min2 fun m _ m3 _ => ?_
    walk_at "gg"
    refine g_max2 fun n n1 _ n2 => ?_
    walk_at "gg"
    refine fw_range (fun i σ H' => ∃ (v1 v2 v3 v4 v5 : Option V), σ = [some (.ref a), v1, v2, v3, v4, v5] ∧ Same H H') ⟨none, none, none, none, none, rfl, Same.refl _⟩ ?_ ?_
    · rintro i σ H1 hi ⟨v1, v2, v3, v4, v5, rfl, S1⟩
      generalize hj : (0 + (i : Int)) = j
      walk_at "gg"
      refine ⟨a, ns, j, rfl, same_sq S1 ha, by omega, fun f H2 f2 S2 ef => ?_⟩
      walk_at "gg"
      refine ⟨f, rfl, ef, fun rs b H3 rl up rb n3 S3 eb => ?_⟩
      walk_at "gg"
      refine ⟨b, rs, rfl, eb, by omega, up, fun l p1 p2 H4 n4 S4 e4 A1 A2 => ?_⟩
      walk_at "gg"
      refine ⟨f, 2, rfl, S4 _ _ (S3 _ _ ef), by decide, by decide, fun r H5 r0 r1 S5 => ?_⟩
      walk_at "gg"
      refine g_ixP (fun v => ∃ p, v = .ref p ∧ (LineAt CL H5 p (rs.map V.int) ∨ LineAt CK H5 p (rs.map V.int))) (S5 _ _ e4) r0 (by simpa using r1) (all_cons ⟨_, rfl, .inl (A1.same S5)⟩ (all_cons ⟨_, rfl, .inr (A2.same S5)⟩ all_nil)) ?_
      rintro _ ⟨p, rfl, lp⟩
      walk_at "gg"
      refine two_of lp (S5 _ _ (S4 _ _ eb)) (by omega) up (fun n hn => ⟨by have := (rb n hn).1; omega, by have := (rb n hn).2; omega⟩) fun H6 S6 => ?_
      walk_at "gg"
      refine g_ifF rfl ?_
      walk_at "gg"
      refine g_mkL (by walk_at "ln") fun l7 H7 n7 S7 e7 => ?_
      walk_at "gg"
      have z01 : 0 ≤ (if decide (0 < j) = true then (1 : Int) else 0) ∧ (if decide (0 < j) = true then (1 : Int) else 0) < 2 := by split <;> decide
      refine g_ixP (fun v => ∃ m : Int, v = .int m ∧ 0 ≤ m ∧ m ≤ 500) e7 z01.1 z01.2 (all_cons ⟨500, rfl, by decide, by decide⟩ (all_cons ⟨60, rfl, by decide, by decide⟩ all_nil)) ?_
      rintro _ ⟨m, rfl, m0, m5⟩
      walk_at "gg"
      have S27 := (((S3.trans S4).trans S5).trans S6).trans S7
      refine ⟨f, m, rfl, S27 _ _ ef, m0, by omega, fun qs q H8 ql uq qb n8 S8 e8 => ?_⟩
      walk_at "gg"
      refine ⟨f, q, qs, rfl, S8 _ _ (S27 _ _ ef), e8, by omega, uq, qb, fun H9 S9 => ?_⟩
      walk_at "gg"
      refine g_ifF rfl ?_
      walk_at "gg"
      exact ⟨_, _, _, _, _, rfl, (((S1.trans S2).trans S27).trans S8).trans S9⟩
    · rintro σ H1 ⟨v1, v2, v3, v4, v5, rfl, S1⟩
      walk_at "gg"
      refine g_mkT (by walk_at "ln") fun t1 H2 m2 S2 e2 => ?_
      walk_at "gg"
      refine g_mkT (by walk_at "ln") fun t2 H3 m3 S3 e3 => ?_
      walk_at "gg"
      refine g_mkT (by walk_at "ln") fun t3 H4 m4 S4 e4 => ?_
      walk_at "gg"
      refine g_mkT (by walk_at "ln") fun t4 H5 m5 S5 e5 => ?_
      walk_at "gg"
      refine g_mkL (by walk_at "ln") fun l6 H6 m6 S6 e6 => ?_
      walk_at "gg"
      refine g_mkL (by walk_at "ln") fun l7 H7 m7 S7 e7 => ?_
      walk_at "gg"
      refine g_make fun x8 d8 H8 n8 S8 e8 => ?_
      refine ⟨x8, l7, d8, [4, 5, 9], rfl, e8, S8 _ _ e7, by decide, by decide, fun H9 L9 B9 => ⟨rfl, ?_⟩⟩
      have S79 : Same H7 H9 := same_but S8 n8 B9
      obtain ⟨d9, q9, hp9, hq9⟩ := id L9
      refine g_meth hp9 (lf_no q9 (by decide)) ?_
      walk_at "gg"
      refine ⟨x8, [4, 5, 9], 3, 7, rfl, L9, by decide, by decide, fun l10 acc10 H10 n10 S10 e10 d10 la10 => ?_⟩
      have S5a : Same H5 H10 := ((S6.trans S7).trans S79).trans S10
      have S6a : Same H6 H10 := (S7.trans S79).trans S10
      have g1 : Dp K H10 (.ref t1) (gapD none (some 4)) := .tup (SqT.of (S5a _ _ (S5 _ _ (S4 _ _ (S3 _ _ e2))))) (.cons (.str _) (.cons .non (.cons (.int 4) .nil)))
      have g2 : Dp K H10 (.ref t2) (pointD 4) := .tup (SqT.of (S5a _ _ (S5 _ _ (S4 _ _ e3)))) (.cons (.str _) (.cons (.int 4) .nil))
      have g3 : Dp K H10 (.ref t3) (pointD 5) := .tup (SqT.of (S5a _ _ (S5 _ _ e4))) (.cons (.str _) (.cons (.int 5) .nil))
      have g4 : Dp K H10 (.ref t4) (gapD (some 5) (some 9)) := .tup (SqT.of (S5a _ _ e5)) (.cons (.str _) (.cons (.int 5) (.cons (.int 9) .nil)))
      have dd : DpAll K H10 [.ref t1, .ref t2, .ref t3, .ref t4] [gapD none (some 4), pointD 4, pointD 5, gapD (some 5) (some 9)] := .cons g1 (.cons g2 (.cons g3 (.cons g4 .nil)))
      have c1 : cellsOf [4, 5, 9] 3 7 = [gapD none (some 4), pointD 4, pointD 5, gapD (some 5) (some 9)] := rfl
      have c2 : cellsOf [4, 5] 4 5 = [pointD 4, pointD 5] := rfl
      have c3 : cellsOf [] 0 0 = [gapD none none] := rfl
      have sh1 : SeqAt.shaped (.list [gapD none (some 4), pointD 4, pointD 5, gapD (some 5) (some 9)]) = true := by decide +kernel
      have sh2 : SeqAt.shaped (.list [pointD 4, pointD 5]) = true := by decide +kernel
      have sh3 : SeqAt.shaped (.list [gapD none none]) = true := by decide +kernel
      rw [c1] at d10
      walk_at "gg"
      refine g_neD (.lst (SqL.of e10) d10) (.lst (SqL.of (S6a _ _ e6)) dd) sh1 sh1 ?_
      rw [SeqAt.eqv_refl _ (SeqAt.canLay_of_shaped sh1)]
      walk_at "gg"
      refine g_ifF rfl ?_
      walk_at "gg"
      refine g_mkL (by walk_at "ln") fun l11 H11 n11 S11 e11 => ?_
      walk_at "gg"
      refine g_make fun x12 d12 H12 n12 S12 e12 => ?_
      refine ⟨x12, l11, d12, [4, 5], rfl, e12, S12 _ _ e11, by decide, by decide, fun H13 L13 B13 => ⟨rfl, ?_⟩⟩
      have S1113 : Same H11 H13 := same_but S12 n12 B13
      obtain ⟨d13, q13, hp13, hq13⟩ := id L13
      refine g_meth hp13 (lf_no q13 (by decide)) ?_
      walk_at "gg"
      refine ⟨x12, [4, 5], 4, 5, rfl, L13, by decide, by decide, fun l14 acc14 H14 n14 S14 e14 d14 la14 => ?_⟩
      rw [c2] at d14
      walk_at "gg"
      have S1014 : Same H10 H14 := (S11.trans S1113).trans S14
      refine g_slL (SqL.of (S1014 _ _ (S6a _ _ e6))) fun l15 H15 n15 S15 e15 => ?_
      walk_at "gg"
      have dd2 : DpAll K H10 [.ref t2, .ref t3] [pointD 4, pointD 5] := .cons g2 (.cons g3 .nil)
      refine g_neD (.lst (SqL.of (S15 _ _ e14)) (dp_sameAll S15 _ _ d14)) (.lst (SqL.of e15) (dp_sameAll (S1014.trans S15) _ _ dd2)) sh2 sh2 ?_
      rw [SeqAt.eqv_refl _ (SeqAt.canLay_of_shaped sh2)]
      walk_at "gg"
      refine g_ifF rfl ?_
      walk_at "gg"
      refine g_mkL (by walk_at "ln") fun l16 H16 n16 S16 e16 => ?_
      walk_at "gg"
      refine g_make fun x17 d17 H17 n17 S17 e17 => ?_
      refine ⟨x17, l16, d17, [], rfl, e17, S17 _ _ e16, by decide, by decide, fun H18 L18 B18 => ⟨rfl, ?_⟩⟩
      have S1618 : Same H16 H18 := same_but S17 n17 B18
      obtain ⟨d18, q18, hp18, hq18⟩ := id L18
      refine g_meth hp18 (lf_no q18 (by decide)) ?_
      walk_at "gg"
      refine ⟨x17, [], 0, 0, rfl, L18, by decide, by decide, fun l19 acc19 H19 n19 S19 e19 d19 la19 => ?_⟩
      rw [c3] at d19
      walk_at "gg"
      refine g_mkT (by walk_at "ln") fun t20 H20 n20 S20 e20 => ?_
      walk_at "gg"
      refine g_mkL (by walk_at "ln") fun l21 H21 n21 S21 e21 => ?_
      refine g_eqD (.lst (SqL.of ((S20.trans S21) _ _ e19)) (dp_sameAll (S20.trans S21) _ _ d19)) (.lst (SqL.of e21) (.cons (.tup (SqT.of (S21 _ _ e20)) (.cons (.str _) (.cons .non (.cons .non .nil)))) .nil)) sh3 sh3 ?_
      show Q (.bl (PyData.eqv (.list [gapD none none]) (.list [gapD none none]))) H21
      rw [SeqAt.eqv_refl _ (SeqAt.canLay_of_shaped sh3)]
      have S15' : Same H H5 := (((S1.trans S2).trans S3).trans S4).trans S5
      exact k H21 ((((((((S15'.trans S5a).trans S1014).trans S15).trans S16).trans S1618).trans S19).trans S20).trans S21)
end
end Gk

namespace Gk
open PySem L2 Gx PySem.Spec PyProof.Rows
open C8 (Cal Met Mak pe_c pe_mt pe_mt0 pe_mk pe_gc)
theorem all_mk {l : PySem.W.OpenLaw} {w : World} {K : PySem.W.Frag} {h : Heap} {mg : Str → Option Value} {fa C_Found C_Line C_KeyLine f_law f_flow f_dip f_lines f_few f_spots f_near f_due f_right f_great_right f_is_whole_number f_Line_init f_Line_is_point f_Line_has_between f_Line_is_ahead f_Line_is_beyond f_Line_cells_in f_Line_points p_Line_points p_KeyLine_points : Addr} (X : K.In h) (G : h.Ns mainGlobals mg) (hfa : mg "law" = some (.ref fa))
    {od_law an_law od_flow an_flow od_dip an_dip od_lines an_lines od_few an_few od_spots an_spots od_near an_near od_due an_due od_right an_right od_great_right an_great_right od_is_whole_number an_is_whole_number od_Line_init an_Line_init od_Line_is_point an_Line_is_point od_Line_has_between an_Line_has_between od_Line_is_ahead an_Line_is_ahead od_Line_is_beyond an_Line_is_beyond od_Line_cells_in an_Line_cells_in od_Line_points an_Line_points : Option Addr} {sl_law sl_flow sl_dip sl_lines sl_few sl_spots sl_near sl_due sl_right sl_great_right sl_is_whole_number sl_Line_init sl_Line_is_point sl_Line_has_between sl_Line_is_ahead sl_Line_is_beyond sl_Line_cells_in sl_Line_points : Array (Option Value)} {oc_law kV_law dc_law pm_law cd_law ct_law oc_flow kV_flow dc_flow pm_flow cd_flow ct_flow oc_dip kV_dip dc_dip pm_dip cd_dip ct_dip oc_lines kV_lines dc_lines pm_lines cd_lines ct_lines oc_few kV_few dc_few pm_few cd_few ct_few oc_spots kV_spots dc_spots pm_spots cd_spots ct_spots oc_near kV_near dc_near pm_near cd_near ct_near oc_due kV_due dc_due pm_due cd_due ct_due oc_right kV_right dc_right pm_right cd_right ct_right oc_great_right kV_great_right dc_great_right pm_great_right cd_great_right ct_great_right oc_is_whole_number kV_is_whole_number dc_is_whole_number pm_is_whole_number cd_is_whole_number ct_is_whole_number oc_Line_init kV_Line_init dc_Line_init pm_Line_init cd_Line_init ct_Line_init oc_Line_is_point kV_Line_is_point dc_Line_is_point pm_Line_is_point cd_Line_is_point ct_Line_is_point oc_Line_has_between kV_Line_has_between dc_Line_has_between pm_Line_has_between cd_Line_has_between ct_Line_has_between oc_Line_is_ahead kV_Line_is_ahead dc_Line_is_ahead pm_Line_is_ahead cd_Line_is_ahead ct_Line_is_ahead oc_Line_is_beyond kV_Line_is_beyond dc_Line_is_beyond pm_Line_is_beyond cd_Line_is_beyond ct_Line_is_beyond oc_Line_cells_in kV_Line_cells_in dc_Line_cells_in pm_Line_cells_in cd_Line_cells_in ct_Line_cells_in oc_Line_points kV_Line_points dc_Line_points pm_Line_points cd_Line_points ct_Line_points : Value} {r_Line_points r_KeyLine_points : List Value} {tk_MOST_POINTS : Tok}
    (aC_Found : PySem.W.nsIn K mainGlobals "Found" = some (some (.ref C_Found)))
    (aC_Line : PySem.W.nsIn K mainGlobals "Line" = some (some (.ref C_Line)))
    (aC_KeyLine : PySem.W.nsIn K mainGlobals "KeyLine" = some (some (.ref C_KeyLine)))
    (a_law : PySem.W.nsIn K mainGlobals "law" = some (some (.ref f_law)))
    (l_law : K.lookup f_law = some ⟨oc_law, od_law, .func (PySem.W.fnOf "law" "law" (defArgs s_law) (defBody s_law) (defScope s_law) .none kV_law dc_law pm_law an_law cd_law ct_law), sl_law⟩)
    (c_law : PySem.W.codeIn K cd_law "law" = true)
    (k_law : PySem.W.keepIn K (.ref f_law) = true)
    (a_flow : PySem.W.nsIn K mainGlobals "_law_flow" = some (some (.ref f_flow)))
    (l_flow : K.lookup f_flow = some ⟨oc_flow, od_flow, .func (PySem.W.fnOf "_law_flow" "_law_flow" (defArgs s_flow) (defBody s_flow) (defScope s_flow) .none kV_flow dc_flow pm_flow an_flow cd_flow ct_flow), sl_flow⟩)
    (c_flow : PySem.W.codeIn K cd_flow "_law_flow" = true)
    (k_flow : PySem.W.keepIn K (.ref f_flow) = true)
    (a_dip : PySem.W.nsIn K mainGlobals "_law_dip" = some (some (.ref f_dip)))
    (l_dip : K.lookup f_dip = some ⟨oc_dip, od_dip, .func (PySem.W.fnOf "_law_dip" "_law_dip" (defArgs s_dip) (defBody s_dip) (defScope s_dip) .none kV_dip dc_dip pm_dip an_dip cd_dip ct_dip), sl_dip⟩)
    (c_dip : PySem.W.codeIn K cd_dip "_law_dip" = true)
    (k_dip : PySem.W.keepIn K (.ref f_dip) = true)
    (a_lines : PySem.W.nsIn K mainGlobals "_law_lines" = some (some (.ref f_lines)))
    (l_lines : K.lookup f_lines = some ⟨oc_lines, od_lines, .func (PySem.W.fnOf "_law_lines" "_law_lines" (defArgs s_lines) (defBody s_lines) (defScope s_lines) .none kV_lines dc_lines pm_lines an_lines cd_lines ct_lines), sl_lines⟩)
    (c_lines : PySem.W.codeIn K cd_lines "_law_lines" = true)
    (k_lines : PySem.W.keepIn K (.ref f_lines) = true)
    (a_few : PySem.W.nsIn K mainGlobals "_law_few" = some (some (.ref f_few)))
    (l_few : K.lookup f_few = some ⟨oc_few, od_few, .func (PySem.W.fnOf "_law_few" "_law_few" (defArgs s_few) (defBody s_few) (defScope s_few) .none kV_few dc_few pm_few an_few cd_few ct_few), sl_few⟩)
    (c_few : PySem.W.codeIn K cd_few "_law_few" = true)
    (k_few : PySem.W.keepIn K (.ref f_few) = true)
    (a_spots : PySem.W.nsIn K mainGlobals "_law_spots" = some (some (.ref f_spots)))
    (l_spots : K.lookup f_spots = some ⟨oc_spots, od_spots, .func (PySem.W.fnOf "_law_spots" "_law_spots" (defArgs s_spots) (defBody s_spots) (defScope s_spots) .none kV_spots dc_spots pm_spots an_spots cd_spots ct_spots), sl_spots⟩)
    (c_spots : PySem.W.codeIn K cd_spots "_law_spots" = true)
    (k_spots : PySem.W.keepIn K (.ref f_spots) = true)
    (a_near : PySem.W.nsIn K mainGlobals "_law_near" = some (some (.ref f_near)))
    (l_near : K.lookup f_near = some ⟨oc_near, od_near, .func (PySem.W.fnOf "_law_near" "_law_near" (defArgs s_near) (defBody s_near) (defScope s_near) .none kV_near dc_near pm_near an_near cd_near ct_near), sl_near⟩)
    (c_near : PySem.W.codeIn K cd_near "_law_near" = true)
    (k_near : PySem.W.keepIn K (.ref f_near) = true)
    (a_due : PySem.W.nsIn K mainGlobals "_law_due" = some (some (.ref f_due)))
    (l_due : K.lookup f_due = some ⟨oc_due, od_due, .func (PySem.W.fnOf "_law_due" "_law_due" (defArgs s_due) (defBody s_due) (defScope s_due) .none kV_due dc_due pm_due an_due cd_due ct_due), sl_due⟩)
    (c_due : PySem.W.codeIn K cd_due "_law_due" = true)
    (k_due : PySem.W.keepIn K (.ref f_due) = true)
    (a_right : PySem.W.nsIn K mainGlobals "_law_right" = some (some (.ref f_right)))
    (l_right : K.lookup f_right = some ⟨oc_right, od_right, .func (PySem.W.fnOf "_law_right" "_law_right" (defArgs s_right) (defBody s_right) (defScope s_right) .none kV_right dc_right pm_right an_right cd_right ct_right), sl_right⟩)
    (c_right : PySem.W.codeIn K cd_right "_law_right" = true)
    (k_right : PySem.W.keepIn K (.ref f_right) = true)
    (a_great_right : PySem.W.nsIn K mainGlobals "_law_great_right" = some (some (.ref f_great_right)))
    (l_great_right : K.lookup f_great_right = some ⟨oc_great_right, od_great_right, .func (PySem.W.fnOf "_law_great_right" "_law_great_right" (defArgs s_great_right) (defBody s_great_right) (defScope s_great_right) .none kV_great_right dc_great_right pm_great_right an_great_right cd_great_right ct_great_right), sl_great_right⟩)
    (c_great_right : PySem.W.codeIn K cd_great_right "_law_great_right" = true)
    (k_great_right : PySem.W.keepIn K (.ref f_great_right) = true)
    (a_is_whole_number : PySem.W.nsIn K mainGlobals "is_whole_number" = some (some (.ref f_is_whole_number)))
    (l_is_whole_number : K.lookup f_is_whole_number = some ⟨oc_is_whole_number, od_is_whole_number, .func (PySem.W.fnOf "is_whole_number" "is_whole_number" (defArgs s_is_whole_number) (defBody s_is_whole_number) (defScope s_is_whole_number) .none kV_is_whole_number dc_is_whole_number pm_is_whole_number an_is_whole_number cd_is_whole_number ct_is_whole_number), sl_is_whole_number⟩)
    (c_is_whole_number : PySem.W.codeIn K cd_is_whole_number "is_whole_number" = true)
    (k_is_whole_number : PySem.W.keepIn K (.ref f_is_whole_number) = true)
    (a_Line_init : PySem.W.findIn K (.ref C_Line) "__init__" = some (some (.ref f_Line_init)))
    (i_Line_init : PySem.W.isFn K (.ref f_Line_init) = true)
    (l_Line_init : K.lookup f_Line_init = some ⟨oc_Line_init, od_Line_init, .func (PySem.W.fnOf "__init__" "Line.__init__" (defArgs s_Line_init) (defBody s_Line_init) (defScope s_Line_init) .none kV_Line_init dc_Line_init pm_Line_init an_Line_init cd_Line_init ct_Line_init), sl_Line_init⟩)
    (c_Line_init : PySem.W.codeIn K cd_Line_init "Line.__init__" = true)
    (k_Line_init : PySem.W.keepIn K (.ref f_Line_init) = true)
    (a_Line_is_point : PySem.W.findIn K (.ref C_Line) "is_point" = some (some (.ref f_Line_is_point)))
    (i_Line_is_point : PySem.W.isFn K (.ref f_Line_is_point) = true)
    (l_Line_is_point : K.lookup f_Line_is_point = some ⟨oc_Line_is_point, od_Line_is_point, .func (PySem.W.fnOf "is_point" "Line.is_point" (defArgs s_Line_is_point) (defBody s_Line_is_point) (defScope s_Line_is_point) .none kV_Line_is_point dc_Line_is_point pm_Line_is_point an_Line_is_point cd_Line_is_point ct_Line_is_point), sl_Line_is_point⟩)
    (c_Line_is_point : PySem.W.codeIn K cd_Line_is_point "Line.is_point" = true)
    (k_Line_is_point : PySem.W.keepIn K (.ref f_Line_is_point) = true)
    (a_Line_has_between : PySem.W.findIn K (.ref C_Line) "has_between" = some (some (.ref f_Line_has_between)))
    (i_Line_has_between : PySem.W.isFn K (.ref f_Line_has_between) = true)
    (l_Line_has_between : K.lookup f_Line_has_between = some ⟨oc_Line_has_between, od_Line_has_between, .func (PySem.W.fnOf "has_between" "Line.has_between" (defArgs s_Line_has_between) (defBody s_Line_has_between) (defScope s_Line_has_between) .none kV_Line_has_between dc_Line_has_between pm_Line_has_between an_Line_has_between cd_Line_has_between ct_Line_has_between), sl_Line_has_between⟩)
    (c_Line_has_between : PySem.W.codeIn K cd_Line_has_between "Line.has_between" = true)
    (k_Line_has_between : PySem.W.keepIn K (.ref f_Line_has_between) = true)
    (a_Line_is_ahead : PySem.W.findIn K (.ref C_Line) "is_ahead" = some (some (.ref f_Line_is_ahead)))
    (i_Line_is_ahead : PySem.W.isFn K (.ref f_Line_is_ahead) = true)
    (l_Line_is_ahead : K.lookup f_Line_is_ahead = some ⟨oc_Line_is_ahead, od_Line_is_ahead, .func (PySem.W.fnOf "is_ahead" "Line.is_ahead" (defArgs s_Line_is_ahead) (defBody s_Line_is_ahead) (defScope s_Line_is_ahead) .none kV_Line_is_ahead dc_Line_is_ahead pm_Line_is_ahead an_Line_is_ahead cd_Line_is_ahead ct_Line_is_ahead), sl_Line_is_ahead⟩)
    (c_Line_is_ahead : PySem.W.codeIn K cd_Line_is_ahead "Line.is_ahead" = true)
    (k_Line_is_ahead : PySem.W.keepIn K (.ref f_Line_is_ahead) = true)
    (a_Line_is_beyond : PySem.W.findIn K (.ref C_Line) "is_beyond" = some (some (.ref f_Line_is_beyond)))
    (i_Line_is_beyond : PySem.W.isFn K (.ref f_Line_is_beyond) = true)
    (l_Line_is_beyond : K.lookup f_Line_is_beyond = some ⟨oc_Line_is_beyond, od_Line_is_beyond, .func (PySem.W.fnOf "is_beyond" "Line.is_beyond" (defArgs s_Line_is_beyond) (defBody s_Line_is_beyond) (defScope s_Line_is_beyond) .none kV_Line_is_beyond dc_Line_is_beyond pm_Line_is_beyond an_Line_is_beyond cd_Line_is_beyond ct_Line_is_beyond), sl_Line_is_beyond⟩)
    (c_Line_is_beyond : PySem.W.codeIn K cd_Line_is_beyond "Line.is_beyond" = true)
    (k_Line_is_beyond : PySem.W.keepIn K (.ref f_Line_is_beyond) = true)
    (a_Line_cells_in : PySem.W.findIn K (.ref C_Line) "cells_in" = some (some (.ref f_Line_cells_in)))
    (i_Line_cells_in : PySem.W.isFn K (.ref f_Line_cells_in) = true)
    (l_Line_cells_in : K.lookup f_Line_cells_in = some ⟨oc_Line_cells_in, od_Line_cells_in, .func (PySem.W.fnOf "cells_in" "Line.cells_in" (defArgs s_Line_cells_in) (defBody s_Line_cells_in) (defScope s_Line_cells_in) .none kV_Line_cells_in dc_Line_cells_in pm_Line_cells_in an_Line_cells_in cd_Line_cells_in ct_Line_cells_in), sl_Line_cells_in⟩)
    (c_Line_cells_in : PySem.W.codeIn K cd_Line_cells_in "Line.cells_in" = true)
    (k_Line_cells_in : PySem.W.keepIn K (.ref f_Line_cells_in) = true)
    (pg_Line : PySem.W.plainGet K C_Line Str.empty = true)
    (hd_Line : PySem.W.hasDictIn K C_Line = true)
    (po_Line : PySem.W.plainOver K C_Line = true)
    (sa_Line : PySem.W.findIn K (.ref C_Line) "__setattr__" = some (some (.builtin "object.__setattr__")))
    (mk_Line : PySem.W.makesIn K C_Line = true)
    (kc_Line : PySem.W.keepIn K (.ref C_Line) = true)
    (n_Line_own_points : PySem.W.findIn K (.ref C_Line) "own_points" = some none)
    (a_Line_points : PySem.W.findIn K (.ref C_Line) "points" = some (some (.ref p_Line_points)))
    (pr_Line_points : PySem.W.specialIn K (.ref p_Line_points) "__get__" = some (some (.builtin "property.__get__")))
    (pt_Line_points : PySem.W.takesIn K (.ref p_Line_points) = some true)
    (pf_Line_points : PySem.W.recIn K p_Line_points "property" = some (.ref f_Line_points :: r_Line_points))
    (l_Line_points : K.lookup f_Line_points = some ⟨oc_Line_points, od_Line_points, .func (PySem.W.fnOf "points" "Line.points" (defArgs s_Line_points) (defBody s_Line_points) (defScope s_Line_points) .none kV_Line_points dc_Line_points pm_Line_points an_Line_points cd_Line_points ct_Line_points), sl_Line_points⟩)
    (c_Line_points : PySem.W.codeIn K cd_Line_points "Line.points" = true)
    (k_Line_points : PySem.W.keepIn K (.ref f_Line_points) = true)
    (a_KeyLine_init : PySem.W.findIn K (.ref C_KeyLine) "__init__" = some (some (.ref f_Line_init)))
    (a_KeyLine_is_point : PySem.W.findIn K (.ref C_KeyLine) "is_point" = some (some (.ref f_Line_is_point)))
    (a_KeyLine_has_between : PySem.W.findIn K (.ref C_KeyLine) "has_between" = some (some (.ref f_Line_has_between)))
    (a_KeyLine_is_ahead : PySem.W.findIn K (.ref C_KeyLine) "is_ahead" = some (some (.ref f_Line_is_ahead)))
    (a_KeyLine_is_beyond : PySem.W.findIn K (.ref C_KeyLine) "is_beyond" = some (some (.ref f_Line_is_beyond)))
    (a_KeyLine_cells_in : PySem.W.findIn K (.ref C_KeyLine) "cells_in" = some (some (.ref f_Line_cells_in)))
    (pg_KeyLine : PySem.W.plainGet K C_KeyLine Str.empty = true)
    (hd_KeyLine : PySem.W.hasDictIn K C_KeyLine = true)
    (po_KeyLine : PySem.W.plainOver K C_KeyLine = true)
    (sa_KeyLine : PySem.W.findIn K (.ref C_KeyLine) "__setattr__" = some (some (.builtin "object.__setattr__")))
    (mk_KeyLine : PySem.W.makesIn K C_KeyLine = true)
    (kc_KeyLine : PySem.W.keepIn K (.ref C_KeyLine) = true)
    (n_KeyLine_own_points : PySem.W.findIn K (.ref C_KeyLine) "own_points" = some none)
    (a_KeyLine_points : PySem.W.findIn K (.ref C_KeyLine) "points" = some (some (.ref p_KeyLine_points)))
    (pr_KeyLine_points : PySem.W.specialIn K (.ref p_KeyLine_points) "__get__" = some (some (.builtin "property.__get__")))
    (pt_KeyLine_points : PySem.W.takesIn K (.ref p_KeyLine_points) = some true)
    (pf_KeyLine_points : PySem.W.recIn K p_KeyLine_points "property" = some (.ref f_Line_points :: r_KeyLine_points))
    (g_MOST_POINTS : PySem.W.nsIn K mainGlobals "MOST_POINTS" = some (some (.int 500 tk_MOST_POINTS)))
    (kit_list_Found : PySem.W.kitOne K (.type "list") (.ref C_Found) = some false)
    (z_len : PySem.W.nsIn K mainGlobals "len" = some none)
    (z_abs : PySem.W.nsIn K mainGlobals "abs" = some none)
    (z_max : PySem.W.nsIn K mainGlobals "max" = some none)
    (z_min : PySem.W.nsIn K mainGlobals "min" = some none)
    (z_range : PySem.W.nsIn K mainGlobals "range" = some none)
    (z_sorted : PySem.W.nsIn K mainGlobals "sorted" = some none)
    (z_set : PySem.W.nsIn K mainGlobals "set" = some none)
    (z_list : PySem.W.nsIn K mainGlobals "list" = some none)
    (z_tuple : PySem.W.nsIn K mainGlobals "tuple" = some none)
    (z_dict : PySem.W.nsIn K mainGlobals "dict" = some none)
    (z_int : PySem.W.nsIn K mainGlobals "int" = some none)
    (z_str : PySem.W.nsIn K mainGlobals "str" = some none)
    (z_bool : PySem.W.nsIn K mainGlobals "bool" = some none)
    (z_all : PySem.W.nsIn K mainGlobals "all" = some none)
    (z_any : PySem.W.nsIn K mainGlobals "any" = some none)
    (z_sum : PySem.W.nsIn K mainGlobals "sum" = some none)
    (z_isinstance : PySem.W.nsIn K mainGlobals "isinstance" = some none)
    (z_repr : PySem.W.nsIn K mainGlobals "repr" = some none)
    (z_zip : PySem.W.nsIn K mainGlobals "zip" = some none)
    (z_enumerate : PySem.W.nsIn K mainGlobals "enumerate" = some none)
    : ∃ fd : FuncData, (∀ (s : Shared) (v : Value), BindsTo s fd ⟨[v], []⟩ [("_law_script", v)]) ∧ ∀ base : Heap, K.In base → base.Ns mainGlobals mg → FnG l.prog w K mg base 6 fa fd ["_law_script"] (Gk.spLaw K) := by
  have e := hfa.symm.trans (PySem.W.mg_of X G a_law)
  cases e
  have G_Found : mg "Found" = some (.ref C_Found) := PySem.W.mg_of X G aC_Found
  have G_Line : mg "Line" = some (.ref C_Line) := PySem.W.mg_of X G aC_Line
  have G_KeyLine : mg "KeyLine" = some (.ref C_KeyLine) := PySem.W.mg_of X G aC_KeyLine
  have F_law := fun_mk (st := s_law) l_law c_law k_law
  have B_law := F_law.binds (ps := ["_law_script"]) fun _ _ _ _ _ _ us hl => match us, hl with | [_], _ => rfl
  have F_flow := fun_mk (st := s_flow) l_flow c_flow k_flow
  have B_flow := F_flow.binds (ps := ["_law_script", "_law_k"]) fun _ _ _ _ _ _ us hl => match us, hl with | [_, _], _ => rfl
  have G_flow : mg "_law_flow" = some (.ref f_flow) := PySem.W.mg_of X G a_flow
  have D_flow : Dn K mg "_law_flow" s_flow ["_law_script", "_law_k"] f_flow _ := ⟨F_flow, G_flow, B_flow⟩
  have F_dip := fun_mk (st := s_dip) l_dip c_dip k_dip
  have B_dip := F_dip.binds (ps := ["_law_flow_here", "_law_many"]) fun _ _ _ _ _ _ us hl => match us, hl with | [_, _], _ => rfl
  have G_dip : mg "_law_dip" = some (.ref f_dip) := PySem.W.mg_of X G a_dip
  have D_dip : Dn K mg "_law_dip" s_dip ["_law_flow_here", "_law_many"] f_dip _ := ⟨F_dip, G_dip, B_dip⟩
  have F_lines := fun_mk (st := s_lines) l_lines c_lines k_lines
  have B_lines := F_lines.binds (ps := ["_law_rows"]) fun _ _ _ _ _ _ us hl => match us, hl with | [_], _ => rfl
  have G_lines : mg "_law_lines" = some (.ref f_lines) := PySem.W.mg_of X G a_lines
  have D_lines : Dn K mg "_law_lines" s_lines ["_law_rows"] f_lines _ := ⟨F_lines, G_lines, B_lines⟩
  have F_few := fun_mk (st := s_few) l_few c_few k_few
  have B_few := F_few.binds (ps := ["_law_flow_here"]) fun _ _ _ _ _ _ us hl => match us, hl with | [_], _ => rfl
  have G_few : mg "_law_few" = some (.ref f_few) := PySem.W.mg_of X G a_few
  have D_few : Dn K mg "_law_few" s_few ["_law_flow_here"] f_few _ := ⟨F_few, G_few, B_few⟩
  have F_spots := fun_mk (st := s_spots) l_spots c_spots k_spots
  have B_spots := F_spots.binds (ps := ["_law_flow_here", "_law_most"]) fun _ _ _ _ _ _ us hl => match us, hl with | [_, _], _ => rfl
  have G_spots : mg "_law_spots" = some (.ref f_spots) := PySem.W.mg_of X G a_spots
  have D_spots : Dn K mg "_law_spots" s_spots ["_law_flow_here", "_law_most"] f_spots _ := ⟨F_spots, G_spots, B_spots⟩
  have F_near := fun_mk (st := s_near) l_near c_near k_near
  have B_near := F_near.binds (ps := ["_law_flow_here", "_law_spots_here"]) fun _ _ _ _ _ _ us hl => match us, hl with | [_, _], _ => rfl
  have G_near : mg "_law_near" = some (.ref f_near) := PySem.W.mg_of X G a_near
  have D_near : Dn K mg "_law_near" s_near ["_law_flow_here", "_law_spots_here"] f_near _ := ⟨F_near, G_near, B_near⟩
  have F_due := fun_mk (st := s_due) l_due c_due k_due
  have B_due := F_due.binds (ps := ["_law_rows", "_law_first", "_law_last"]) fun _ _ _ _ _ _ us hl => match us, hl with | [_, _, _], _ => rfl
  have G_due : mg "_law_due" = some (.ref f_due) := PySem.W.mg_of X G a_due
  have D_due : Dn K mg "_law_due" s_due ["_law_rows", "_law_first", "_law_last"] f_due _ := ⟨F_due, G_due, B_due⟩
  have F_right := fun_mk (st := s_right) l_right c_right k_right
  have B_right := F_right.binds (ps := ["_law_line_here", "_law_rows"]) fun _ _ _ _ _ _ us hl => match us, hl with | [_, _], _ => rfl
  have G_right : mg "_law_right" = some (.ref f_right) := PySem.W.mg_of X G a_right
  have D_right : Dn K mg "_law_right" s_right ["_law_line_here", "_law_rows"] f_right _ := ⟨F_right, G_right, B_right⟩
  have F_great_right := fun_mk (st := s_great_right) l_great_right c_great_right k_great_right
  have B_great_right := F_great_right.binds (ps := ["_law_flow_here", "_law_rows"]) fun _ _ _ _ _ _ us hl => match us, hl with | [_, _], _ => rfl
  have G_great_right : mg "_law_great_right" = some (.ref f_great_right) := PySem.W.mg_of X G a_great_right
  have D_great_right : Dn K mg "_law_great_right" s_great_right ["_law_flow_here", "_law_rows"] f_great_right _ := ⟨F_great_right, G_great_right, B_great_right⟩
  have F_is_whole_number := fun_mk (st := s_is_whole_number) l_is_whole_number c_is_whole_number k_is_whole_number
  have B_is_whole_number := F_is_whole_number.binds (ps := ["thing"]) fun _ _ _ _ _ _ us hl => match us, hl with | [_], _ => rfl
  have G_is_whole_number : mg "is_whole_number" = some (.ref f_is_whole_number) := PySem.W.mg_of X G a_is_whole_number
  have D_is_whole_number : Dn K mg "is_whole_number" s_is_whole_number ["thing"] f_is_whole_number _ := ⟨F_is_whole_number, G_is_whole_number, B_is_whole_number⟩
  have F_Line_init := fun_mk (st := s_Line_init) l_Line_init c_Line_init k_Line_init
  have B_Line_init := F_Line_init.binds (ps := ["self", "points"]) fun _ _ _ _ _ _ us hl => match us, hl with | [_, _], _ => rfl
  have F_Line_is_point := fun_mk (st := s_Line_is_point) l_Line_is_point c_Line_is_point k_Line_is_point
  have B_Line_is_point := F_Line_is_point.binds (ps := ["self", "thing"]) fun _ _ _ _ _ _ us hl => match us, hl with | [_, _], _ => rfl
  have Me_Line_is_point : Meth K C_Line "is_point" f_Line_is_point := ⟨a_Line_is_point, i_Line_is_point, k_Line_is_point⟩
  have F_Line_has_between := fun_mk (st := s_Line_has_between) l_Line_has_between c_Line_has_between k_Line_has_between
  have B_Line_has_between := F_Line_has_between.binds (ps := ["self", "left", "right", "low", "high"]) fun _ _ _ _ _ _ us hl => match us, hl with | [_, _, _, _, _], _ => rfl
  have Me_Line_has_between : Meth K C_Line "has_between" f_Line_has_between := ⟨a_Line_has_between, i_Line_has_between, k_Line_has_between⟩
  have F_Line_is_ahead := fun_mk (st := s_Line_is_ahead) l_Line_is_ahead c_Line_is_ahead k_Line_is_ahead
  have B_Line_is_ahead := F_Line_is_ahead.binds (ps := ["self", "point", "low"]) fun _ _ _ _ _ _ us hl => match us, hl with | [_, _, _], _ => rfl
  have Me_Line_is_ahead : Meth K C_Line "is_ahead" f_Line_is_ahead := ⟨a_Line_is_ahead, i_Line_is_ahead, k_Line_is_ahead⟩
  have F_Line_is_beyond := fun_mk (st := s_Line_is_beyond) l_Line_is_beyond c_Line_is_beyond k_Line_is_beyond
  have B_Line_is_beyond := F_Line_is_beyond.binds (ps := ["self", "point", "high"]) fun _ _ _ _ _ _ us hl => match us, hl with | [_, _, _], _ => rfl
  have Me_Line_is_beyond : Meth K C_Line "is_beyond" f_Line_is_beyond := ⟨a_Line_is_beyond, i_Line_is_beyond, k_Line_is_beyond⟩
  have F_Line_cells_in := fun_mk (st := s_Line_cells_in) l_Line_cells_in c_Line_cells_in k_Line_cells_in
  have B_Line_cells_in := F_Line_cells_in.binds (ps := ["self", "low", "high"]) fun _ _ _ _ _ _ us hl => match us, hl with | [_, _, _], _ => rfl
  have Me_Line_cells_in : Meth K C_Line "cells_in" f_Line_cells_in := ⟨a_Line_cells_in, i_Line_cells_in, k_Line_cells_in⟩
  have Cl_Line : Cls K C_Line := ⟨pg_Line, hd_Line, po_Line, sa_Line⟩
  have Mk_Line : Mk K C_Line f_Line_init := ⟨mk_Line, a_Line_init, i_Line_init, kc_Line⟩
  have F_Line_points := fun_mk (st := s_Line_points) l_Line_points c_Line_points k_Line_points
  have B_Line_points := F_Line_points.binds (ps := ["self"]) fun _ _ _ _ _ _ us hl => match us, hl with | [_], _ => rfl
  have Pr_Line_points : PropOf K C_Line "points" p_Line_points f_Line_points := ⟨a_Line_points, pr_Line_points, pt_Line_points, ⟨_, pf_Line_points⟩⟩
  have Me_KeyLine_is_point : Meth K C_KeyLine "is_point" f_Line_is_point := ⟨a_KeyLine_is_point, i_Line_is_point, k_Line_is_point⟩
  have Me_KeyLine_has_between : Meth K C_KeyLine "has_between" f_Line_has_between := ⟨a_KeyLine_has_between, i_Line_has_between, k_Line_has_between⟩
  have Me_KeyLine_is_ahead : Meth K C_KeyLine "is_ahead" f_Line_is_ahead := ⟨a_KeyLine_is_ahead, i_Line_is_ahead, k_Line_is_ahead⟩
  have Me_KeyLine_is_beyond : Meth K C_KeyLine "is_beyond" f_Line_is_beyond := ⟨a_KeyLine_is_beyond, i_Line_is_beyond, k_Line_is_beyond⟩
  have Me_KeyLine_cells_in : Meth K C_KeyLine "cells_in" f_Line_cells_in := ⟨a_KeyLine_cells_in, i_Line_cells_in, k_Line_cells_in⟩
  have Cl_KeyLine : Cls K C_KeyLine := ⟨pg_KeyLine, hd_KeyLine, po_KeyLine, sa_KeyLine⟩
  have Mk_KeyLine : Mk K C_KeyLine f_Line_init := ⟨mk_KeyLine, a_KeyLine_init, i_Line_init, kc_KeyLine⟩
  have Pr_KeyLine_points : PropOf K C_KeyLine "points" p_KeyLine_points f_Line_points := ⟨a_KeyLine_points, pr_KeyLine_points, pt_KeyLine_points, ⟨_, pf_KeyLine_points⟩⟩
  have T : Bt mg := ⟨PySem.W.mg_none_of X G z_len, PySem.W.mg_none_of X G z_abs, PySem.W.mg_none_of X G z_max, PySem.W.mg_none_of X G z_min, PySem.W.mg_none_of X G z_range, PySem.W.mg_none_of X G z_sorted, PySem.W.mg_none_of X G z_set, PySem.W.mg_none_of X G z_list, PySem.W.mg_none_of X G z_tuple, PySem.W.mg_none_of X G z_dict, PySem.W.mg_none_of X G z_int, PySem.W.mg_none_of X G z_str, PySem.W.mg_none_of X G z_bool, PySem.W.mg_none_of X G z_all, PySem.W.mg_none_of X G z_any, PySem.W.mg_none_of X G z_sum, PySem.W.mg_none_of X G z_isinstance, PySem.W.mg_none_of X G z_repr, PySem.W.mg_none_of X G z_zip, PySem.W.mg_none_of X G z_enumerate⟩
  refine ⟨PySem.W.fnOf "law" "law" (defArgs s_law) (defBody s_law) (defScope s_law) .none kV_law dc_law pm_law an_law cd_law ct_law, fun s v => .of_eq rfl, fun base _ _ => ?_⟩
  have L1 : LineC K C_Line := ⟨Cl_Line, n_Line_own_points⟩
  have L2 : LineC K C_KeyLine := ⟨Cl_KeyLine, n_KeyLine_own_points⟩
  have wh := ok_whole (P := l.prog) (w := w) (base := base) D_is_whole_number T
  have gF : ∃ u, mg "Found" = some u ∧ RelV (.ref C_Found) u := ⟨_, G_Found, rfl⟩
  have gM : ∃ u, mg "MOST_POINTS" = some u ∧ RelV (.int 500) u := ⟨_, PySem.W.mg_of X G g_MOST_POINTS, ⟨_, rfl⟩⟩
  have ip := ok_point F_Line_is_point wh
  have p1 : Met l.prog w K mg base 2 C_Line "is_point" (spPoint K) [] := ⟨_, _, _, _, Cl_Line, Me_Line_is_point, ip, B_Line_is_point, .nil⟩
  have p2 : Met l.prog w K mg base 2 C_KeyLine "is_point" (spPoint K) [] := ⟨_, _, _, _, Cl_KeyLine, Me_KeyLine_is_point, ip, B_Line_is_point, .nil⟩
  have m1 : Mak l.prog w K mg base 3 "Line" C_Line (spInitI K C_Line) [] := ⟨_, _, _, _, Mk_Line, ok_initI F_Line_init L1 T p1 gF gM kit_list_Found, G_Line, B_Line_init, .nil⟩
  have m2 : Mak l.prog w K mg base 3 "KeyLine" C_KeyLine (spInitI K C_KeyLine) [] := ⟨_, _, _, _, Mk_KeyLine, ok_initI F_Line_init L2 T p2 gF gM kit_list_Found, G_KeyLine, B_Line_init, .nil⟩
  have bt := ok_between (P := l.prog) (w := w) (mg := mg) (base := base) F_Line_has_between T
  have ah := ok_ahead (P := l.prog) (w := w) (mg := mg) (base := base) F_Line_is_ahead
  have be := ok_beyond (P := l.prog) (w := w) (mg := mg) (base := base) F_Line_is_beyond
  have ce1 := ok_cells (P := l.prog) (w := w) (mg := mg) (base := base) F_Line_cells_in L1 T ⟨_, _, _, _, Cl_Line, Me_Line_has_between, bt, B_Line_has_between, .nil⟩ ⟨_, _, _, _, Cl_Line, Me_Line_is_ahead, ah, B_Line_is_ahead, .nil⟩ ⟨_, _, _, _, Cl_Line, Me_Line_is_beyond, be, B_Line_is_beyond, .nil⟩
  have ce2 := ok_cells (P := l.prog) (w := w) (mg := mg) (base := base) F_Line_cells_in L2 T ⟨_, _, _, _, Cl_KeyLine, Me_KeyLine_has_between, bt, B_Line_has_between, .nil⟩ ⟨_, _, _, _, Cl_KeyLine, Me_KeyLine_is_ahead, ah, B_Line_is_ahead, .nil⟩ ⟨_, _, _, _, Cl_KeyLine, Me_KeyLine_is_beyond, be, B_Line_is_beyond, .nil⟩
  have c1 : Met l.prog w K mg base 2 C_Line "cells_in" (spCells K C_Line) [] := ⟨_, _, _, _, Cl_Line, Me_Line_cells_in, ce1, B_Line_cells_in, .nil⟩
  have c2 : Met l.prog w K mg base 2 C_KeyLine "cells_in" (spCells K C_KeyLine) [] := ⟨_, _, _, _, Cl_KeyLine, Me_KeyLine_cells_in, ce2, B_Line_cells_in, .nil⟩
  have k1 : MetK l.prog w K mg base 2 C_Line "cells_in" ["high", "low"] swapV (spCells K C_Line) := ⟨_, _, _, swapU, Cl_Line, Me_Line_cells_in, ce1, kbinds_swap (fun _ _ _ => rfl)⟩
  have k2 : MetK l.prog w K mg base 2 C_KeyLine "cells_in" ["high", "low"] swapV (spCells K C_KeyLine) := ⟨_, _, _, swapU, Cl_KeyLine, Me_KeyLine_cells_in, ce2, kbinds_swap (fun _ _ _ => rfl)⟩
  have q1 : PropR l.prog w K mg base 1 C_Line "points" (spPoints K C_Line) := ⟨_, _, _, _, Cl_Line, Pr_Line_points, ok_points F_Line_points L1 T, B_Line_points⟩
  have q2 : PropR l.prog w K mg base 1 C_KeyLine "points" (spPoints K C_KeyLine) := ⟨_, _, _, _, Cl_KeyLine, Pr_KeyLine_points, ok_points F_Line_points L2 T, B_Line_points⟩
  have dip := ok_dip (P := l.prog) (w := w) (base := base) D_dip T
  have flo := ok_flow (P := l.prog) (w := w) (base := base) D_flow T
  have few := ok_few D_few T dip
  have spo := ok_spots D_spots T dip
  have nea := ok_near D_near T dip
  have due := ok_due (P := l.prog) (w := w) (base := base) D_due T
  have lin := ok_lines D_lines T m1 m2
  have rig := calG_of D_right (fnG_or (ok_right D_right T c1 k1 q1 due) (ok_right D_right T c2 k2 q2 due))
  have gre := calG_of D_great_right (ok_great D_great_right T m2 c2 q2 nea)
  have D_law : Dn K mg "law" s_law ["_law_script"] _ _ := ⟨F_law, hfa, B_law⟩
  exact ok_law D_law T m1 m2 c2 c1 dip flo few spo lin rig gre
end Gk
open PySem PySem.W PyProof.Rows
set_option maxRecDepth 100000 in
set_option maxHeartbeats 0 in
theorem PySem.Challenge.cw_gapreach_k04_cells_by_trying_holds : PySem.Challenge.rw_gapreach_k04_cells_by_trying.Holds := by
  w_on; o_law; k_head; (case hw => w_witness2)
  k_fill
  refine Gx.walkG (l := PySem.Challenge.rw_gapreach_k04_cells_by_trying) (sp := Gk.spLaw) (k := 6) (x := "_law_script") rfl (by decide) rfl ⟨rfl, by decide, by decide⟩ (fun w h Y => PySem.W.kIn_of Y) ?F ?S
  case S => exact fun K H a ns _ q => ⟨a, ns, rfl, q, fun _ _ => rfl⟩
  case F =>
    intro w mg fa h KX G hmg
    refine' Gk.all_mk KX G hmg ?aC_Found ?aC_Line ?aC_KeyLine ?a_law ?l_law ?c_law ?k_law ?a_flow ?l_flow ?c_flow ?k_flow ?a_dip ?l_dip ?c_dip ?k_dip ?a_lines ?l_lines ?c_lines ?k_lines ?a_few ?l_few ?c_few ?k_few ?a_spots ?l_spots ?c_spots ?k_spots ?a_near ?l_near ?c_near ?k_near ?a_due ?l_due ?c_due ?k_due ?a_right ?l_right ?c_right ?k_right ?a_great_right ?l_great_right ?c_great_right ?k_great_right ?a_is_whole_number ?l_is_whole_number ?c_is_whole_number ?k_is_whole_number ?a_Line_init ?i_Line_init ?l_Line_init ?c_Line_init ?k_Line_init ?a_Line_is_point ?i_Line_is_point ?l_Line_is_point ?c_Line_is_point ?k_Line_is_point ?a_Line_has_between ?i_Line_has_between ?l_Line_has_between ?c_Line_has_between ?k_Line_has_between ?a_Line_is_ahead ?i_Line_is_ahead ?l_Line_is_ahead ?c_Line_is_ahead ?k_Line_is_ahead ?a_Line_is_beyond ?i_Line_is_beyond ?l_Line_is_beyond ?c_Line_is_beyond ?k_Line_is_beyond ?a_Line_cells_in ?i_Line_cells_in ?l_Line_cells_in ?c_Line_cells_in ?k_Line_cells_in ?pg_Line ?hd_Line ?po_Line ?sa_Line ?mk_Line ?kc_Line ?n_Line_own_points ?a_Line_points ?pr_Line_points ?pt_Line_points ?pf_Line_points ?l_Line_points ?c_Line_points ?k_Line_points ?a_KeyLine_init ?a_KeyLine_is_point ?a_KeyLine_has_between ?a_KeyLine_is_ahead ?a_KeyLine_is_beyond ?a_KeyLine_cells_in ?pg_KeyLine ?hd_KeyLine ?po_KeyLine ?sa_KeyLine ?mk_KeyLine ?kc_KeyLine ?n_KeyLine_own_points ?a_KeyLine_points ?pr_KeyLine_points ?pt_KeyLine_points ?pf_KeyLine_points ?g_MOST_POINTS ?kit_list_Found ?z_len ?z_abs ?z_max ?z_min ?z_range ?z_sorted ?z_set ?z_list ?z_tuple ?z_dict ?z_int ?z_str ?z_bool ?z_all ?z_any ?z_sum ?z_isinstance ?z_repr ?z_zip ?z_enumerate
    (case aC_Found => k_is)
    (case aC_Line => k_is)
    (case aC_KeyLine => k_is)
    (case a_law => k_is)
    (case l_law => k_is)
    (case c_law => k_is)
    (case k_law => k_is)
    (case a_flow => k_is)
    (case l_flow => k_is)
    (case c_flow => k_is)
    (case k_flow => k_is)
    (case a_dip => k_is)
    (case l_dip => k_is)
    (case c_dip => k_is)
    (case k_dip => k_is)
    (case a_lines => k_is)
    (case l_lines => k_is)
    (case c_lines => k_is)
    (case k_lines => k_is)
    (case a_few => k_is)
    (case l_few => k_is)
    (case c_few => k_is)
    (case k_few => k_is)
    (case a_spots => k_is)
    (case l_spots => k_is)
    (case c_spots => k_is)
    (case k_spots => k_is)
    (case a_near => k_is)
    (case l_near => k_is)
    (case c_near => k_is)
    (case k_near => k_is)
    (case a_due => k_is)
    (case l_due => k_is)
    (case c_due => k_is)
    (case k_due => k_is)
    (case a_right => k_is)
    (case l_right => k_is)
    (case c_right => k_is)
    (case k_right => k_is)
    (case a_great_right => k_is)
    (case l_great_right => k_is)
    (case c_great_right => k_is)
    (case k_great_right => k_is)
    (case a_is_whole_number => k_is)
    (case l_is_whole_number => k_is)
    (case c_is_whole_number => k_is)
    (case k_is_whole_number => k_is)
    (case a_Line_init => k_is)
    (case i_Line_init => k_is)
    (case l_Line_init => k_is)
    (case c_Line_init => k_is)
    (case k_Line_init => k_is)
    (case a_Line_is_point => k_is)
    (case i_Line_is_point => k_is)
    (case l_Line_is_point => k_is)
    (case c_Line_is_point => k_is)
    (case k_Line_is_point => k_is)
    (case a_Line_has_between => k_is)
    (case i_Line_has_between => k_is)
    (case l_Line_has_between => k_is)
    (case c_Line_has_between => k_is)
    (case k_Line_has_between => k_is)
    (case a_Line_is_ahead => k_is)
    (case i_Line_is_ahead => k_is)
    (case l_Line_is_ahead => k_is)
    (case c_Line_is_ahead => k_is)
    (case k_Line_is_ahead => k_is)
    (case a_Line_is_beyond => k_is)
    (case i_Line_is_beyond => k_is)
    (case l_Line_is_beyond => k_is)
    (case c_Line_is_beyond => k_is)
    (case k_Line_is_beyond => k_is)
    (case a_Line_cells_in => k_is)
    (case i_Line_cells_in => k_is)
    (case l_Line_cells_in => k_is)
    (case c_Line_cells_in => k_is)
    (case k_Line_cells_in => k_is)
    (case pg_Line => k_is)
    (case hd_Line => k_is)
    (case po_Line => k_is)
    (case sa_Line => k_is)
    (case mk_Line => k_is)
    (case kc_Line => k_is)
    (case n_Line_own_points => k_is)
    (case a_Line_points => k_is)
    (case pr_Line_points => k_is)
    (case pt_Line_points => k_is)
    (case pf_Line_points => k_is)
    (case l_Line_points => k_is)
    (case c_Line_points => k_is)
    (case k_Line_points => k_is)
    (case a_KeyLine_init => k_is)
    (case a_KeyLine_is_point => k_is)
    (case a_KeyLine_has_between => k_is)
    (case a_KeyLine_is_ahead => k_is)
    (case a_KeyLine_is_beyond => k_is)
    (case a_KeyLine_cells_in => k_is)
    (case pg_KeyLine => k_is)
    (case hd_KeyLine => k_is)
    (case po_KeyLine => k_is)
    (case sa_KeyLine => k_is)
    (case mk_KeyLine => k_is)
    (case kc_KeyLine => k_is)
    (case n_KeyLine_own_points => k_is)
    (case a_KeyLine_points => k_is)
    (case pr_KeyLine_points => k_is)
    (case pt_KeyLine_points => k_is)
    (case pf_KeyLine_points => k_is)
    (case g_MOST_POINTS => k_is)
    (case kit_list_Found => kit_is)
    (case z_len => k_is)
    (case z_abs => k_is)
    (case z_max => k_is)
    (case z_min => k_is)
    (case z_range => k_is)
    (case z_sorted => k_is)
    (case z_set => k_is)
    (case z_list => k_is)
    (case z_tuple => k_is)
    (case z_dict => k_is)
    (case z_int => k_is)
    (case z_str => k_is)
    (case z_bool => k_is)
    (case z_all => k_is)
    (case z_any => k_is)
    (case z_sum => k_is)
    (case z_isinstance => k_is)
    (case z_repr => k_is)
    (case z_zip => k_is)
    (case z_enumerate => k_is)
#print axioms PySem.Challenge.cw_gapreach_k04_cells_by_trying_holds
