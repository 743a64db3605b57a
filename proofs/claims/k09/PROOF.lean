import PyProof.Rows.All
import Wide.All
import OpenK.AllK
import Wide.FinOn
import HandS.ForMost
import HandS.Evl
import HandS.Codes
import HandS.WideBits
import HandS.Wide
import HandS.IsInst
import HandS.Property
import HandS.Star
import HandS.Steps
import HandS.NoneIn
import HandS.Set
import HandS.SetFor
import HandS.Strs
import KE.KUnpackStar
import HandS.RaiseMore
import HandS.Text
import HandS.Iter
import HandS.More
import HandS.DictComp
import HandS.OwnEq
import PySem.Challenge.RW_gapreach_k09_reaches_by_steps
set_option Elab.async false
set_option linter.all false
set_option maxRecDepth 100000
set_option maxHeartbeats 4000000
namespace Gx
open PySem L2
/-! ### a list of three whole numbers that a def changes, known to its callers by what stays true of it -/
/-- at f stands a list of three whole numbers, the first one at least 0 -/
def FlowP (f : Addr) (h : Heap) : Prop := ∃ (x y z : Int) (t u v : Tok) (n : Nat), 0 ≤ x ∧ h.get? f = some { cls := .type "list", data := .seq #[.int x t, .int y u, .int z v] n }
def FlowO (f : Addr) : HO := .ext (FlowP f)
def three (x y z : Int) : HO := .lst [.int x, .int y, .int z]
section
variable {P : Program} {w : World} {K : PySem.W.Frag} {mg : Str → Option Value} {base : Heap} {H : Hp} {h : Heap} {f : Addr}
theorem flow_open (ok : HOk P w H h) (hf : H f = some (FlowO f)) : ∃ x y z, 0 ≤ x ∧ HOk P w (upd H f (three x y z)) h := by
  have q : ObjOk P w H h f (FlowO f) := ok f _ hf
  obtain ⟨⟨x, y, z, t, u, v, n, hx, e⟩, _, _⟩ := q
  refine ⟨x, y, z, hx, ok.write (by rw [hf]; trivial) (Or.inl rfl) (fun _ _ _ q => q) ⟨_, e⟩ ?_⟩
  exact ⟨(by decide : 3 ≤ sizeLine), _, n, .cons ⟨t, rfl⟩ (.cons ⟨u, rfl⟩ (.cons ⟨v, rfl⟩ .nil)), e⟩
theorem flow_close {x y z : Int} (ok : HOk P w H h) (hf : H f = some (three x y z)) (hx : 0 ≤ x) : HOk P w (upd H f (FlowO f)) h := by
  have q : ObjOk P w H h f (three x y z) := ok f _ hf
  obtain ⟨_, its, n, r, e⟩ := q
  have hp : FlowP f h := by
    cases r with
    | cons r1 r =>
      cases r with
      | cons r2 r =>
        cases r with
        | cons r3 r =>
          cases r
          obtain ⟨t, rfl⟩ := r1
          obtain ⟨u, rfl⟩ := r2
          obtain ⟨v, rfl⟩ := r3
          exact ⟨x, y, z, t, u, v, n, hx, e⟩
  refine ok.write (by rw [hf]; trivial) (Or.inl rfl) (fun _ _ _ q => q) ⟨_, e⟩ ?_
  exact ⟨hp, ⟨_, e⟩, fun h1 h2 p1 k => by
    obtain ⟨x, y, z, t, u, v, n, hx, e⟩ := p1
    exact ⟨x, y, z, t, u, v, n, hx, k _ e⟩⟩
/-- a def that is proved for the list as it stands keeps its promise for the list by what stays true of it -/
theorem flow_view {k : Nat} {fa : Addr} {fd : FuncData} {ps : List Str} {sp sp' : Sp} (F : FnOk P w K mg base CX0 k fa fd ps sp)
    (hs : ∀ vs H Q E, sp' vs H Q E → ∃ f, H f = some (FlowO f) ∧ ∀ x y z, 0 ≤ x → sp vs (upd H f (three x y z)) (fun v H' => (∃ x' y' z', 0 ≤ x' ∧ H' f = some (three x' y' z')) ∧ Q v (upd H' f (FlowO f))) E) :
    FnOk P w K mg base CX0 k fa fd ps sp' := by
  refine ⟨fun vs H Q E q => ?_, fun A outer s H args us vs Q E hr he hb hv q => ?_⟩
  · obtain ⟨f, _, k⟩ := hs vs H Q E q
    exact F.len _ _ _ _ (k 0 0 0 (Int.le_refl 0))
  · obtain ⟨f, hf, k⟩ := hs vs H Q E q
    obtain ⟨x, y, z, hx, ok1⟩ := flow_open he.hok hf
    have nf : ∀ b, H b = none → b ≠ f := fun b n e => by rw [e, hf] at n; cases n
    have mu : Mut (H f) := by rw [hf]; trivial
    have hof : ∃ o, s.heap.get? f = some o := by
      have q : ObjOk P w H s.heap f (FlowO f) := he.hok f _ hf
      exact q.2.1
    have he1 : Env0 P w K mg base A outer s (upd H f (three x y z)) :=
      ⟨he.frames, he.mod, fun b o e => ⟨(he.bs b o e).1, by rw [upd_ne (nf b (he.bs b o e).2)]; exact (he.bs b o e).2⟩, he.bsz, he.funs, fun b hb => by rw [upd_ne (nf b (he.frf b hb))]; exact he.frf b hb, ok1, he.bare⟩
    refine codeAny_mono (F.run A outer s _ args us vs _ E hr he1 hb hv (k x y z hx)) fun r s' hq => ?_
    cases r with
    | error e => exact hq.elim
    | ok fl =>
      cases fl with
      | ret u =>
        obtain ⟨v, H', os, bare, un, hok, rv, ⟨x', y', z', hx', e'⟩, q'⟩ := hq
        refine ⟨v, upd H' f (FlowO f), os, bare, ?_, flow_close hok e' hx', rv, q'⟩
        have u1 : Un (frs outer) [] H (upd H f (three x y z)) s.heap s.heap := Un.write mu (Or.inl rfl) (fun _ _ _ q => q) hof
        have hof' : ∃ o, s'.heap.get? f = some o := by
          have q : ObjOk P w H' s'.heap f (three x' y' z') := hok f _ e'
          obtain ⟨_, its, n, r, e⟩ := q
          exact ⟨_, e⟩
        have u2 : Un (frs outer) [] H' (upd H' f (FlowO f)) s'.heap s'.heap := Un.write (by rw [e']; trivial) (Or.inl rfl) (fun _ _ _ q => q) hof'
        exact (u1.trans un).trans u2
      | next => exact hq.elim
      | brk => exact hq.elim
      | cont => exact hq.elim
end
end Gx

namespace Gx
open PySem L2
/-! ### readings, from the left: each of these takes one step -/
section
variable {σ : L2.St} {H H' : Hp} {Q : VK} {K : PySem.W.Frag} {v x y : V} {ta tb te tc : TE} {tt tu : TT} {t u : TS} {D : Ends} {i j : Nat} {r : R2}
theorem g_var (h : σ[i]? = some (some v)) (q : Q v H) : tVar i σ H Q := ⟨v, h, q⟩
theorem g_c (q : Q v H) : tC v σ H Q := q
theorem g_op (q : ta σ H fun x H1 => tb σ H1 fun y H2 => r x y H2 Q) : tOp r ta tb σ H Q := q
theorem g_I0 {g : Int → Int → V} {a b : Int} (q : Q (g a b) H) : rI0 g (.int a) (.int b) H Q := ⟨a, b, rfl, rfl, q⟩
theorem g_I {C : Int → Int → Prop} {g : Int → Int → V} {a b : Int} (hc : C a b) (q : Q (g a b) H) : rI C g (.int a) (.int b) H Q := ⟨a, b, rfl, rfl, hc, q⟩
theorem g_mod {a b : Int} (hb : 0 < b) (q : ∀ r, 0 ≤ r → r < b → Q (.int r) H) : rI (fun _ j => 0 < j) (fun i j => .int (i % j)) (.int a) (.int b) H Q :=
  ⟨a, b, rfl, rfl, hb, q _ (Int.emod_nonneg _ (by omega)) (Int.emod_lt_of_pos _ hb)⟩
theorem g_Imul {a b : Int} (hc : CMul a b) (q : Q (.int (a * b)) H) : rI CMul (fun i j => .int (i * j)) (.int a) (.int b) H Q := ⟨a, b, rfl, rfl, hc, q⟩
theorem g_Idiv {a b : Int} (hc : CDivW a b) (q : Q (.int (a / b)) H) : rI CDivW (fun i j => .int (i / j)) (.int a) (.int b) H Q := ⟨a, b, rfl, rfl, hc, q⟩
theorem g_Imod {a b : Int} (hc : 0 < b) (q : Q (.int (a % b)) H) : rI (fun _ j => 0 < j) (fun i j => .int (i % j)) (.int a) (.int b) H Q := ⟨a, b, rfl, rfl, hc, q⟩
theorem g_pow3 {a b : Int} (hc : CPow a b) (q : Q (.int (a ^ b.toNat)) H) : rI CPow (fun i j => .int (i ^ j.toNat)) (.int a) (.int b) H Q := ⟨a, b, rfl, rfl, hc, q⟩
theorem g_un {r : V → Hp → VK → Prop} (q : ta σ H fun x H1 => r x H1 Q) : tUn r ta σ H Q := q
theorem g_U {g : Int → V} {a : Int} (q : Q (g a) H) : rU g (.int a) H Q := ⟨a, rfl, q⟩
theorem g_eq (h : scal x y = true) (q : Q (.bl (decide (x = y))) H) : rEq x y H Q := ⟨h, q⟩
theorem g_ne (h : scal x y = true) (q : Q (.bl (!decide (x = y))) H) : rNe x y H Q := ⟨h, q⟩
theorem g_exbl {b : Bool} {P : Bool → Prop} (h : P b) : ∃ k, V.bl b = V.bl k ∧ P k := ⟨b, rfl, h⟩
theorem g_test {Q : Bool → Hp → Prop} (q : te σ H fun x H1 => ∃ k, x = .bl k ∧ Q k H1) : tTest te σ H Q := q
theorem g_B {Q : Bool → Hp → Prop} (q : te σ H fun x H1 => ∃ k, x = .bl k ∧ Q k H1) : tB te σ H Q := q
theorem g_not {Q : Bool → Hp → Prop} (q : tt σ H fun c H1 => Q (!c) H1) : tNot tt σ H Q := q
theorem g_and {Q : Bool → Hp → Prop} (q : tt σ H fun c H1 => if c = true then tu σ H1 Q else Q false H1) : tAnd tt tu σ H Q := q
theorem g_or {Q : Bool → Hp → Prop} (q : tt σ H fun c H1 => if c = true then Q true H1 else tu σ H1 Q) : tOr tt tu σ H Q := q
theorem g_andV (q : ta σ H fun x H1 => ∃ c, x = .bl c ∧ if c = true then tb σ H1 Q else Q (.bl false) H1) : tAndV ta tb σ H Q := q
theorem g_orV (q : ta σ H fun x H1 => ∃ c, x = .bl c ∧ if c = true then Q (.bl true) H1 else tb σ H1 Q) : tOrV ta tb σ H Q := q
theorem g_notV (q : ta σ H fun x H1 => ∃ c, x = .bl c ∧ Q (.bl (!c)) H1) : tNotV ta σ H Q := q
theorem g_ifE (q : tt σ H fun c H1 => if c = true then ta σ H1 Q else tb σ H1 Q) : tIf tt ta tb σ H Q := q
theorem g_isN (q : ta σ H fun x H1 => Q (.bl (decide (x = .non))) H1) : tIsN ta σ H Q := q
theorem g_cons {tr : TA} {Q : List V → Hp → Prop} (q : ta σ H fun x H1 => tr σ H1 fun xs H2 => Q (x :: xs) H2) : tCons ta tr σ H Q := q
theorem g_nil {Q : List V → Hp → Prop} (q : Q [] H) : tNil σ H Q := q
theorem g_CB {r : List V → Hp → VK → Prop} {tr : TA} (q : tr σ H fun vs H1 => r vs H1 Q) : tCB r tr σ H Q := q
theorem g_chain {r' : R2} (q : ta σ H fun x H1 => tb σ H1 fun y H2 => r x y H2 fun z H3 => ∃ k, z = .bl k ∧ (if k = true then tc σ H3 fun w' H4 => r' y w' H4 Q else Q (.bl false) H3)) : tChain r r' ta tb tc σ H Q := q
-- statements
theorem g_seq (q : t { D with nx := u D } σ H) : tSeq t u D σ H := q
theorem g_next (q : D.nx σ H) : tNext D σ H := q
theorem g_asg {g : TG} (q : te σ H fun x H1 => g x σ H1 D.nx) : tAsg te g D σ H := q
theorem g_name {Q : L2.St → Hp → Prop} (q : Q (σ.set i (some v)) H) : gName i v σ H Q := q
theorem g_sub {to ti : TE} {s : TSet} {Q : L2.St → Hp → Prop} (q : to σ H fun o H1 => ti σ H1 fun i H2 => s o i v H2 fun H3 => Q σ H3) : gSub to ti s v σ H Q := q
theorem g_drop (q : te σ H fun _ H1 => D.nx σ H1) : tDrop te D σ H := q
theorem g_ret (q : te σ H D.rt) : tRet te D σ H := q
theorem g_retN (q : D.rt .non H) : tRetN D σ H := q
theorem g_ifS (q : tt σ H fun b H1 => if b = true then t D σ H1 else u D σ H1) : tIfS tt t u D σ H := q
theorem g_par {ts : TA} (q : ts σ H fun vs H1 => ∃ v w, vs = [v, w] ∧ D.nx ((σ.set i (some v)).set j (some w)) H1) : tPar i j ts D σ H := q
theorem g_expar {v w : V} {P : V → V → Prop} (h : P v w) : ∃ a b, [v, w] = [a, b] ∧ P a b := ⟨v, w, rfl, h⟩
-- tests decided
theorem g_ite {c : Prop} [Decidable c] {A B : Prop} (h1 : c → A) (h2 : ¬ c → B) : if decide c = true then A else B := by
  by_cases h : c
  · rw [if_pos (decide_eq_true h)]
    exact h1 h
  · rw [if_neg (by rw [decide_eq_false h]; exact Bool.false_ne_true)]
    exact h2 h
theorem g_iteN {c : Prop} [Decidable c] {A B : Prop} (h1 : ¬ c → A) (h2 : c → B) : if (!decide c) = true then A else B := by
  by_cases h : c
  · rw [if_neg (by rw [decide_eq_true h]; exact Bool.false_ne_true)]
    exact h2 h
  · rw [if_pos (by rw [decide_eq_false h]; rfl)]
    exact h1 h
/-- an if whose two ways meet: what holds where they meet is said once -/
theorem g_iteJ {c : Prop} [Decidable c] {N Bk Ct : L2.St → Hp → Prop} {R : VK} (Mid : L2.St → Hp → Prop) (tail : ∀ σ' H', Mid σ' H' → N σ' H')
    (h1 : ∀ N' : L2.St → Hp → Prop, (∀ σ' H', Mid σ' H' → N' σ' H') → c → t ⟨N', R, Bk, Ct⟩ σ H) (h2 : ∀ N' : L2.St → Hp → Prop, (∀ σ' H', Mid σ' H' → N' σ' H') → ¬ c → u ⟨N', R, Bk, Ct⟩ σ H) :
    if decide c = true then t ⟨N, R, Bk, Ct⟩ σ H else u ⟨N, R, Bk, Ct⟩ σ H := g_ite (fun h => h1 N tail h) fun h => h2 N tail h
theorem g_iteNJ {c : Prop} [Decidable c] {N Bk Ct : L2.St → Hp → Prop} {R : VK} (Mid : L2.St → Hp → Prop) (tail : ∀ σ' H', Mid σ' H' → N σ' H')
    (h1 : ∀ N' : L2.St → Hp → Prop, (∀ σ' H', Mid σ' H' → N' σ' H') → ¬ c → t ⟨N', R, Bk, Ct⟩ σ H) (h2 : ∀ N' : L2.St → Hp → Prop, (∀ σ' H', Mid σ' H' → N' σ' H') → c → u ⟨N', R, Bk, Ct⟩ σ H) :
    if (!decide c) = true then t ⟨N, R, Bk, Ct⟩ σ H else u ⟨N, R, Bk, Ct⟩ σ H := g_iteN (fun h => h1 N tail h) fun h => h2 N tail h
theorem g_iteJB {b : Bool} {N Bk Ct : L2.St → Hp → Prop} {R : VK} (Mid : L2.St → Hp → Prop) (tail : ∀ σ' H', Mid σ' H' → N σ' H')
    (h1 : ∀ N' : L2.St → Hp → Prop, (∀ σ' H', Mid σ' H' → N' σ' H') → b = true → t ⟨N', R, Bk, Ct⟩ σ H) (h2 : ∀ N' : L2.St → Hp → Prop, (∀ σ' H', Mid σ' H' → N' σ' H') → b = false → u ⟨N', R, Bk, Ct⟩ σ H) :
    if b = true then t ⟨N, R, Bk, Ct⟩ σ H else u ⟨N, R, Bk, Ct⟩ σ H := by
  cases b with
  | true => rw [if_pos rfl]; exact h1 N tail rfl
  | false => rw [if_neg Bool.false_ne_true]; exact h2 N tail rfl
-- a subscript
theorem g_ixL {p : Addr} {xs : List V} {k : Int} (h : SqL K H p xs) (ha : atI xs k = some v) (q : Q v H) : rIxL K (.ref p) (.int k) H Q := ⟨p, xs, k, v, rfl, rfl, h, ha, q⟩
theorem g_setL {p : Addr} {xs : List V} {k : Int} {n : Nat} {Q : Hp → Prop} (h : H p = some (.lst xs)) (hn : ixN xs.length k = some n) (q : Q (upd H p (.lst (xs.set n v)))) : rSetL (.ref p) (.int k) v H Q := ⟨p, xs, k, n, rfl, rfl, h, hn, q⟩
theorem g_bits {to : TE} (q : to σ H fun x H1 => ∃ i, x = .int i ∧ Q (.int (Builtin.Int.intBits i : Nat)) H1) : tBits to σ H Q := q
theorem g_exint {a : Int} {P : Int → Prop} (h : P a) : ∃ i, V.int a = V.int i ∧ P i := ⟨a, rfl, h⟩
/-- a for's turns, the source known -/
def FW (g : TG) (tb : TS) (D : Ends) (J : It) (σ : L2.St) (H : Hp) : Prop := ∃ W : Nat → Nat → L2.St → Hp → Prop, (∃ m, W 0 m σ H) ∧ ∀ i m σ H, W i m σ H →
  (J.stop i H ∧ D.nx σ H) ∨ (J.go i H ∧ ∃ N : L2.St → Hp → Prop, (∀ σ' H', N σ' H' → ∃ m', m' < m ∧ W (i + 1) m' σ' H') ∧ ∀ x H', J.yld i H x H' → g x σ H' fun σ2 H2 => tb { D with nx := N, ct := N, bk := D.nx } σ2 H2)
theorem g_for {wi : TI} {g : TG} {tb : TS} (q : wi σ H fun J H1 => FW g tb D J σ H1) : tFor wi g tb D σ H := q
theorem g_iRng1 {ta : TA} {R : It → Hp → Prop} (q : ta σ H fun vs H1 => ∃ n : Int, vs = [.int n] ∧ -(2 ^ 62) ≤ n ∧ n < 2 ^ 62 ∧ R (Itr 0 n.toNat) H1) : iRng1 ta σ H R := q
theorem g_exR1 {n : Int} {R : Int → Prop} (h1 : -(2 ^ 62) ≤ n) (h2 : n < 2 ^ 62) (q : R n) : ∃ k : Int, [V.int n] = [V.int k] ∧ -(2 ^ 62) ≤ k ∧ k < 2 ^ 62 ∧ R k := ⟨n, rfl, h1, h2, q⟩
theorem g_iRng2 {ta : TA} {R : It → Hp → Prop} (q : ta σ H fun vs H1 => ∃ i j : Int, vs = [.int i, .int j] ∧ (-(2 ^ 62) ≤ i ∧ i < 2 ^ 62 ∧ -(2 ^ 62) ≤ j ∧ j < 2 ^ 62) ∧ R (Itr i (j - i).toNat) H1) : iRng2 ta σ H R := q
theorem g_exR2 {n m : Int} {R : Int → Int → Prop} (h : -(2 ^ 62) ≤ n ∧ n < 2 ^ 62 ∧ -(2 ^ 62) ≤ m ∧ m < 2 ^ 62) (q : R n m) : ∃ i j : Int, [V.int n, V.int m] = [V.int i, V.int j] ∧ (-(2 ^ 62) ≤ i ∧ i < 2 ^ 62 ∧ -(2 ^ 62) ≤ j ∧ j < 2 ^ 62) ∧ R i j := ⟨n, m, rfl, h, q⟩
theorem g_iList {tl : TE} {R : It → Hp → Prop} (q : tl σ H fun x H1 => ∃ a, x = .ref a ∧ (∃ xs, SqL K H1 a xs) ∧ R (Itl K a) H1) : iList K tl σ H R := q
theorem g_exL {a : Addr} {xs : List V} {R : Addr → Prop} (h : SqL K H a xs) (q : R a) : ∃ b, V.ref a = V.ref b ∧ (∃ xs, SqL K H b xs) ∧ R b := ⟨a, rfl, ⟨xs, h⟩, q⟩
theorem g_iTup {tl : TE} {R : It → Hp → Prop} (q : tl σ H fun x H1 => ∃ a, x = .ref a ∧ (∃ xs, SqT K H1 a xs) ∧ R (Itt K a) H1) : iTup K tl σ H R := q
theorem g_exT {a : Addr} {xs : List V} {R : Addr → Prop} (h : SqT K H a xs) (q : R a) : ∃ b, V.ref a = V.ref b ∧ (∃ xs, SqT K H b xs) ∧ R b := ⟨a, rfl, ⟨xs, h⟩, q⟩
theorem fw_range {lo : Int} {n : Nat} {g : TG} {tb : TS} (Pv : Nat → L2.St → Hp → Prop) (h0 : Pv 0 σ H)
    (hs : ∀ i σ H, i < n → Pv i σ H → g (.int (lo + (i : Int))) σ H fun σ2 H2 => tb { D with nx := Pv (i + 1), ct := Pv (i + 1), bk := D.nx } σ2 H2) (hd : ∀ σ H, Pv n σ H → D.nx σ H) : FW g tb D (Itr lo n) σ H := for_range Pv h0 hs hd
theorem fw_list {a : Addr} {xs : List V} {g : TG} {tb : TS} (Pv : Nat → L2.St → Hp → Prop) (h0 : Pv 0 σ H) (hl : ∀ i σ H, i ≤ xs.length → Pv i σ H → SqL K H a xs)
    (hs : ∀ i x σ H, xs[i]? = some x → Pv i σ H → g x σ H fun σ2 H2 => tb { D with nx := Pv (i + 1), ct := Pv (i + 1), bk := D.nx } σ2 H2) (hd : ∀ σ H, Pv xs.length σ H → D.nx σ H) : FW g tb D (Itl K a) σ H := for_list Pv h0 hl hs hd
theorem fw_tup {a : Addr} {xs : List V} {g : TG} {tb : TS} (Pv : Nat → L2.St → Hp → Prop) (h0 : Pv 0 σ H) (hl : ∀ i σ H, i ≤ xs.length → Pv i σ H → SqT K H a xs)
    (hs : ∀ i x σ H, xs[i]? = some x → Pv i σ H → g x σ H fun σ2 H2 => tb { D with nx := Pv (i + 1), ct := Pv (i + 1), bk := D.nx } σ2 H2) (hd : ∀ σ H, Pv xs.length σ H → D.nx σ H) : FW g tb D (Itt K a) σ H := for_tup Pv h0 hl hs hd
end
end Gx

namespace Gx
open PySem L2
/-- the built-in names that the text leaves alone -/
structure Bt (mg : Str → Option Value) : Prop where
  n_len : mg "len" = none
  n_abs : mg "abs" = none
  n_max : mg "max" = none
  n_min : mg "min" = none
  n_range : mg "range" = none
  n_sorted : mg "sorted" = none
  n_set : mg "set" = none
  n_list : mg "list" = none
  n_tuple : mg "tuple" = none
  n_dict : mg "dict" = none
  n_int : mg "int" = none
  n_str : mg "str" = none
  n_bool : mg "bool" = none
  n_all : mg "all" = none
  n_any : mg "any" = none
  n_sum : mg "sum" = none
  n_isinstance : mg "isinstance" = none
  n_repr : mg "repr" = none
  n_zip : mg "zip" = none
  n_enumerate : mg "enumerate" = none
/-- a def of the module, as it stands behind the top -/
structure Dn (K : PySem.W.Frag) (mg : Str → Option Value) (x : Str) (st : Stmt) (ps : List Str) (f : Addr) (fd : FuncData) : Prop where
  fn : Fun K x x st f fd
  mgf : mg x = some (.ref f)
  bd : Binds K fd ps []
section
variable {P : Program} {w : World} {K : PySem.W.Frag} {mg : Str → Option Value} {base : Heap}
theorem cal_of {x : Str} {st : Stmt} {ps : List Str} {f : Addr} {fd : FuncData} {k : Nat} {sp : Sp} (D : Dn K mg x st ps f fd) (F : FnOk P w K mg base CX0 k f fd ps sp) : C8.Cal P w K mg base k x sp [] :=
  ⟨f, fd, ps, [], F, D.mgf, D.fn.kp, D.bd, .nil⟩
end
/-! ### what a draw's def does to the list that it draws from -/
def spDip0 : Sp := fun vs H Q _ => ∃ (f : Addr) (x y z m : Int), vs = [.ref f, .int m] ∧ H f = some (three x y z) ∧ 0 ≤ x ∧ 0 < m ∧ m.natAbs < 2 ^ 1000 ∧
  ∀ r x' y' z' : Int, 0 ≤ r → r < m → 0 ≤ x' → Q (.int r) (upd H f (three x' y' z'))
/-- a number from 0 below m; all that was tracked stays -/
def spDip : Sp := fun vs H Q _ => ∃ (f : Addr) (m : Int), vs = [.ref f, .int m] ∧ H f = some (FlowO f) ∧ 0 < m ∧ m.natAbs < 2 ^ 1000 ∧
  ∀ (r : Int) (H' : Hp), 0 ≤ r → r < m → Same H H' → Q (.int r) H'
theorem dip_view {P : Program} {w : World} {K : PySem.W.Frag} {mg : Str → Option Value} {base : Heap} {k : Nat} {fa : Addr} {fd : FuncData} {ps : List Str} (F : FnOk P w K mg base CX0 k fa fd ps spDip0) : FnOk P w K mg base CX0 k fa fd ps spDip := by
  refine flow_view F fun vs H Q E h => ?_
  obtain ⟨f, m, rfl, hf, h0, hm, k⟩ := h
  refine ⟨f, hf, fun x y z hx => ⟨f, x, y, z, m, rfl, upd_same, hx, h0, hm, fun r x' y' z' h1 h2 h3 => ⟨⟨x', y', z', h3, upd_same⟩, k r _ h1 h2 fun b o e => ?_⟩⟩⟩
  by_cases hb : b = f
  · subst hb
    rw [hf] at e
    cases e
    exact upd_same
  · rw [upd_ne hb, upd_ne hb, upd_ne hb]
    exact e
/-- a def that makes such a list -/
theorem flow_made {P : Program} {w : World} {K : PySem.W.Frag} {mg : Str → Option Value} {base : Heap} {k : Nat} {fa : Addr} {fd : FuncData} {ps : List Str} {sp sp' : Sp} (F : FnOk P w K mg base CX0 k fa fd ps sp)
    (hs : ∀ vs H Q E, sp' vs H Q E → sp vs H (fun v H' => ∃ f x y z, v = .ref f ∧ 0 ≤ x ∧ H' f = some (three x y z) ∧ Q v (upd H' f (FlowO f))) E) : FnOk P w K mg base CX0 k fa fd ps sp' := by
  refine ⟨fun vs H Q E q => F.len _ _ _ _ (hs vs H Q E q), fun A outer s H args us vs Q E hr he hb hv q => ?_⟩
  refine codeAny_mono (F.run A outer s _ args us vs _ E hr he hb hv (hs vs H Q E q)) fun r s' hq => ?_
  cases r with
  | error e => exact hq.elim
  | ok fl =>
    cases fl with
    | ret u =>
      obtain ⟨v, H', os, bare, un, hok, rv, f, x, y, z, ev, hx, e', q'⟩ := hq
      have there : ∃ o, s'.heap.get? f = some o := by
        have q : ObjOk P w H' s'.heap f (three x y z) := hok f _ e'
        obtain ⟨_, its, n, r, e⟩ := q
        exact ⟨_, e⟩
      exact ⟨v, upd H' f (FlowO f), os, bare, un.trans (Un.write (by rw [e']; trivial) (Or.inl rfl) (fun _ _ _ q => q) there), flow_close hok e' hx, rv, q'⟩
    | next => exact hq.elim
    | brk => exact hq.elim
    | cont => exact hq.elim
end Gx

namespace Gx
open PySem L2
/-! ### heaps that keep what they had -/
theorem same_get {H H' : Hp} {a : Addr} {o : HO} (s : Same H H') (h : H a = some o) : H' a = some o := s a o h
theorem same_new {H : Hp} {p : Addr} {o : HO} (h : H p = none) : Same H (upd H p o) := fun a u e => by
  rw [upd_ne (ne_of_none e h)]
  exact e
theorem same_mut {H H' : Hp} {p : Addr} {o : HO} (s : Same H H') (h : H p = none) : Same H (upd H' p o) := fun a u ha => by
  rw [upd_ne (ne_of_none ha h)]
  exact s a u ha
theorem same_sq {K : PySem.W.Frag} {H H' : Hp} {a : Addr} {xs : List V} (e : Same H H') (h : SqL K H a xs) : SqL K H' a xs := e.seq h
theorem same_rd {H H' : Hp} {a : Addr} {u : HO} (e : Same H H') (h : Rd H a u) : Rd H' a u := by
  rcases h with h | ⟨o, h⟩
  · exact Or.inl (e a _ h)
  · exact Or.inr ⟨o, e a _ h⟩
theorem same_sqT {K : PySem.W.Frag} {H H' : Hp} {a : Addr} {xs : List V} (e : Same H H') (h : SqT K H a xs) : SqT K H' a xs := by
  rcases h with h | h
  · exact Or.inl (same_rd e h)
  · exact Or.inr h
theorem same_free {H H' : Hp} {p : Addr} (e : Same H H') (h : H' p = none) : H p = none := e.free h
theorem big_le {n : Nat} (h : n ≤ 100000) : n ≤ sizeLine := Nat.le_trans h (by decide)
theorem big_lt {n : Nat} (h : n < 100000) : n < sizeLine := Nat.lt_of_lt_of_le h (by decide)
section
variable {σ : L2.St} {H H0 : Hp} {Q : VK} {K : PySem.W.Frag} {v x y : V} {E : XK}
/-! ### displays -/
def MkL (xs : List V) (H : Hp) (Q : VK) : Prop := xs.length ≤ sizeLine ∧ ∀ p, H p = none → Q (.ref p) (upd H p (.lst xs))
def MkT (xs : List V) (H : Hp) (Q : VK) : Prop := xs.length ≤ sizeLine ∧ ∀ p, H p = none → Q (.ref p) (upd H p (.tup xs))
theorem g_lst {ts : TA} (q : ts σ H fun xs H1 => MkL xs H1 Q) : tLst ts σ H Q := q
theorem g_tup {ts : TA} (q : ts σ H fun xs H1 => MkT xs H1 Q) : tTup ts σ H Q := q
theorem g_mkL {xs : List V} (hl : xs.length ≤ 100000) (k : ∀ p H', H p = none → Same H H' → H' p = some (.lst xs) → Q (.ref p) H') : MkL xs H Q :=
  ⟨big_le hl, fun p hp => k p _ hp (same_new hp) upd_same⟩
theorem g_mkT {xs : List V} (hl : xs.length ≤ 100000) (k : ∀ p H', H p = none → Same H H' → H' p = some (.tup xs) → Q (.ref p) H') : MkT xs H Q :=
  ⟨big_le hl, fun p hp => k p _ hp (same_new hp) upd_same⟩
/-! ### an item of a written list at a drawn place: what all of them have -/
theorem atI_in {xs : List V} {i : Int} (h0 : 0 ≤ i) (h1 : i < xs.length) : ∃ v, atI xs i = some v ∧ v ∈ xs := by
  have hj : i.toNat < xs.length := by omega
  refine ⟨xs[i.toNat], ?_, List.getElem_mem hj⟩
  have e : ((i.toNat : Nat) : Int) = i := by omega
  have z := atI_nat (List.getElem?_eq_getElem hj)
  rw [e] at z
  exact z
theorem g_ixP {p : Addr} {xs : List V} {i : Int} (P : V → Prop) (h : H p = some (.lst xs)) (h0 : 0 ≤ i) (h1 : i < xs.length) (all : ∀ x ∈ xs, P x) (q : ∀ v, P v → Q v H) : rIxL K (.ref p) (.int i) H Q := by
  obtain ⟨v, e, m⟩ := atI_in h0 h1
  exact ⟨p, xs, i, v, rfl, rfl, SqL.of h, e, q v (all v m)⟩
/-- .. of ints -/
theorem g_ixI {p : Addr} {xs : List V} {i : Int} (P : Int → Prop) (h : H p = some (.lst xs)) (h0 : 0 ≤ i) (h1 : i < xs.length) (all : ∀ x ∈ xs, ∃ n, x = .int n ∧ P n) (q : ∀ n, P n → Q (.int n) H) : rIxL K (.ref p) (.int i) H Q :=
  g_ixP _ h h0 h1 all fun v ⟨n, e, pn⟩ => by subst e; exact q n pn
theorem all_nil {P : V → Prop} : ∀ x ∈ ([] : List V), P x := fun _ h => nomatch h
theorem all_cons {P : V → Prop} {x : V} {xs : List V} (h : P x) (r : ∀ y ∈ xs, P y) : ∀ y ∈ x :: xs, P y := fun y hy => by
  rcases List.mem_cons.mp hy with rfl | hy
  · exact h
  · exact r y hy
/-- an int of a list of ints, at any place of it -/
theorem g_ixN {p : Addr} {ns : List Int} {i : Int} (h : SqL K H p (ns.map V.int)) (h0 : 0 ≤ i) (h1 : i < ns.length) (q : ∀ n, n ∈ ns → ns[i.toNat]? = some n → Q (.int n) H) : rIxL K (.ref p) (.int i) H Q := by
  have hj : i.toNat < ns.length := by omega
  have e : ((i.toNat : Nat) : Int) = i := by omega
  have z : (ns.map V.int)[i.toNat]? = some (.int ns[i.toNat]) := by rw [List.getElem?_map, List.getElem?_eq_getElem hj] <;> rfl
  have z2 := atI_nat z
  rw [e] at z2
  exact ⟨p, _, i, _, rfl, rfl, h, z2, q _ (List.getElem_mem hj) (List.getElem?_eq_getElem hj)⟩
/-! ### append, and calls of built-ins -/
theorem g_BM {T : String} {r : V → List V → Hp → VK → Prop} {to : TE} {t : TA} (q : to σ H fun x H1 => tyV K T x H1 ∧ t σ H1 fun xs H2 => r x xs H2 Q) : tBM K T r to t σ H Q := q
theorem g_BM0 {T : String} {r : V → List V → Hp → VK → Prop} {to : TE} (q : to σ H fun x H1 => tyV K T x H1 ∧ r x [] H1 Q) : tBM0 K T r to σ H Q := q
theorem ty_list {p : Addr} {xs : List V} (h : H p = some (.lst xs)) : tyV K "list" (.ref p) H := Or.inl ⟨rfl, xs, SqL.of h⟩
theorem g_tyL {p : Addr} {xs : List V} {P : Prop} (h : H p = some (.lst xs)) (q : P) : tyV K "list" (.ref p) H ∧ P := ⟨ty_list h, q⟩
theorem g_app {p : Addr} {xs : List V} (s : Same H0 H) (n : H0 p = none) (h : H p = some (.lst xs)) (hl : xs.length < 100000) (k : ∀ H', Same H0 H' → H' p = some (.lst (xs ++ [y])) → Q .non H') : rAppend (.ref p) [y] H Q :=
  ⟨p, xs, y, rfl, rfl, h, big_lt hl, k _ (same_mut s n) upd_same⟩
def rLenQ (K : PySem.W.Frag) : List V → Hp → VK → Prop := fun xs H Q => ∃ p ys, xs = [.ref p] ∧ (SqL K H p ys ∨ SqT K H p ys) ∧ Q (.int ys.length) H
def rAbsQ : List V → Hp → VK → Prop := fun xs H Q => ∃ i, xs = [.int i] ∧ Q (.int (if i < 0 then -i else i)) H
def rMaxQ : List V → Hp → VK → Prop := fun xs H Q => ∃ i j, xs = [.int i, .int j] ∧ Q (.int (if j > i then j else i)) H
def rMinQ : List V → Hp → VK → Prop := fun xs H Q => ∃ i j, xs = [.int i, .int j] ∧ Q (.int (if j < i then j else i)) H
def rIntQ : List V → Hp → VK → Prop := fun xs H Q => (∃ i, xs = [.int i] ∧ Q (.int i) H) ∨ ∃ k, xs = [.bl k] ∧ Q (.int (if k then 1 else 0)) H
def rListQ (K : PySem.W.Frag) : List V → Hp → VK → Prop := fun xs H Q => ∃ p ys, xs = [.ref p] ∧ (SqL K H p ys ∨ SqT K H p ys) ∧ ∀ l, H l = none → Q (.ref l) (upd H l (.lst ys))
theorem cr_lenQ {X : Cx} : CallR X (.builtin "len") (rLenQ X.K) := call_len_seq
theorem cr_absQ {X : Cx} : CallR X (.builtin "abs") rAbsQ := call_abs
theorem cr_maxQ {X : Cx} (hc : X.calm = true) : CallR X (.builtin "max") rMaxQ := call_max2 hc
theorem cr_minQ {X : Cx} (hc : X.calm = true) : CallR X (.builtin "min") rMinQ := call_min2 hc
theorem cr_intQ {X : Cx} : CallR X (.type "int") rIntQ := call_int1
theorem cr_listQ {X : Cx} : CallR X (.type "list") (rListQ X.K) := call_list_of
theorem g_len {p : Addr} {xs : List V} (h : SqL K H p xs) (q : Q (.int (xs.length : Int)) H) : rLenQ K [V.ref p] H Q := ⟨p, xs, rfl, .inl h, q⟩
theorem g_lenT {p : Addr} {xs : List V} (h : SqT K H p xs) (q : Q (.int (xs.length : Int)) H) : rLenQ K [V.ref p] H Q := ⟨p, xs, rfl, .inr h, q⟩
theorem g_min2 {a b : Int} (q : ∀ c, c ≤ a → c ≤ b → (c = a ∨ c = b) → Q (.int c) H) : rMinQ [V.int a, V.int b] H Q :=
  ⟨a, b, rfl, by split <;> exact q _ (by omega) (by omega) (by omega)⟩
theorem g_max2 {a b : Int} (q : ∀ c, a ≤ c → b ≤ c → (c = a ∨ c = b) → Q (.int c) H) : rMaxQ [V.int a, V.int b] H Q :=
  ⟨a, b, rfl, by split <;> exact q _ (by omega) (by omega) (by omega)⟩
theorem g_abs {a : Int} (q : ∀ c, 0 ≤ c → (c = a ∨ c = -a) → Q (.int c) H) : rAbsQ [V.int a] H Q :=
  ⟨a, rfl, by split <;> exact q _ (by omega) (by omega)⟩
theorem g_intB {b : Bool} (q : Q (.int (if b = true then 1 else 0)) H) : rIntQ [V.bl b] H Q := .inr ⟨b, rfl, q⟩
theorem g_listof {p : Addr} {xs : List V} (h : SqL K H p xs) (k : ∀ l H', H l = none → Same H H' → H' l = some (.lst xs) → Q (.ref l) H') : rListQ K [V.ref p] H Q :=
  ⟨p, xs, rfl, .inl h, fun l hl => k l _ hl (same_new hl) upd_same⟩
theorem bt_len : bootBuiltins "len" = some (.builtin "len") := by decide +kernel
theorem bt_abs : bootBuiltins "abs" = some (.builtin "abs") := by decide +kernel
theorem bt_max : bootBuiltins "max" = some (.builtin "max") := by decide +kernel
theorem bt_min : bootBuiltins "min" = some (.builtin "min") := by decide +kernel
theorem bt_sorted : bootBuiltins "sorted" = some (.builtin "sorted") := by decide +kernel
theorem bt_all : bootBuiltins "all" = some (.builtin "all") := by decide +kernel
theorem bt_any : bootBuiltins "any" = some (.builtin "any") := by decide +kernel
theorem bt_sum : bootBuiltins "sum" = some (.builtin "sum") := by decide +kernel
theorem bt_repr : bootBuiltins "repr" = some (.builtin "repr") := by decide +kernel
theorem bt_isinstance : bootBuiltins "isinstance" = some (.builtin "isinstance") := by decide +kernel
theorem bt_int : bootBuiltins "int" = some (.type "int") := by decide +kernel
theorem bt_bool : bootBuiltins "bool" = some (.type "bool") := by decide +kernel
theorem bt_str : bootBuiltins "str" = some (.type "str") := by decide +kernel
theorem bt_list : bootBuiltins "list" = some (.type "list") := by decide +kernel
theorem bt_tuple : bootBuiltins "tuple" = some (.type "tuple") := by decide +kernel
theorem bt_dict : bootBuiltins "dict" = some (.type "dict") := by decide +kernel
theorem bt_set : bootBuiltins "set" = some (.type "set") := by decide +kernel
/-! ### a power, written out -/
theorem g_pow {a b c : Int} (hc : CPow a b) (e : a ^ b.toNat = c) (q : Q (.int c) H) : rI CPow (fun i j => .int (i ^ j.toNat)) (.int a) (.int b) H Q := ⟨a, b, rfl, rfl, hc, by show Q (.int (a ^ b.toNat)) H; rw [e]; exact q⟩
/-! ### calls of defs -/
theorem g_call {sp : Sp} {dvs : List V} {t : TA} (q : t σ H fun vs H1 => sp (vs ++ dvs) H1 Q E) : tCall sp dvs E t σ H Q := q
theorem g_dip {f : Addr} {m : Int} (hf : H f = some (FlowO f)) (hm : 0 < m) (hb : m.natAbs < 2 ^ 1000) (k : ∀ r H', 0 ≤ r → r < m → Same H H' → Q (.int r) H') : spDip ([V.ref f, V.int m] ++ []) H Q E :=
  ⟨f, m, rfl, hf, hm, hb, fun r H' h0 h1 s => k r H' h0 h1 s⟩
end
/-- below ten thousand million .. (a hundred signs) a number has fewer than a thousand bits -/
theorem small_bits {m : Int} (h : -10000000000000000000000000000000000000000000000000000000000000000000000000000000 ≤ m) (h2 : m ≤ 10000000000000000000000000000000000000000000000000000000000000000000000000000000) : m.natAbs < 2 ^ 1000 := by
  have e : (10000000000000000000000000000000000000000000000000000000000000000000000000000000 : Nat) < 2 ^ 1000 := by decide
  exact Nat.lt_of_le_of_lt (show m.natAbs ≤ 10000000000000000000000000000000000000000000000000000000000000000000000000000000 by omega) e
end Gx

/-! Defs that call repr: they run where no repr is under way (guards), so their promise is kept there -/
namespace Gx
open PySem L2 PySem.Spec PyProof.Rows
structure FnG (P : Program) (w : World) (K : PySem.W.Frag) (mg : Str → Option Value) (base : Heap) (k : Nat) (f : Addr) (fd : FuncData) (ps : List Str) (sp : Sp) : Prop where
  size : ∀ vs H Q E, sp vs H Q E → vs.length = ps.length
  goes : ∀ (A : Around) (outer : List Env) (s : Shared) (H : Hp) (args : Args) (us : List Value) (vs : List V) (Q : VK) (E : XK), A.guards = some [] → Room k A → Env0 P w K mg base A outer s H →
    BindsTo s fd args (ps.zip us) → Vals vs us → sp vs H Q E → codeAny (model P w) A (.call (.ref f) args) (CR CX0 outer P w H s Q E) s
section
variable {P : Program} {w : World} {K : PySem.W.Frag} {mg : Str → Option Value} {base : Heap}
/-- such a def, by its body -/
theorem fnG_of {x qual : Str} {st : Stmt} {f : Addr} {fd : FuncData} {N ps : List Str} {k : Nat} {sp : Sp} (F : Fun K x qual st f fd) (S : FnScope N ps (defScope st)) (size : ∀ vs H Q E, sp vs H Q E → vs.length = ps.length)
    (body : ∀ (cdv : Value) (A : Around) (outer : List Env) (s : Shared) (H : Hp) (vs : List V) (Q : VK) (E : XK), A.guards = some [] → Room k (A.deeper (envOfC qual (defScope st) s.heap.objs.size f cdv)) → sp vs H Q E →
      ∃ t, PSs (cxOf CX0 P w K mg base N qual (defScope st) f cdv A outer s H E).nox (defBody st) t ∧ t { nx := fun _ H' => Q .non H', rt := Q } (start N vs) H) : FnG P w K mg base (k + 1) f fd ps sp := by
  obtain ⟨oc, od, kV, doc, pm, an, cdv, ct, osl, rfl, at_f, code⟩ := F.ex
  refine ⟨size, fun A outer s H args us vs Q E gd room e0 bnd rel hsp => ?_⟩
  have inK : K.In s.heap := e0.mod.kin.keeps fun b o e => (e0.bs b o e).1
  have named : ∀ y ∈ ps.zip us, (defScope st).names.lookup y.1 = some .local ∨ ((defScope st).names.lookup y.1 = some .cell ∧ ((cellsFrom (s.heap.objs.size + 1) (defScope st).names []).lookup y.1).isSome = true) := fun y hy =>
    (S.par y.1 (List.of_mem_zip hy).1).imp id fun q => ⟨q, PySem.W.cellsFrom_some _ _ _ (.inl q)⟩
  refine codeAny_call_function room.depth (inK _ _ at_f) rfl S.co S.gen rfl (PySem.W.codeRec_of inK code) (bnd _ _ _ _ (wpAny_newFunctionEnv_cells S.kind named fun env eqn s1 inc => ?_))
  subst eqn
  refine ⟨(e0.mod.nolimit.keeps fun b o e => (e0.bs b o e).1).keeps inc.toInCall.keep, codeAny_func ?_⟩
  obtain ⟨t, der, rd⟩ := body cdv A outer s H vs Q E gd (room.deeper _) hsp
  have I1 := inv_start (CX := CX0) (E := E) S room.hd e0 (size _ _ _ _ hsp) rel inc
  refine wpAny_mono (der.nox.run [] s1 (start N vs) H _ I1 rd) (fun fl s2 done => ?_) fun _ _ z => z
  cases fl with
  | ret u => obtain ⟨v, σ2, H2, J, rv, q⟩ := done; exact ⟨v, H2, J.os, J.bare, J.base, J.hok, rv, q⟩
  | next => obtain ⟨σ2, H2, J, q⟩ := done; exact ⟨V.non, H2, J.os, J.bare, J.base, J.hok, rfl, q⟩
  | brk => obtain ⟨_, _, _, no⟩ := done; exact no.elim
  | cont => obtain ⟨_, _, _, no⟩ := done; exact no.elim
/-- .. by its name -/
structure CalG (P : Program) (w : World) (K : PySem.W.Frag) (mg : Str → Option Value) (base : Heap) (k : Nat) (x : Str) (sp : Sp) : Prop where
  at_ : ∃ (f : Addr) (fd : FuncData) (ps : List Str), FnG P w K mg base k f fd ps sp ∧ mg x = some (.ref f) ∧ PySem.W.keepIn K (.ref f) = true ∧ Binds K fd ps []
theorem calG_of {x : Str} {st : Stmt} {ps : List Str} {f : Addr} {fd : FuncData} {k : Nat} {sp : Sp} (D : Dn K mg x st ps f fd) (F : FnG P w K mg base k f fd ps sp) : CalG P w K mg base k x sp :=
  ⟨f, fd, ps, F, D.mgf, D.fn.kp, D.bd⟩
end
section
variable {X : Cx} {k j : Nat} {x : Str} {sp : Sp} {e : Expr} {es : List Expr} {t : TA} {p pos : Pos}
theorem pe_cG (c : CalG X.prog X.w X.K X.mg X.base k x sp) (gd : X.A.guards = some []) (hr : Room j X.A) (hk : k ≤ j) (hg : Gl X x) (ha : PA X (e :: es) t)
    (hdb : (x == ("__debug__" : Str)) = false := by decide) (he : starEach (e :: es) X.env = (false, eval e X.env) :: starEach es X.env := by rfl) (hpl : (backTo pos (starEach es X.env)).any (·.1) = false := by rfl) :
    PE X (.Call (.Name x p) (e :: es) [] pos) (tCall sp [] (fun _ _ _ => False) t) := by
  obtain ⟨f, fd, ps, F, named, kept, bnd⟩ := c.at_
  refine ⟨fun pins s σ H Q I h => wpAny_Call_Name_kw (ld_glob I hg named ?_ hdb)⟩
  refine PySem.W.callWith_K (h₀ := X.base) I.ok.mod.kin kept (thn (ha.run pos pins s σ H _ I h) fun us s1 got => ?_) he hpl
  obtain ⟨vs, H1, I1, rel, q⟩ := got
  rw [List.append_nil] at q
  refine ⟨I1.kIn, wpAny_call (codeAny_mono (F.goes X.A X.stack s1 H1 ⟨us, []⟩ us vs Q _ gd (hr.mono hk) I1.env0 ?_ rel q) fun r s2 done => ?_)⟩
  · have b := bnd s1 us I1.kIn (by rw [List.append_nil, ← rel.length]; exact F.size _ _ _ _ q)
    rw [List.append_nil] at b
    exact b
  · cases r with
    | error er => exact done.elim
    | ok fl =>
      cases fl with
      | ret u => exact I1.after done
      | next => exact done.elim
      | brk => exact done.elim
      | cont => exact done.elim
/-- repr of data at any depth -/
def rReprQ (K : PySem.W.Frag) : List V → Hp → VK → Prop := fun xs H Q => ∃ a d, xs = [V.ref a] ∧ Dp K H (.ref a) d ∧ SeqAt.shaped d = true ∧ d.showable = true ∧ d.shown.length ≤ sizeLine ∧ Q (.str d.shown) H
theorem cr_repr (gd : X.A.guards = some []) (hr : Room j X.A) : CallR X (.builtin "repr") (rReprQ X.K) := by
  intro pins s σ H xs us Q I rel h
  obtain ⟨a, d, rfl, dp, sh, sw, sz, q⟩ := h
  cases rel with
  | cons r1 r2 =>
    cases r2
    obtain rfl := r1
    obtain ⟨as, rd⟩ := Dp.reads I d _ _ dp rfl
    have u := hr.units
    have dd := SeqAt.depth_of_shaped sh
    refine repr_of_reads' rd sw (PyData.noDict_hsm (PyData.hasDict_of_canLay d (SeqAt.canLay_of_shaped sh))) gd (by have := hr.un; omega) (fun _ _ z => z) (fun h' u tk kept => ?_) sz
    exact ⟨.str d.shown, H, I.kept kept, ⟨u, rfl⟩, q⟩
end
/-! ### the law's own call -/
section
theorem law_callG {P : Program} {w : World} {K : PySem.W.Frag} {mg mb : Str → Option Value} {k : Nat} {fa a : Addr} {fd : FuncData} {x : Str} {sp : Sp} {s1 : Shared} {vs : List Value} {ns : List Int}
    (inK : K.In s1.heap) (gn : s1.heap.Ns mainGlobals mg) (bn : s1.heap.Ns builtinsNs mb) (bb : ∀ x : Str, x ≠ "__name__" → mb x = bootBuiltins x) (lim : s1.heap.NoLimit) (gens : s1.gens = #[])
    (la : s1.heap.get? a = some { cls := .type "list", data := .seq vs.toArray }) (li : IntsAre vs ns) (ll : ns.length ≤ sizeLine) (room : Room k callerA)
    (F : ∀ base : Heap, K.In base → base.Ns mainGlobals mg → FnG P w K mg base k fa fd [x] sp) (bnd : ∀ (s : Shared) (u : Value), BindsTo s fd ⟨[u], []⟩ [(x, u)])
    (goal : ∀ H : Hp, SqL K H a (ns.map V.int) → sp [.ref a] H (fun v _ => v = .bl true) fun _ _ _ => False) :
    codeAny (model P w) callerA (.call (.ref fa) ⟨[.ref a], []⟩) (fun r s' => r = .ok (.ret (.bool true)) ∧ OldK s1.heap s'.heap ∧ s'.os = s1.os ∧ AllBare s'.gens) s1 := by
  have rel := vals_ints li
  have key : ∀ H : Hp, Only H → SqL K H a (ns.map V.int) → HOk P w H s1.heap → (∀ b u, H b = some u → b = a ∧ K.lookup a = none) →
      codeAny (model P w) callerA (.call (.ref fa) ⟨[.ref a], []⟩) (fun r s' => r = .ok (.ret (.bool true)) ∧ OldK s1.heap s'.heap ∧ s'.os = s1.os ∧ AllBare s'.gens) s1 := by
    intro H only sq hok at_a
    have nd : ∀ {b : Addr} {o : Obj} {es : Array DictEntry} {ep : Nat}, s1.heap.get? b = some o → o.data = .dict es ep → H b = none := fun {b o es ep} e d => by
      cases q : H b with
      | none => rfl
      | some u =>
        obtain ⟨rfl, _⟩ := at_a b u q
        rw [la] at e
        obtain rfl := Option.some.inj e
        exact (show False by cases (show Data.seq vs.toArray _ = Data.dict es ep from d)).elim
    have hid : ∀ {b : Addr} {m : Str → Option Value}, s1.heap.Ns b m → (hidT s1.heap H).Ns b m := fun {b m} ⟨o, es, ep, e, d, r⟩ => ⟨o, es, ep, hidT_get e (nd e d), d, r⟩
    have inB : K.In (hidT s1.heap H) := fun b o e => hidT_get (inK b o e) (by
      cases q : H b with
      | none => rfl
      | some u =>
        obtain ⟨rfl, no⟩ := at_a b u q
        rw [no] at e
        cases e)
    have md : Mod K mg (hidT s1.heap H) := ⟨inB, hid gn, ⟨mb, hid bn, bb⟩, (by obtain ⟨mc, h1, h2⟩ := lim; exact ⟨mc, hid h1, h2⟩)⟩
    have st : Env0 P w K mg (hidT s1.heap H) callerA [] s1 H := ⟨rfl, md, fun b o e => of_hidT e, Nat.le_of_eq (hidT_size _ _), trivial, (fun b hb => nomatch hb), hok, .of_eq gens⟩
    refine codeAny_mono ((F _ inB (hid gn)).goes callerA [] s1 H ⟨[.ref a], []⟩ [.ref a] [.ref a] _ _ rfl room st (bnd s1 (.ref a)) (.cons rfl .nil) (goal H sq)) fun r s2 done => ?_
    cases r with
    | error e => exact done.elim
    | ok fl =>
      cases fl with
      | next => exact done.elim
      | brk => exact done.elim
      | cont => exact done.elim
      | ret u =>
        obtain ⟨v, H2, os, bare, un, hok2, rv, q⟩ := done
        obtain rfl : v = .bl true := q
        obtain rfl : u = Value.bool true := rv
        refine ⟨rfl, OldK.of_keep fun b o e => ?_, os, bare⟩
        cases q : H b with
        | none => exact un.keep b o e q (fun z => nomatch z) (fun z => nomatch z)
        | some u =>
          rcases only b with z | ⟨ob, xs, z⟩
          · exact absurd (q.symm.trans z) (by simp)
          · have e1 := (hok b _ z).1
            have e2 := (hok2 b _ (un.frzs b ob _ z)).1
            obtain rfl := Option.some.inj (e.symm.trans e1)
            exact e2
  cases hk : K.lookup a with
  | some o =>
    have e := (inK a o hk).symm.trans la
    obtain rfl := Option.some.inj e
    exact key (fun _ => none) (fun _ => .inl rfl) (.inr ⟨_, vs.toArray, _, hk, rfl, rfl, rfl, by rw [List.size_toArray, li.length]; exact ll, by simpa using rel⟩) (fun b u z => by cases (show (none : Option HO) = some u from z)) fun b u z => by cases (show (none : Option HO) = some u from z)
  | none =>
    have one : ∀ (b : Addr) (u : HO), (if b = a then some (HO.frz { cls := .type "list", data := .seq vs.toArray } (.lst (ns.map V.int))) else none) = some u → b = a ∧ u = HO.frz { cls := .type "list", data := .seq vs.toArray } (.lst (ns.map V.int)) := fun b u z => by
      split at z
      · exact ⟨by assumption, (Option.some.inj z).symm⟩
      · cases z
    refine key (fun b => if b = a then some (.frz { cls := .type "list", data := .seq vs.toArray } (.lst (ns.map V.int))) else none) (fun b => ?_) (.inl (.inr ⟨{ cls := .type "list", data := .seq vs.toArray }, if_pos rfl⟩)) (fun b u z => ?_) fun b u z => ⟨(one b u z).1, hk⟩
    · by_cases hb : b = a
      · exact .inr ⟨_, _, if_pos hb⟩
      · exact .inl (if_neg hb)
    · obtain ⟨rfl, rfl⟩ := one b u z
      exact ⟨la, by rw [List.length_map]; exact ll, vs, _, rel, la⟩
theorem walkG {l : PySem.W.OpenLaw} {n k : Nat} {q : Program} {loose : List Str} {XP : (Str → Option Value) → Heap → Prop} {YP : World → Heap → Prop} {d : DefRec} {K : Params → PySem.W.Frag} {sp : PySem.W.Frag → Sp} {x : Str}
    (hn : l.most = some n) (hn2 : n ≤ sizeLine) (hdf : d.params.defaults = []) (hr : Room k callerA) (hY : ∀ (w : World) (h : Heap), YP w h → (K w.params).In h)
    (F : ∀ (w : World) (mg : Str → Option Value) (fa : Addr) (h : Heap), (K w.params).In h → h.Ns mainGlobals mg → mg d.name = some (.ref fa) →
      ∃ fd : FuncData, (∀ (s : Shared) (u : Value), BindsTo s fd ⟨[u], []⟩ [(x, u)]) ∧ ∀ base : Heap, (K w.params).In base → base.Ns mainGlobals mg → FnG l.prog w (K w.params) mg base k fa fd [x] (sp (K w.params)))
    (hsp : ∀ (K : PySem.W.Frag) (H : Hp) (a : Addr) (ns : List Int), ns.length ≤ n → SqL K H a (ns.map V.int) → sp K [.ref a] H (fun v _ => v = .bl true) fun _ _ _ => False) :
    PySem.W.WalkO q loose XP YP l.row.toRowW d [] (fun f vs => PySem.call f vs) := by
  refine Att.attach_call hn hdf fun w s₀ s1 mg mb fa o pm cd doc a vs ns G Y ho hd hcd named hobj hints few hg => ?_
  have inK := hY w _ Y
  obtain ⟨fd, bnd, mk⟩ := F w mg fa _ inK G.T.g named
  exact law_callG inK G.T.g G.T.b G.T.builtins G.T.nolimit hg hobj hints (Nat.le_trans few hn2) hr mk bnd fun H sq => hsp (K w.params) H a ns few sq
end
end Gx

set_option exponentiation.threshold 5000
/-! Data: what two of them have in common, how long their texts are -/
namespace Gx
open PySem L2
mutual
/-- no truth value, no dict -/
def bare : PyData → Bool
  | .none | .int _ | .str _ => true
  | .bool _ | .dict _ => false
  | .list xs | .tuple xs => bareAll xs
def bareAll : List PyData → Bool
  | [] => true
  | x :: xs => bare x && bareAll xs
end
theorem bareAll_iff : ∀ {xs : List PyData}, bareAll xs = true ↔ ∀ x ∈ xs, bare x = true
  | [] => by simp [bareAll]
  | x :: xs => by simp [bareAll, bareAll_iff (xs := xs)]
mutual
theorem eqv_is : ∀ d e : PyData, bare d = true → bare e = true → (PyData.eqv d e = true ↔ d = e)
  | .none, .none, _, _ => by simp [PyData.eqv]
  | .none, .int _, _, _ => by simp [PyData.eqv]
  | .none, .str _, _, _ => by simp [PyData.eqv]
  | .none, .list _, _, _ => by simp [PyData.eqv]
  | .none, .tuple _, _, _ => by simp [PyData.eqv]
  | .int _, .none, _, _ => by simp [PyData.eqv]
  | .int i, .int j, _, _ => by simp [PyData.eqv]
  | .int _, .str _, _, _ => by simp [PyData.eqv]
  | .int _, .list _, _, _ => by simp [PyData.eqv]
  | .int _, .tuple _, _, _ => by simp [PyData.eqv]
  | .str _, .none, _, _ => by simp [PyData.eqv]
  | .str _, .int _, _, _ => by simp [PyData.eqv]
  | .str x, .str y, _, _ => by simp [PyData.eqv]
  | .str _, .list _, _, _ => by simp [PyData.eqv]
  | .str _, .tuple _, _, _ => by simp [PyData.eqv]
  | .list _, .none, _, _ => by simp [PyData.eqv]
  | .list _, .int _, _, _ => by simp [PyData.eqv]
  | .list _, .str _, _, _ => by simp [PyData.eqv]
  | .list xs, .list ys, h1, h2 => by
    simp only [PyData.eqv, PyData.list.injEq]
    exact eqv_isAll xs ys (by simpa [bare] using h1) (by simpa [bare] using h2)
  | .list _, .tuple _, _, _ => by simp [PyData.eqv]
  | .tuple _, .none, _, _ => by simp [PyData.eqv]
  | .tuple _, .int _, _, _ => by simp [PyData.eqv]
  | .tuple _, .str _, _, _ => by simp [PyData.eqv]
  | .tuple _, .list _, _, _ => by simp [PyData.eqv]
  | .tuple xs, .tuple ys, h1, h2 => by
    simp only [PyData.eqv, PyData.tuple.injEq]
    exact eqv_isAll xs ys (by simpa [bare] using h1) (by simpa [bare] using h2)
  | .bool _, _, h, _ => by simp [bare] at h
  | .dict _, _, h, _ => by simp [bare] at h
  | _, .bool _, _, h => by simp [bare] at h
  | _, .dict _, _, h => by simp [bare] at h
theorem eqv_isAll : ∀ xs ys : List PyData, bareAll xs = true → bareAll ys = true → (PyData.eqvAll xs ys = true ↔ xs = ys)
  | [], [], _, _ => by simp [PyData.eqvAll]
  | [], _ :: _, _, _ => by simp [PyData.eqvAll]
  | _ :: _, [], _, _ => by simp [PyData.eqvAll]
  | x :: xs, y :: ys, h1, h2 => by
    simp only [bareAll, Bool.and_eq_true] at h1 h2
    simp only [PyData.eqvAll, Bool.and_eq_true, eqv_is x y h1.1 h2.1, eqv_isAll xs ys h1.2 h2.2, List.cons.injEq]
end
theorem eqv_yes {d e : PyData} (h1 : bare d = true) (h2 : bare e = true) (h : d = e) : PyData.eqv d e = true := (eqv_is d e h1 h2).mpr h
theorem eqv_no {d e : PyData} (h1 : bare d = true) (h2 : bare e = true) (h : ¬ d = e) : PyData.eqv d e = false := by
  cases q : PyData.eqv d e with
  | false => rfl
  | true => exact absurd ((eqv_is d e h1 h2).mp q) h
/-! ### small data -/
mutual
/-- ints of at most eighty digits, short texts, lists and tuples of such -/
def small : PyData → Bool
  | .none | .bool _ => true
  | .int i => decide (-100000000000000000000000000000000000000000000000000000000000000000000000000000000 ≤ i) && decide (i ≤ 100000000000000000000000000000000000000000000000000000000000000000000000000000000)
  | .str x => decide ((PySem.reprText x).length ≤ 100) && PyData.strOk x
  | .list xs | .tuple xs => smallAll xs
  | .dict _ => false
def smallAll : List PyData → Bool
  | [] => true
  | x :: xs => small x && smallAll xs
end
theorem smallAll_iff : ∀ {xs : List PyData}, smallAll xs = true ↔ ∀ x ∈ xs, small x = true
  | [] => by simp [smallAll]
  | x :: xs => by simp [smallAll, smallAll_iff (xs := xs)]
theorem log_of {i : Int} (h : (decide (-100000000000000000000000000000000000000000000000000000000000000000000000000000000 ≤ i) && decide (i ≤ 100000000000000000000000000000000000000000000000000000000000000000000000000000000)) = true) : i.natAbs.log2 < 1920 := by
  simp only [Bool.and_eq_true, decide_eq_true_eq] at h
  have b : i.natAbs < 2 ^ 1000 := by
    have e : (100000000000000000000000000000000000000000000000000000000000000000000000000000000 : Nat) < 2 ^ 1000 := by decide
    omega
  exact Nat.lt_of_lt_of_le (PySem.Flt.log2_lt_of (by decide : 0 < 1000) b) (by decide)
mutual
theorem small_show : ∀ d : PyData, small d = true → d.showable = true
  | .none, _ => by simp only [PyData.showable]
  | .bool _, _ => by simp only [PyData.showable]
  | .str _, _ => by simp only [PyData.showable]
  | .int i, h => by
    simp only [small] at h
    simp only [PyData.showable, decide_eq_true_eq]
    exact log_of h
  | .list xs, h => by
    simp only [small] at h
    simp only [PyData.showable]
    exact small_showAll xs h
  | .tuple xs, h => by
    simp only [small] at h
    simp only [PyData.showable]
    exact small_showAll xs h
  | .dict _, h => by simp [small] at h
theorem small_showAll : ∀ xs : List PyData, smallAll xs = true → PyData.showableAll xs = true
  | [], _ => by simp only [PyData.showableAll]
  | x :: xs, h => by
    simp only [smallAll, Bool.and_eq_true] at h
    simp only [PyData.showableAll, small_show x h.1, small_showAll xs h.2, Bool.and_self]
end
mutual
theorem small_lay : ∀ d : PyData, small d = true → d.canLay0 = true
  | .none, _ => by simp only [PyData.canLay0]
  | .bool _, _ => by simp only [PyData.canLay0]
  | .str _, h => by
    simp only [small, Bool.and_eq_true] at h
    simp only [PyData.canLay0]
    exact h.2
  | .int i, h => by simp only [PyData.canLay0]
  | .list xs, h => by
    simp only [small] at h
    simp only [PyData.canLay0]
    exact small_layAll xs h
  | .tuple xs, h => by
    simp only [small] at h
    simp only [PyData.canLay0]
    exact small_layAll xs h
  | .dict _, h => by simp [small] at h
theorem small_layAll : ∀ xs : List PyData, smallAll xs = true → PyData.canLayAll0 xs = true
  | [], _ => by simp only [PyData.canLayAll0]
  | x :: xs, h => by
    simp only [smallAll, Bool.and_eq_true] at h
    simp only [PyData.canLayAll0, small_lay x h.1, small_layAll xs h.2, Bool.and_self]
end
/-! ### the length of a text -/
mutual
def cnt : PyData → Nat
  | .none | .bool _ | .int _ | .str _ | .dict _ => 1
  | .list xs | .tuple xs => cntAll xs + 1
def cntAll : List PyData → Nat
  | [] => 0
  | x :: xs => cnt x + cntAll xs
end
theorem listText_le (ts : List Str) : (listText ts).length ≤ piled ts + 2 := by
  cases ts with
  | nil => exact (by decide : (listText []).length ≤ 0 + 2)
  | cons t r =>
    have h := textFrom_length_pos r 1 (("[" : Str) ++ (if (0 : Nat) > 0 then ", " else "" : String) ++ t) (Nat.succ_pos 0)
    have e : ((("[" : Str) ++ (if (0 : Nat) > 0 then ", " else "" : String) ++ t)).length = 1 + t.length := by
      rw [strLen_append, strLen_append]
      rfl
    have z : (listText (t :: r)).length = (textFrom 1 (("[" : Str) ++ (if (0 : Nat) > 0 then ", " else "" : String) ++ t) r).length + 1 := by
      show ((textFrom 1 (("[" : Str) ++ (if (0 : Nat) > 0 then ", " else "" : String) ++ t) r) ++ "]").length = _
      rw [strLen_append]
      rfl
    rw [z, h, e, piled_cons]
    omega
theorem tupleText_le (ts : List Str) : (tupleText ts).length ≤ piled ts + 3 := by
  unfold tupleText
  rw [strLen_append, strLen_append]
  have e1 : ((("(" : String) : Str)).length = 1 := rfl
  have e3 : (((if ts.length == 1 then ",)" else ")" : String) : Str)).length ≤ 2 := by split <;> decide
  have e2 : (Str.join ", " ts).length ≤ piled ts := by
    by_cases h : ts = []
    · subst h
      exact (by decide : (Str.join ", " []).length ≤ 0)
    · have := join_length_add ts h
      omega
  omega
theorem int_len {i : Int} (h : (decide (-100000000000000000000000000000000000000000000000000000000000000000000000000000000 ≤ i) && decide (i ≤ 100000000000000000000000000000000000000000000000000000000000000000000000000000000)) = true) : (Str.ofString (toString i)).length ≤ 82 := by
  simp only [Bool.and_eq_true, decide_eq_true_eq] at h
  have b : i.natAbs < 10 ^ 81 := by
    have e : (100000000000000000000000000000000000000000000000000000000000000000000000000000000 : Nat) < 10 ^ 81 := by decide
    omega
  have q := int_text_length_le10 (a := i) (k := 81) (by decide) b
  rw [ofString_length]
  exact q
mutual
theorem shown_le : ∀ d : PyData, small d = true → d.shown.length + 6 ≤ 130 * cnt d
  | .none, _ => by
    simp only [PyData.shown, cnt]
    exact (by decide : (("None" : String) : Str).length + 6 ≤ 130 * 1)
  | .bool b, _ => by
    simp only [PyData.shown, cnt]
    cases b <;> decide
  | .str x, h => by
    simp only [small, Bool.and_eq_true, decide_eq_true_eq] at h
    simp only [PyData.shown, cnt]
    have := h.1
    omega
  | .int i, h => by
    simp only [small] at h
    have := int_len h
    simp only [PyData.shown, cnt]
    show (Str.ofString (toString i)).length + 6 ≤ 130 * 1
    omega
  | .list xs, h => by
    simp only [small] at h
    have q := shown_leAll xs h
    have z := listText_le (PyData.shownAll xs)
    simp only [PyData.shown, cnt]
    omega
  | .tuple xs, h => by
    simp only [small] at h
    have q := shown_leAll xs h
    have z := tupleText_le (PyData.shownAll xs)
    simp only [PyData.shown, cnt]
    omega
  | .dict _, h => by simp [small] at h
theorem shown_leAll : ∀ xs : List PyData, smallAll xs = true → piled (PyData.shownAll xs) ≤ 130 * cntAll xs
  | [], _ => by simp [PyData.shownAll, cntAll, piled]
  | x :: xs, h => by
    simp only [smallAll, Bool.and_eq_true] at h
    have a := shown_le x h.1
    have b := shown_leAll xs h.2
    simp only [PyData.shownAll, cntAll, piled_cons]
    omega
end
theorem cntAll_le {c : Nat} : ∀ {xs : List PyData}, (∀ x ∈ xs, cnt x ≤ c) → cntAll xs ≤ c * xs.length
  | [], _ => by simp [cntAll]
  | x :: xs, h => by
    have a := h x List.mem_cons_self
    have b := cntAll_le (xs := xs) fun y hy => h y (List.mem_cons_of_mem _ hy)
    simp only [cntAll, List.length_cons, Nat.mul_succ]
    omega
theorem depthAll_le {c : Nat} : ∀ {xs : List PyData}, (∀ x ∈ xs, x.depth ≤ c) → PyData.depthAll xs ≤ c
  | [], _ => by simp [PyData.depthAll]
  | x :: xs, h => by
    have a := h x List.mem_cons_self
    have b := depthAll_le (xs := xs) fun y hy => h y (List.mem_cons_of_mem _ hy)
    simp only [PyData.depthAll]
    omega
/-- small, nested at most n deep, of at most m parts -/
structure Fine (n m : Nat) (d : PyData) : Prop where
  sm : small d = true
  dp : d.depth ≤ n
  ct : cnt d ≤ m
theorem Fine.shaped {n m : Nat} {d : PyData} (h : Fine n m d) (hn : n ≤ 64) : SeqAt.shaped d = true := by
  unfold SeqAt.shaped
  rw [small_lay d h.sm, decide_eq_true (Nat.le_trans h.dp hn)]
  rfl
theorem Fine.text {n m : Nat} {d : PyData} (h : Fine n m d) (hm : m ≤ 100000) : d.shown.length ≤ sizeLine := by
  have a := shown_le d h.sm
  have b := h.ct
  rw [sizeLine_eq]
  omega
theorem fine_none {n : Nat} : Fine n 1 .none := ⟨by simp [small], by simp [PyData.depth], by simp [cnt]⟩
theorem fine_bool {n : Nat} (b : Bool) : Fine n 1 (.bool b) := ⟨by simp [small], by simp [PyData.depth], by simp [cnt]⟩
theorem fine_int {n : Nat} {i : Int} (h1 : -100000000000000000000000000000000000000000000000000000000000000000000000000000000 ≤ i) (h2 : i ≤ 100000000000000000000000000000000000000000000000000000000000000000000000000000000) : Fine n 1 (.int i) :=
  ⟨by simp [small, h1, h2], by simp [PyData.depth], by simp [cnt]⟩
theorem fine_str {n : Nat} {x : Str} (h1 : (PySem.reprText x).length ≤ 100) (h2 : PyData.strOk x = true) : Fine n 1 (.str x) := ⟨by simp [small, h1, h2], by simp [PyData.depth], by simp [cnt]⟩
theorem fine_list {n m : Nat} {xs : List PyData} (h : ∀ x ∈ xs, Fine n m x) : Fine (n + 1) (m * xs.length + 1) (.list xs) :=
  ⟨by simp only [small]; exact smallAll_iff.mpr fun x hx => (h x hx).sm, by simp only [PyData.depth]; have := depthAll_le fun x hx => (h x hx).dp; omega, by simp only [cnt]; have := cntAll_le fun x hx => (h x hx).ct; omega⟩
theorem fine_tuple {n m : Nat} {xs : List PyData} (h : ∀ x ∈ xs, Fine n m x) : Fine (n + 1) (m * xs.length + 1) (.tuple xs) :=
  ⟨by simp only [small]; exact smallAll_iff.mpr fun x hx => (h x hx).sm, by simp only [PyData.depth]; have := depthAll_le fun x hx => (h x hx).dp; omega, by simp only [cnt]; have := cntAll_le fun x hx => (h x hx).ct; omega⟩
theorem Fine.mono {n m n' m' : Nat} {d : PyData} (h : Fine n m d) (hn : n ≤ n') (hm : m ≤ m') : Fine n' m' d := ⟨h.sm, Nat.le_trans h.dp hn, Nat.le_trans h.ct hm⟩
/-! ### data in a heap that keeps what it had -/
section
variable {K : PySem.W.Frag} {H H' : Hp}
mutual
theorem dp_same (s : Same H H') : ∀ (d : PyData) (v : V), Dp K H v d → Dp K H' v d
  | .none, _, h => by cases h; exact .non
  | .bool b, _, h => by cases h; exact .bl b
  | .int i, _, h => by cases h; exact .int i
  | .str x, _, h => by cases h; exact .str x
  | .list ds, _, h => by
    cases h with
    | lst a b => exact .lst (same_sq s a) (dp_sameAll s ds _ b)
  | .tuple ds, _, h => by
    cases h with
    | tup a b => exact .tup (same_sqT s a) (dp_sameAll s ds _ b)
  | .dict _, _, h => by cases h
theorem dp_sameAll (s : Same H H') : ∀ (ds : List PyData) (vs : List V), DpAll K H vs ds → DpAll K H' vs ds
  | [], _, h => by cases h; exact .nil
  | d :: ds, _, h => by
    cases h with
    | cons a b => exact .cons (dp_same s d _ a) (dp_sameAll s ds _ b)
end
theorem dpAll_ints : ∀ (ns : List Int), DpAll K H (ns.map V.int) (ns.map PyData.int)
  | [] => .nil
  | n :: ns => .cons (.int n) (dpAll_ints ns)
theorem dpAll_len : ∀ {vs : List V} {ds : List PyData}, DpAll K H vs ds → vs.length = ds.length
  | _, _, .nil => rfl
  | _, _, .cons _ r => congrArg (· + 1) (dpAll_len r)
theorem dpAll_append : ∀ {vs ws : List V} {ds es : List PyData}, DpAll K H vs ds → DpAll K H ws es → DpAll K H (vs ++ ws) (ds ++ es)
  | _, _, _, _, .nil, s => s
  | _, _, _, _, .cons a r, s => .cons a (dpAll_append r s)
theorem dpAll_get : ∀ {vs : List V} {ds : List PyData} {i : Nat} {v : V}, DpAll K H vs ds → vs[i]? = some v → ∃ d, ds[i]? = some d ∧ Dp K H v d
  | _, _, _, _, .nil, e => by simp at e
  | _, _, 0, _, .cons a _, e => by
    simp at e
    subst e
    exact ⟨_, rfl, a⟩
  | _, _, i + 1, _, .cons _ r, e => by
    obtain ⟨d, h1, h2⟩ := dpAll_get (i := i) r (by simpa using e)
    exact ⟨d, by simpa using h1, h2⟩
variable {Q : VK} {x y : V} {d e : PyData}
theorem g_eqD (h1 : Dp K H x d) (h2 : Dp K H y e) (s1 : SeqAt.shaped d = true) (s2 : SeqAt.shaped e = true) (q : Q (.bl (PyData.eqv d e)) H) : rEqD K x y H Q := ⟨d, e, h1, h2, s1, s2, q⟩
theorem g_neD (h1 : Dp K H x d) (h2 : Dp K H y e) (s1 : SeqAt.shaped d = true) (s2 : SeqAt.shaped e = true) (q : Q (.bl (!PyData.eqv d e)) H) : rNeD K x y H Q := ⟨d, e, h1, h2, s1, s2, q⟩
theorem g_repr {a : Addr} {n m : Nat} (h : Dp K H (.ref a) d) (f : Fine n m d) (hn : n ≤ 64) (hm : m ≤ 100000) (q : Q (.str d.shown) H) : rReprQ K [V.ref a] H Q := ⟨a, d, rfl, h, f.shaped hn, small_show d f.sm, f.text hm, q⟩
/-- == of a list of ints with the empty list -/
theorem shaped_ints (ns : List Int) : SeqAt.shaped (.list (ns.map PyData.int)) = true := by
  unfold SeqAt.shaped
  have h1 : PyData.canLayAll0 (ns.map PyData.int) = true := by
    induction ns with
    | nil => simp [PyData.canLayAll0]
    | cons n ns ih => simp [PyData.canLayAll0, PyData.canLay0, ih]
  have h2 : PyData.depthAll (ns.map PyData.int) ≤ 0 := depthAll_le fun x hx => by
    obtain ⟨n, _, rfl⟩ := List.mem_map.mp hx
    simp [PyData.depth]
  have h3 : PyData.depthAll (ns.map PyData.int) + 1 ≤ 64 := by omega
  simp [PyData.canLay0, PyData.depth, h1, h3]
theorem bare_ints (ns : List Int) : bare (.list (ns.map PyData.int)) = true := by
  simp only [bare]
  exact bareAll_iff.mpr fun x hx => by
    obtain ⟨n, _, rfl⟩ := List.mem_map.mp hx
    simp [bare]
theorem dp_ints {p : Addr} {ns : List Int} (h : SqL K H p (ns.map V.int)) : Dp K H (.ref p) (.list (ns.map PyData.int)) := .lst h (dpAll_ints ns)
theorem ints_inj {ns ms : List Int} : PyData.list (ns.map PyData.int) = PyData.list (ms.map PyData.int) ↔ ns = ms := by
  constructor
  · intro h
    injection h with h
    induction ns generalizing ms with
    | nil => cases ms with
      | nil => rfl
      | cons m ms => simp at h
    | cons n ns ih => cases ms with
      | nil => simp at h
      | cons m ms =>
        simp only [List.map_cons, List.cons.injEq, PyData.int.injEq] at h
        rw [h.1, ih h.2]
  · intro h
    rw [h]
theorem g_eqI {p q : Addr} {ns ms : List Int} (h1 : SqL K H p (ns.map V.int)) (h2 : SqL K H q (ms.map V.int)) (k : Q (.bl (decide (ns = ms))) H) : rEqD K (.ref p) (.ref q) H Q := by
  refine g_eqD (dp_ints h1) (dp_ints h2) (shaped_ints _) (shaped_ints _) ?_
  have e : PyData.eqv (.list (ns.map PyData.int)) (.list (ms.map PyData.int)) = decide (ns = ms) := by
    by_cases h : ns = ms
    · rw [decide_eq_true h, eqv_yes (bare_ints _) (bare_ints _) (by rw [h])]
    · rw [decide_eq_false h, eqv_no (bare_ints _) (bare_ints _) (fun z => h (ints_inj.mp z))]
  rw [e]
  exact k
end
end Gx

/-! Comprehensions: what the new list is, by a word of the turn and what is made so far -/
namespace Gx
open PySem L2
/-- the turns of a comprehension, its source known -/
def LC (g : TG) (tt : TT) (te : TE) (vs : List Nat) (J : It) (σ : L2.St) (H1 : Hp) (Q : VK) : Prop := ∀ D, H1 D = none → ∃ W : Nat → Nat → Hp → Prop, (∃ m, W 0 m (upd H1 D (.lst []))) ∧ ∀ i m H, W i m H →
  (J.stop i H ∧ Q (.ref D) H) ∨ (J.go i H ∧ ∃ Nx : Hp → Prop, (∀ H', Nx H' → ∃ m', m' < m ∧ W (i + 1) m' H') ∧ ∀ x H', J.yld i H x H' → g x (wipe σ vs) H' fun σ2 H2 => wipe σ2 vs = wipe σ vs ∧ tt σ2 H2 fun b H3 =>
    if b = true then te σ2 H3 fun y H4 => ∃ acc, H4 D = some (.lst acc) ∧ acc.length < sizeLine ∧ Nx (upd H4 D (.lst (acc ++ [y]))) else Nx H3)
/-- a source of n items -/
def Src (J : It) (H1 : Hp) (n : Nat) (item : Nat → V → Hp → Prop) : Prop := ∀ i H, Same H1 H → (i < n → J.go i H ∧ ∀ x H', J.yld i H x H' → Same H H' ∧ item i x H') ∧ (n ≤ i → J.stop i H)
/-- all but one address stay -/
def But (D : Addr) (H H' : Hp) : Prop := ∀ a o, a ≠ D → H a = some o → H' a = some o
section
variable {σ : L2.St} {H H1 : Hp} {Q : VK} {K : PySem.W.Frag} {te tl : TE} {tt : TT} {g : TG} {vs : List Nat} {J : It} {n j : Nat}
theorem g_lc {wi : TI} (q : wi σ H fun J H1 => LC g tt te vs J σ H1 Q) : tLc wi g tt te vs σ H Q := q
theorem src_list {a : Addr} {xs : List V} (h : SqL K H1 a xs) : Src (Itl K a) H1 xs.length (fun i x _ => xs[i]? = some x) := fun i H s => by
  have hh := same_sq s h
  refine ⟨fun hi => ⟨⟨xs, xs[i], hh, List.getElem?_eq_getElem hi⟩, fun x H' y => ?_⟩, fun hi => ⟨xs, hh, hi⟩⟩
  obtain ⟨rfl, q⟩ := y
  exact ⟨Same.refl _, q xs hh⟩
theorem src_tup {a : Addr} {xs : List V} (h : SqT K H1 a xs) : Src (Itt K a) H1 xs.length (fun i x _ => xs[i]? = some x) := fun i H s => by
  have hh := same_sqT s h
  refine ⟨fun hi => ⟨⟨xs, xs[i], hh, List.getElem?_eq_getElem hi⟩, fun x H' y => ?_⟩, fun hi => ⟨xs, hh, hi⟩⟩
  obtain ⟨rfl, q⟩ := y
  exact ⟨Same.refl _, q xs hh⟩
theorem src_rng {lo : Int} : Src (Itr lo n) H1 n (fun i x _ => x = .int (lo + i)) := fun i H s =>
  ⟨fun hi => ⟨hi, fun x H' y => by obtain ⟨rfl, q⟩ := y; exact ⟨Same.refl _, q⟩⟩, fun hi => hi⟩
theorem src_zip {a b : Addr} {xs ys : List V} (ha : SqL K H1 a xs) (hb : SqL K H1 b ys) : Src (Itz K a b) H1 (min xs.length ys.length) (fun i v H => ∃ T x y, v = .ref T ∧ H T = some (.tup [x, y]) ∧ xs[i]? = some x ∧ ys[i]? = some y) := fun i H s => by
  have h1 := same_sq s ha
  have h2 := same_sq s hb
  refine ⟨fun hi => ⟨⟨xs, ys, xs[i]'(by omega), ys[i]'(by omega), h1, h2, List.getElem?_eq_getElem _, List.getElem?_eq_getElem _⟩, fun v H' q => ?_⟩, fun hi => ⟨xs, ys, h1, h2, by omega⟩⟩
  obtain ⟨T, x, y, rfl, hT, rfl, qx, qy⟩ := q
  exact ⟨same_new hT, T, x, y, rfl, upd_same, qx xs h1, qy ys h2⟩
/-- THE RULE: A is true of the turn and of what is made so far -/
theorem lc_src {item : Nat → V → Hp → Prop} (src : Src J H1 n item) (hn : n ≤ 100000) (A : Nat → List V → Hp → Prop)
    (mono : ∀ i acc l D H H', H D = some (.lst l) → H1 D = none → Same H1 H → But D H H' → A i acc H → A i acc H') (A0 : ∀ H, Same H1 H → A 0 [] H)
    (turn : ∀ i x acc H' (Nx : V → Hp → Prop) (No : Hp → Prop), i < n → Same H1 H' → item i x H' → A i acc H' → acc.length ≤ i → (∀ y H4, Same H' H4 → A (i + 1) (acc ++ [y]) H4 → Nx y H4) → (∀ H4, Same H' H4 → A (i + 1) acc H4 → No H4) →
      g x (wipe σ vs) H' fun σ2 H2 => wipe σ2 vs = wipe σ vs ∧ tt σ2 H2 fun b H3 => if b = true then te σ2 H3 Nx else No H3)
    (done : ∀ D acc H', H1 D = none → Same H1 H' → H' D = some (.lst acc) → A n acc H' → acc.length ≤ n → Q (.ref D) H') : LC g tt te vs J σ H1 Q := by
  intro D hD
  refine ⟨fun i m H => m = n - i ∧ i ≤ n ∧ ∃ acc, Same H1 H ∧ H D = some (.lst acc) ∧ A i acc H ∧ acc.length ≤ i, ⟨n, rfl, Nat.zero_le _, [], same_new hD, upd_same, A0 _ (same_new hD), Nat.le_refl _⟩, ?_⟩
  rintro i m H ⟨rfl, hi, acc, s, e, a, hl⟩
  rcases Nat.lt_or_ge i n with lt | ge
  · right
    obtain ⟨go, yl⟩ := (src i H s).1 lt
    refine ⟨go, fun H' => i + 1 ≤ n ∧ ∃ acc, Same H1 H' ∧ H' D = some (.lst acc) ∧ A (i + 1) acc H' ∧ acc.length ≤ i + 1, fun H' ⟨l1, q⟩ => ⟨n - (i + 1), by omega, rfl, l1, q⟩, fun x H' y => ?_⟩
    obtain ⟨s2, it⟩ := yl x H' y
    have s12 := s.trans s2
    refine turn i x acc H' _ _ lt s12 it (mono i acc acc D H H' e hD s (fun b o _ z => s2 b o z) a) hl (fun y H4 s4 a4 => ?_) (fun H4 s4 a4 => ?_)
    · have e4 := s4 _ _ (s2 _ _ e)
      have s14 := s12.trans s4
      refine ⟨acc, e4, big_lt (by omega), lt, acc ++ [y], same_mut s14 hD, upd_same, mono (i + 1) (acc ++ [y]) acc D H4 _ e4 hD s14 (fun b o nb z => by rw [upd_ne nb]; exact z) a4, by rw [List.length_append]; exact Nat.succ_le_succ hl⟩
    · exact ⟨lt, acc, s12.trans s4, s4 _ _ (s2 _ _ e), a4, Nat.le_succ_of_le hl⟩
  · left
    have e0 : i = n := Nat.le_antisymm hi ge
    subst e0
    exact ⟨(src i H s).2 ge, done D acc H hD s e a hl⟩
/-- no test; each item makes a value that is what P says -/
theorem lc_map {item : Nat → V → Hp → Prop} (src : Src J H1 n item) (hn : n ≤ 100000) (P : Nat → V → Prop)
    (turn : ∀ i x H' (Nx : V → Hp → Prop), i < n → Same H1 H' → item i x H' → (∀ y H4, Same H' H4 → P i y → Nx y H4) → g x (wipe σ vs) H' fun σ2 H2 => wipe σ2 vs = wipe σ vs ∧ te σ2 H2 Nx)
    (done : ∀ D acc H', H1 D = none → Same H1 H' → H' D = some (.lst acc) → acc.length = n → (∀ (i : Nat) y, acc[i]? = some y → P i y) → Q (.ref D) H') : LC g tYes te vs J σ H1 Q := by
  refine lc_src src hn (fun i acc _ => acc.length = i ∧ ∀ (k : Nat) y, acc[k]? = some y → P k y) (fun _ _ _ _ _ _ _ _ _ _ a => a) (fun _ _ => ⟨rfl, fun k y z => by simp at z⟩) (fun i x acc H' Nx No lt s it a hl k1 k2 => ?_) fun D acc H' h1 s e a _ => done D acc H' h1 s e a.1 a.2
  have q := turn i x H' Nx lt s it fun y H4 s4 p => k1 y H4 s4 ⟨by rw [List.length_append, a.1]; rfl, fun k z hz => ?_⟩
  · exact q
  · rcases Nat.lt_or_ge k acc.length with h | h
    · rw [List.getElem?_append_left h] at hz
      exact a.2 k z hz
    · rw [List.getElem?_append_right h] at hz
      have e0 : k - acc.length = 0 := by
        rcases Nat.eq_zero_or_pos (k - acc.length) with z0 | z0
        · exact z0
        · rw [List.getElem?_eq_none (by simp; omega)] at hz
          cases hz
      rw [e0] at hz
      simp only [List.getElem?_cons_zero, Option.some.injEq] at hz
      subst hz
      have : k = i := by have := a.1; omega
      rw [this]
      exact p
/-- items of a list, a test that each one answers, a value that each one makes -/
theorem lc_filter {item : Nat → V → Hp → Prop} {xs : List V} (src : Src J H1 xs.length item) (hx : ∀ i x H, item i x H → xs[i]? = some x) (hn : xs.length ≤ 100000) (c : V → Bool) (f : V → V)
    (turn : ∀ (i : Nat) x H' (Nx : V → Hp → Prop) (No : Hp → Prop), xs[i]? = some x → Same H1 H' → (∀ H4, Same H' H4 → c x = true → Nx (f x) H4) → (∀ H4, Same H' H4 → c x = false → No H4) →
      g x (wipe σ vs) H' fun σ2 H2 => wipe σ2 vs = wipe σ vs ∧ tt σ2 H2 fun b H3 => if b = true then te σ2 H3 Nx else No H3)
    (done : ∀ D H', H1 D = none → Same H1 H' → H' D = some (.lst ((xs.filter c).map f)) → Q (.ref D) H') : LC g tt te vs J σ H1 Q := by
  refine lc_src src hn (fun i acc _ => acc = ((xs.take i).filter c).map f) (fun _ _ _ _ _ _ _ _ _ _ a => a) (fun _ _ => rfl) (fun i x acc H' Nx No lt s it a hl k1 k2 => ?_) fun D acc H' h1 s e a _ => done D H' h1 s (by rw [e, a, List.take_length])
  have ex := hx i x H' it
  have tk : xs.take (i + 1) = xs.take i ++ [x] := by
    rw [List.take_succ, ex]
    rfl
  refine turn i x H' Nx No ex s (fun H4 s4 h => k1 _ H4 s4 ?_) (fun H4 s4 h => k2 H4 s4 ?_)
  · rw [tk, List.filter_append, List.map_append, a]
    simp [h]
  · rw [tk, List.filter_append, List.map_append, a]
    simp [h]
theorem g_yes {Q : Bool → Hp → Prop} (q : Q true H) : tYes σ H Q := q
theorem g_iZip {ta : TA} {R : It → Hp → Prop} (q : ta σ H fun vs H1 => ∃ a b xs ys, vs = [.ref a, .ref b] ∧ SqL K H1 a xs ∧ SqL K H1 b ys ∧ R (Itz K a b) H1) : iZip K ta σ H R := q
theorem g_exZ {a b : Addr} {xs ys : List V} {R : Addr → Addr → Prop} (h1 : SqL K H a xs) (h2 : SqL K H b ys) (q : R a b) : ∃ p q xs ys, [V.ref a, V.ref b] = [.ref p, .ref q] ∧ SqL K H p xs ∧ SqL K H q ys ∧ R p q := ⟨a, b, xs, ys, rfl, h1, h2, q⟩
theorem g_gtup {k : Nat} {t : TGs} {a : Addr} {xs : List V} {Q : L2.St → Hp → Prop} (h : SqT K H a xs) (hl : xs.length = k) (q : t xs σ H Q) : gTup K k t (.ref a) σ H Q := ⟨a, xs, rfl, h, hl, q⟩
theorem g_gcons {t : TG} {u : TGs} {v : V} {r : List V} {Q : L2.St → Hp → Prop} (q : t v σ H fun σ' H' => u r σ' H' Q) : gCons t u (v :: r) σ H Q := ⟨v, r, rfl, q⟩
theorem g_gnil {Q : L2.St → Hp → Prop} (q : Q σ H) : gNil [] σ H Q := ⟨rfl, q⟩
theorem g_all {a : Addr} {bs : List Bool} (h : SqL K H a (bs.map V.bl)) (q : Q (.bl (bs.all id)) H) : rAll K [V.ref a] H Q := ⟨a, bs, rfl, h, q⟩
theorem g_any {a : Addr} {bs : List Bool} (h : SqL K H a (bs.map V.bl)) (q : Q (.bl (bs.any id)) H) : rAny K [V.ref a] H Q := ⟨a, bs, rfl, h, q⟩
theorem g_slL {a : Addr} {xs : List V} {lo hi : Option Int} (h : SqL K H a xs) (k : ∀ p H', H p = none → Same H H' → H' p = some (.lst (cutV xs lo hi)) → Q (.ref p) H') : rSlL K (.ref a) lo hi H Q := ⟨a, xs, rfl, h, fun p hp => k p _ hp (same_new hp) upd_same⟩
theorem g_sl {r : V → Option Int → Option Int → Hp → VK → Prop} {tl th : TO} (q : te σ H fun x H1 => tl σ H1 fun l H2 => th σ H2 fun u H3 => r x l u H3 Q) : tSl r te tl th σ H Q := q
theorem g_noP {Q : Option Int → Hp → Prop} (q : Q none H) : tNoPart σ H Q := q
theorem g_part {Q : Option Int → Hp → Prop} (q : te σ H fun x H1 => ∃ i, x = .int i ∧ Q (some i) H1) : tPart te σ H Q := q
/-- all of a list of truths that are all true -/
theorem trues {acc : List V} (h : ∀ (i : Nat) y, acc[i]? = some y → y = V.bl true) : acc = (List.replicate acc.length true).map V.bl := by
  apply List.ext_getElem?
  intro i
  rw [List.getElem?_map, List.getElem?_replicate]
  split
  · rename_i lt
    rw [List.getElem?_eq_getElem lt]
    exact congrArg some (h i _ (List.getElem?_eq_getElem lt))
  · rename_i ge
    rw [List.getElem?_eq_none (by omega)]
    rfl
theorem all_trues (n : Nat) : (List.replicate n true).all id = true := by
  induction n with
  | zero => rfl
  | succ n ih => simp
end
end Gx

/-! Objects: attributes, methods (also with keywords alone), makes, isinstance -/
namespace Gx
open PySem L2 PySem.Spec PyProof.Rows
section
variable {σ : L2.St} {H H1 : Hp} {Q : VK} {K : PySem.W.Frag} {te tl ta : TE} {D : Ends} {x v : V} {a C dx : Addr} {fs : List (Str × V)} {f m : Str} {sp : Sp} {dvs : List V} {E : XK} {t : TA}
def FldQ (K : PySem.W.Frag) (f : Str) (x : V) (H : Hp) (Q : VK) : Prop := ∃ a C dx fs v, x = .ref a ∧ H a = some (.ins C dx fs) ∧ Cls K C ∧ NoAttr K C f ∧ fs.lookup f = some v ∧ Q v H
theorem g_tfld (q : ta σ H fun x H1 => FldQ K f x H1 Q) : tFld K ta f σ H Q := q
theorem g_fld (h : H a = some (.ins C dx fs)) (c : Cls K C) (n : NoAttr K C f) (l : fs.lookup f = some v) (q : Q v H) : FldQ K f (.ref a) H Q := ⟨a, C, dx, fs, v, rfl, h, c, n, l, q⟩
def MethQ (C : Addr) (m : Str) (sp : Sp) (dvs : List V) (E : XK) (t : TA) (σ : L2.St) (x : V) (H : Hp) (Q : VK) : Prop := ∃ a dx fs, x = .ref a ∧ H a = some (.ins C dx fs) ∧ fs.lookup m = none ∧ t σ H fun vs H2 => sp (x :: (vs ++ dvs)) H2 Q E
theorem g_tmeth (q : ta σ H fun x H1 => MethQ C m sp dvs E t σ x H1 Q) : tMeth C m sp dvs E ta t σ H Q := q
theorem g_meth (h : H a = some (.ins C dx fs)) (l : fs.lookup m = none) (q : t σ H fun vs H2 => sp (.ref a :: (vs ++ dvs)) H2 Q E) : MethQ C m sp dvs E t σ (.ref a) H Q := ⟨a, dx, fs, rfl, h, l, q⟩
def MakeQ (C : Addr) (sp : Sp) (vs : List V) (H : Hp) (Q : VK) (E : XK) : Prop := ∀ x dx, H x = none → H dx = none → dx ≠ x → sp (.ref x :: vs) (upd (upd H dx (.own x)) x (.ins C dx [])) (fun v H2 => v = .non ∧ Q (.ref x) H2) E
theorem g_tmake (q : t σ H fun vs H1 => MakeQ C sp (vs ++ dvs) H1 Q E) : tMake C sp dvs E t σ H Q := q
theorem g_make {vs : List V} (k : ∀ x dx H', H x = none → Same H H' → H' x = some (.ins C dx []) → sp (.ref x :: vs) H' (fun v H2 => v = .non ∧ Q (.ref x) H2) E) : MakeQ C sp vs H Q E :=
  fun x dx hx hd _ => k x dx _ hx (same_mut (same_new hd) hx) upd_same
def StoreQ (K : PySem.W.Frag) (f : Str) (y x : V) (D : Ends) (σ : L2.St) (H : Hp) : Prop := ∃ a C dx fs, x = .ref a ∧ H a = some (.ins C dx fs) ∧ Cls K C ∧ NoAttr K C f ∧ fs.length < 1000 ∧ D.nx σ (upd H a (.ins C dx (putF f y fs)))
theorem g_sfld {tv : TE} (q : tv σ H fun y H1 => ta σ H1 fun x H2 => StoreQ K f y x D σ H2) : sFld K ta tv f D σ H := q
theorem g_store (h : H a = some (.ins C dx fs)) (c : Cls K C) (n : NoAttr K C f) (l : fs.length < 1000) (q : D.nx σ (upd H a (.ins C dx (putF f v fs)))) : StoreQ K f v (.ref a) D σ H := ⟨a, C, dx, fs, rfl, h, c, n, l, q⟩
theorem g_isi {c : V} {t u : Value} {b : Bool} (k : ClsV c u) (ty : TyX K H x t) (e : PySem.W.kitOne K t u = some b) (q : Q (.bl b) H) : rIsi K [x, c] H Q := ⟨x, c, t, u, b, rfl, k, ty, e, q⟩
def PropQ (C : Addr) (sp : Sp) (dvs : List V) (E : XK) (x : V) (H : Hp) (Q : VK) : Prop := ∃ a dx fs, x = .ref a ∧ H a = some (.ins C dx fs) ∧ sp (.ref a :: dvs) H Q E
theorem g_tprop (q : ta σ H fun x H1 => PropQ C sp dvs E x H1 Q) : tProp C sp dvs E ta σ H Q := q
theorem g_prop (h : H a = some (.ins C dx fs)) (q : sp (.ref a :: dvs) H Q E) : PropQ C sp dvs E (.ref a) H Q := ⟨a, dx, fs, rfl, h, q⟩
def StarQ (K : PySem.W.Frag) (t : TA) (σ : L2.St) (x : V) (H : Hp) (Q : List V → Hp → Prop) : Prop := ∃ p xs, x = V.ref p ∧ (SqT K H p xs ∨ SqL K H p xs) ∧ t σ H fun ys H2 => Q (xs ++ ys) H2
theorem g_tstar {Q : List V → Hp → Prop} (q : te σ H fun x H1 => StarQ K t σ x H1 Q) : StX.tStar K te t σ H Q := q
theorem g_star {xs : List V} {Q : List V → Hp → Prop} (h : SqL K H a xs) (q : t σ H fun ys H2 => Q (xs ++ ys) H2) : StarQ K t σ (.ref a) H Q := ⟨a, xs, rfl, .inr h, q⟩
/-- an if whose answer is known -/
theorem g_ifT {b : Bool} {A B : Prop} (h : b = true) (q : A) : if b = true then A else B := by rw [if_pos h]; exact q
theorem g_ifF {b : Bool} {A B : Prop} (h : b = false) (q : B) : if b = true then A else B := by rw [if_neg (by rw [h]; exact Bool.false_ne_true)]; exact q
end
/-! ### a method called with keywords alone -/
structure MetK (P : Program) (w : World) (K : PySem.W.Frag) (mg : Str → Option Value) (base : Heap) (k : Nat) (C : Addr) (m : Str) (ks : List Str) (gV : List V → List V → List V) (sp : Sp) : Prop where
  ex : ∃ (f : Addr) (fd : FuncData) (ps : List Str) (g : List Value → List Value → List Value), Cls K C ∧ Meth K C m f ∧ FnOk P w K mg base CX0 k f fd ps sp ∧ KBinds K fd ps ks g gV
/-- o.m(k = e, ..) -/
def tMethK (C : Addr) (m : Str) (sp : Sp) (gV : List V → List V → List V) (ta : TE) (tk : TA) : TE := fun σ H Q => ta σ H fun x H1 => ∃ a dx fs, x = .ref a ∧ H1 a = some (.ins C dx fs) ∧ fs.lookup m = none ∧
  tk σ H1 fun zs H2 => sp (gV [x] zs) H2 Q (fun _ _ _ => False)
section
variable {X : Cx} {k j : Nat} {C : Addr} {m : Str} {ks : List Str} {gV : List V → List V → List V} {sp : Sp} {o : Expr} {kws : List Keyword} {ta : TE} {tk : TA} {pos apos : Pos}
theorem pe_mtK {pl : Sem Bool} (c : MetK X.prog X.w X.K X.mg X.base k C m ks gV sp) (hr : Room j X.A) (hk : k ≤ j) (ho : PE X o ta) (hkw : PK X kws tk)
    (hall : (backToKw pos (keywordEach kws X.env)).all (·.1.isSome) = true := by rfl) (hks : (backToKw pos (keywordEach kws X.env)).filterMap (·.1) = ks := by rfl)
    (hpl : ((backTo pos (starEach [] X.env)).any (·.1) || (backToKw pos (keywordEach kws X.env)).any (·.1.isNone)) = false := by rfl)
    (form : eval (.Call (.Attribute o m apos) [] kws pos) X.env = (do
      let obj ← eval o X.env
      standAt apos.atName
      let (fn, firsts) ← holding [obj] (getMethod obj m pl)
      callWith pos fn firsts (backTo pos (starEach [] X.env)) (backToKw pos (keywordEach kws X.env))) := by rfl) :
    PE X (.Call (.Attribute o m apos) [] kws pos) (tMethK C m sp gV ta tk) := by
  obtain ⟨f, fd, ps, g, cl, me, F, kb⟩ := c.ex
  refine ⟨fun pins s σ H Q I h => PySem.W.methodCall_KW (pl := pl) (thn (ho.run pins s σ H _ I h) fun u s1 got => ?_) form⟩
  obtain ⟨x, H1, I1, rx, a, dx, fs, ex, ea, l, q⟩ := got
  subst ex
  obtain rfl : u = Value.ref a := rx
  refine getmeth_ok I1 ea cl me l ?_
  refine PySem.W.callWith_KW0 (h₀ := X.base) I1.ok.mod.kin me.kp hall (thn (hkw.run pos pins s1 σ H1 _ I1 q) fun ws s2 got2 => ?_) hpl
  obtain ⟨zs, H2, I2, rz, q2⟩ := got2
  refine ⟨I2.kIn, ?_⟩
  rw [hks]
  exact run_fnk (us := [.ref a]) (vs := [.ref a]) F (hr.mono hk) kb pass0 I2 (.cons rfl .nil) rz q2
def MethKQ (C : Addr) (m : Str) (sp : Sp) (gV : List V → List V → List V) (tk : TA) (σ : L2.St) (x : V) (H : Hp) (Q : VK) : Prop := ∃ a dx fs, x = .ref a ∧ H a = some (.ins C dx fs) ∧ fs.lookup m = none ∧ tk σ H fun zs H2 => sp (gV [x] zs) H2 Q (fun _ _ _ => False)
theorem g_tmethK {σ : L2.St} {H : Hp} {Q : VK} (q : ta σ H fun x H1 => MethKQ C m sp gV tk σ x H1 Q) : tMethK C m sp gV ta tk σ H Q := q
theorem g_methK {σ : L2.St} {H : Hp} {Q : VK} {a dx : Addr} {fs : List (Str × V)} (h : H a = some (.ins C dx fs)) (l : fs.lookup m = none) (q : tk σ H fun zs H2 => sp (gV [.ref a] zs) H2 Q (fun _ _ _ => False)) : MethKQ C m sp gV tk σ (.ref a) H Q := ⟨a, dx, fs, rfl, h, l, q⟩
end
/-! ### a property -/
structure PropR (P : Program) (w : World) (K : PySem.W.Frag) (mg : Str → Option Value) (base : Heap) (k : Nat) (C : Addr) (f : Str) (sp : Sp) : Prop where
  ex : ∃ (p g : Addr) (fd : FuncData) (ps : List Str), Cls K C ∧ PropOf K C f p g ∧ FnOk P w K mg base CX0 k g fd ps sp ∧ Binds K fd ps []
theorem pe_pr {X : Cx} {k j : Nat} {C : Addr} {f : Str} {sp : Sp} {e : Expr} {ta : TE} {pos : Pos} (c : PropR X.prog X.w X.K X.mg X.base k C f sp) (hr : Room j X.A) (hk : k + 1 ≤ j) (he : PE X e ta) (hab : attributeBase e f X.env (eval e X.env) = eval e X.env := by rfl) :
    PE X (.Attribute e f pos) (tProp C sp [] (fun _ _ _ => False) ta) := by
  obtain ⟨p, g, fd, ps, cl, pr, F, b⟩ := c.ex
  exact pe_prop he cl pr F (hr.mono hk) b .nil pass0 hab
/-- two keywords, the second parameter's value comes last -/
def swapV : List V → List V → List V
  | [a], [y, x] => [a, x, y]
  | _, _ => []
def swapU : List Value → List Value → List Value
  | [a], [y, x] => [a, x, y]
  | _, _ => []
theorem swap_rel {vs : List V} {us : List Value} {zs : List V} {ws : List Value} (r : Vals vs us) (rz : Vals zs ws) : Vals (swapV vs zs) (swapU us ws) := by
  cases r with
  | nil => exact .nil
  | cons r1 r =>
    cases r with
    | nil =>
      cases rz with
      | nil => exact .nil
      | cons z1 rz =>
        cases rz with
        | nil => exact .nil
        | cons z2 rz =>
          cases rz with
          | nil => exact .cons r1 (.cons z2 (.cons z1 .nil))
          | cons _ _ => exact .nil
    | cons _ _ => exact .nil
/-- one keyword -/
def oneV : List V → List V → List V
  | [a], [x] => [a, x]
  | _, _ => []
def oneU : List Value → List Value → List Value
  | [a], [x] => [a, x]
  | _, _ => []
theorem one_rel {vs : List V} {us : List Value} {zs : List V} {ws : List Value} (r : Vals vs us) (rz : Vals zs ws) : Vals (oneV vs zs) (oneU us ws) := by
  cases r with
  | nil => exact .nil
  | cons r1 r =>
    cases r with
    | nil =>
      cases rz with
      | nil => exact .nil
      | cons z1 rz =>
        cases rz with
        | nil => exact .cons r1 (.cons z1 .nil)
        | cons _ _ => exact .nil
    | cons _ _ => exact .nil
theorem kbinds_one {K : PySem.W.Frag} {fd : FuncData} {s k : Str} (h : ∀ a x : Value, bindArgs fd ⟨[a], [(k, x)]⟩ = pure [(s, a), (k, x)]) : KBinds K fd [s, k] [k] oneU oneV := by
  refine ⟨fun st us ws _ hl => ?_, one_rel⟩
  match us, ws, hl with
  | [a], [x], _ => exact .of_eq (h a x)
  | [], _, hl => simp [oneU] at hl
  | [_], [], hl => simp [oneU] at hl
  | [_], _ :: _ :: _, hl => simp [oneU] at hl
  | _ :: _ :: _, _, hl => simp [oneU] at hl
theorem kbinds_swap {K : PySem.W.Frag} {fd : FuncData} {s k1 k2 : Str} (h : ∀ a x y : Value, bindArgs fd ⟨[a], [(k2, y), (k1, x)]⟩ = pure [(s, a), (k1, x), (k2, y)]) : KBinds K fd [s, k1, k2] [k2, k1] swapU swapV := by
  refine ⟨fun st us ws _ hl => ?_, swap_rel⟩
  match us, ws, hl with
  | [a], [y, x], _ => exact .of_eq (h a x y)
  | [], _, hl => simp [swapU] at hl
  | [_], [], hl => simp [swapU] at hl
  | [_], [_], hl => simp [swapU] at hl
  | [_], _ :: _ :: _ :: _, hl => simp [swapU] at hl
  | _ :: _ :: _, _, hl => simp [swapU] at hl
end Gx

/-! Lines of points: what stands at such an object, the promises of its methods -/
namespace Gx
open PySem L2
/-- whether an object is a whole number (no truth value) -/
inductive WholeV (K : PySem.W.Frag) (H : Hp) : V → Bool → Prop
  | int (i : Int) : WholeV K H (.int i) true
  | bl (c : Bool) : WholeV K H (.bl c) false
  | other {x : V} {t : Value} (ty : TyX K H x t) (no : PySem.W.kitOne K t (.type "int") = some false) : WholeV K H x false
def spWhole (K : PySem.W.Frag) : Sp := fun vs H Q _ => ∃ x b, vs = [x] ∧ WholeV K H x b ∧ Q (.bl b) H
def spPoint (K : PySem.W.Frag) : Sp := fun vs H Q _ => ∃ p x b, vs = [.ref p, x] ∧ WholeV K H x b ∧ Q (.bl b) H
/-- the attributes of a line -/
def lf (q : Addr) : List (Str × V) := [("own_points", .ref q)]
theorem lf_own (q : Addr) : (lf q).lookup ("own_points" : Str) = some (.ref q) := by simp [lf, List.lookup]
theorem lf_no (q : Addr) {m : Str} (h : (m == ("own_points" : Str)) = false) : (lf q).lookup m = none := by simp [lf, List.lookup, h]
/-- a line of the class at C stands at p, its points are xs -/
def LineAt (C : Addr) (H : Hp) (p : Addr) (xs : List V) : Prop := ∃ dx q, H p = some (.ins C dx (lf q)) ∧ H q = some (.lst xs)
theorem LineAt.same {C : Addr} {H H' : Hp} {p : Addr} {xs : List V} (h : LineAt C H p xs) (s : Same H H') : LineAt C H' p xs := by
  obtain ⟨dx, q, h1, h2⟩ := h
  exact ⟨dx, q, s _ _ h1, s _ _ h2⟩
/-- what the walk asks of the class of a line -/
structure LineC (K : PySem.W.Frag) (C : Addr) : Prop where
  cl : Cls K C
  own : NoAttr K C "own_points"
/-- a line of ints is made -/
def spInitI (K : PySem.W.Frag) (C : Addr) : Sp := fun vs H Q _ => ∃ (p a dx : Addr) (ns : List Int), vs = [.ref p, .ref a] ∧ H p = some (.ins C dx []) ∧ H a = some (.lst (ns.map V.int)) ∧ ns.length ≤ 500 ∧ ns.Pairwise (· < ·) ∧
  ∀ H', LineAt C H' p (ns.map V.int) → But p H H' → Q .non H'
/-- its points, as a new list -/
def spPoints (K : PySem.W.Frag) (C : Addr) : Sp := fun vs H Q _ => ∃ (p : Addr) (xs : List V), vs = [.ref p] ∧ LineAt C H p xs ∧ ∀ l H', H l = none → Same H H' → H' l = some (.lst xs) → Q (.ref l) H'
theorem rising_zip {ns : List Int} (h : ns.Pairwise (· < ·)) {i : Nat} {a b : Int} (ha : ns[i]? = some a) (hb : (ns.drop 1)[i]? = some b) : a < b := by
  rw [List.getElem?_drop] at hb
  have h1 := List.getElem?_eq_some_iff.mp ha
  have h2 := List.getElem?_eq_some_iff.mp hb
  obtain ⟨l1, e1⟩ := h1
  obtain ⟨l2, e2⟩ := h2
  have q := List.pairwise_iff_getElem.mp h i (1 + i) l1 l2 (by omega)
  rw [e1, e2] at q
  exact q
theorem ints_at {ns : List Int} {i : Nat} {x : V} (h : (ns.map V.int)[i]? = some x) : ∃ n, ns[i]? = some n ∧ x = V.int n := by
  rw [List.getElem?_map] at h
  cases e : ns[i]? with
  | none => rw [e] at h; cases h
  | some n => rw [e] at h; exact ⟨n, rfl, (Option.some.inj h).symm⟩
theorem but_same {p : Addr} {H H' : Hp} {o : HO} (s : Same H H') : But p H (upd H' p o) := fun b u nb e => by
  rw [upd_ne nb]
  exact s b u e
theorem cut_one (xs : List V) : cutV xs (some 1) none = xs.drop 1 := by
  unfold cutV
  cases xs with
  | nil => rfl
  | cons x r =>
    have e1 : HT.sIx (x :: r).length 0 (some 1) = 1 := by
      simp [HT.sIx]
    have e2 : HT.sIx (x :: r).length (x :: r).length none = (x :: r).length := rfl
    rw [e1, e2]
    exact List.take_of_length_le (by simp)
end Gx

/-! Cells of a line of ints -/
namespace Gx
open PySem L2
theorem g_isN1 {H : Hp} {Q : VK} {x : V} (q : Q (.bl (decide (x = .non))) H) : rIsN x .non H Q := ⟨rfl, q⟩
theorem g_notN1 {H : Hp} {Q : VK} {x : V} (q : Q (.bl (!decide (x = .non))) H) : rNotN x .non H Q := ⟨rfl, q⟩
theorem g_iteF {c : Prop} [Decidable c] {A B : Prop} (h : ¬ c) (q : B) : if decide c = true then A else B := g_ifF (decide_eq_false h) q
theorem g_iteT {c : Prop} [Decidable c] {A B : Prop} (h : c) (q : A) : if decide c = true then A else B := g_ifT (decide_eq_true h) q
abbrev oV : Option Int → V
  | none => .non
  | some i => .int i
def oD : Option Int → PyData
  | none => .none
  | some i => .int i
def leastOf (lo : Int) : Option Int → Int
  | none => lo
  | some x => if x + 1 > lo then x + 1 else lo
def mostOf (hi : Int) : Option Int → Int
  | none => hi
  | some y => if y - 1 < hi then y - 1 else hi
def gapIn (l r : Option Int) (lo hi : Int) : Bool := decide (leastOf lo l ≤ mostOf hi r)
def gapD (l r : Option Int) : PyData := .tuple [.str "gap", oD l, oD r]
def pointD (y : Int) : PyData := .tuple [.str "point", .int y]
def ptStep (lo hi : Int) : Option Int → List PyData
  | none => []
  | some y => if lo ≤ y ∧ y ≤ hi then [pointD y] else []
def cellStep (lo hi : Int) (l r : Option Int) : List PyData := (if gapIn l r lo hi = true then [gapD l r] else []) ++ ptStep lo hi r
def cellFold (lo hi : Int) (s : Option Int × List PyData) (r : Option Int) : Option Int × List PyData := (r, s.2 ++ cellStep lo hi s.1 r)
/-- the points of a line and its open end -/
def rights (ns : List Int) : List (Option Int) := ns.map some ++ [none]
def cellsOf (ns : List Int) (lo hi : Int) : List PyData := ((rights ns).foldl (cellFold lo hi) (none, [])).2
theorem rights_len (ns : List Int) : (rights ns).length = ns.length + 1 := by simp [rights]
theorem rights_V (ns : List Int) : ns.map V.int ++ [V.non] = (rights ns).map oV := by simp [rights, oV, Function.comp_def]
theorem step_len (lo hi : Int) (l r : Option Int) : (cellStep lo hi l r).length ≤ 2 := by
  unfold cellStep
  rw [List.length_append]
  have h1 : (if gapIn l r lo hi = true then [gapD l r] else []).length ≤ 1 := by split <;> simp
  have h2 : (ptStep lo hi r).length ≤ 1 := by
    cases r with
    | none => simp [ptStep]
    | some y =>
      show (if lo ≤ y ∧ y ≤ hi then [pointD y] else []).length ≤ 1
      by_cases c : lo ≤ y ∧ y ≤ hi
      · rw [if_pos c]
        exact Nat.le_refl 1
      · rw [if_neg c]
        exact Nat.zero_le 1
  omega
theorem fold_next {α β : Type} (f : β → α → β) {l : List α} {i : Nat} {x : α} (b : β) (h : l[i]? = some x) : (l.take (i + 1)).foldl f b = f ((l.take i).foldl f b) x := by
  rw [List.take_succ, h, List.foldl_append]
  rfl
mutual
/-- data without lists: it stays whatever list is changed -/
def noLst : PyData → Bool
  | .none | .bool _ | .int _ | .str _ => true
  | .list _ | .dict _ => false
  | .tuple xs => noLstAll xs
def noLstAll : List PyData → Bool
  | [] => true
  | x :: xs => noLst x && noLstAll xs
end
theorem noLstAll_iff : ∀ {xs : List PyData}, noLstAll xs = true ↔ ∀ x ∈ xs, noLst x = true
  | [] => by simp [noLstAll]
  | x :: xs => by simp [noLstAll, noLstAll_iff (xs := xs)]
section
variable {K : PySem.W.Frag} {H H' : Hp} {p : Addr} {l : List V}
theorem sqT_but (hp : H p = some (.lst l)) (b : But p H H') {a : Addr} {xs : List V} (h : SqT K H a xs) : SqT K H' a xs := by
  rcases h with (h | ⟨o, h⟩) | h
  · exact .inl (.inl (b a _ (ne_of h hp (by intro z; cases z)) h))
  · exact .inl (.inr ⟨o, b a _ (ne_of h hp (by intro z; cases z)) h⟩)
  · exact .inr h
mutual
theorem dp_but (hp : H p = some (.lst l)) (b : But p H H') : ∀ (d : PyData) (v : V), noLst d = true → Dp K H v d → Dp K H' v d
  | .none, _, _, h => by cases h; exact .non
  | .bool c, _, _, h => by cases h; exact .bl c
  | .int i, _, _, h => by cases h; exact .int i
  | .str x, _, _, h => by cases h; exact .str x
  | .list _, _, n, _ => by simp [noLst] at n
  | .dict _, _, n, _ => by simp [noLst] at n
  | .tuple ds, _, n, h => by
    cases h with
    | tup a c => exact .tup (sqT_but hp b a) (dp_butAll hp b ds _ (by simpa [noLst] using n) c)
theorem dp_butAll (hp : H p = some (.lst l)) (b : But p H H') : ∀ (ds : List PyData) (vs : List V), noLstAll ds = true → DpAll K H vs ds → DpAll K H' vs ds
  | [], _, _, h => by cases h; exact .nil
  | d :: ds, _, n, h => by
    simp only [noLstAll, Bool.and_eq_true] at n
    cases h with
    | cons a c => exact .cons (dp_but hp b d _ n.1 a) (dp_butAll hp b ds _ n.2 c)
end
end
theorem dp_o {K : PySem.W.Frag} {H : Hp} : ∀ (o : Option Int), Dp K H (oV o) (oD o)
  | none => .non
  | some i => .int i
theorem noLst_gap (l r : Option Int) : noLst (gapD l r) = true := by
  cases l <;> cases r <;> simp [gapD, noLst, noLstAll, oD]
theorem noLst_point (y : Int) : noLst (pointD y) = true := by simp [pointD, noLst, noLstAll]
theorem noLst_step (lo hi : Int) (l r : Option Int) : ∀ d ∈ cellStep lo hi l r, noLst d = true := by
  intro d hd
  unfold cellStep at hd
  rcases List.mem_append.mp hd with h | h
  · split at h
    · rw [List.mem_singleton.mp h]
      exact noLst_gap l r
    · cases h
  · cases r with
    | none => cases h
    | some y =>
      have h : d ∈ (if lo ≤ y ∧ y ≤ hi then [pointD y] else []) := h
      by_cases c : lo ≤ y ∧ y ≤ hi
      · rw [if_pos c] at h
        rw [List.mem_singleton.mp h]
        exact noLst_point _
      · rw [if_neg c] at h
        cases h
theorem cells_keep (P : PyData → Prop) (lo hi : Int) : ∀ (rs : List (Option Int)) (s : Option Int × List PyData), (∀ l r, ∀ d ∈ cellStep lo hi l r, P d) → (∀ d ∈ s.2, P d) → ∀ d ∈ (rs.foldl (cellFold lo hi) s).2, P d
  | [], s, _, h2 => h2
  | r :: rs, s, h1, h2 => cells_keep P lo hi rs (cellFold lo hi s r) h1 fun d hd => by
    rcases List.mem_append.mp hd with h | h
    · exact h2 d h
    · exact h1 _ _ d h
theorem noLst_cells (lo hi : Int) (rs : List (Option Int)) : noLstAll (rs.foldl (cellFold lo hi) (none, [])).2 = true :=
  noLstAll_iff.mpr (cells_keep _ lo hi rs _ (fun l r => noLst_step lo hi l r) fun d h => nomatch h)
theorem same_but {p : Addr} {H H1 H2 : Hp} (s : Same H H1) (n : H p = none) (b : But p H1 H2) : Same H H2 := fun a o e => b a o (ne_of_none e n) (s a o e)
theorem g_appB {p : Addr} {H : Hp} {Q : VK} {xs : List V} {y : V} (h : H p = some (.lst xs)) (hl : xs.length < 100000) (k : ∀ H', But p H H' → H' p = some (.lst (xs ++ [y])) → Q .non H') : rAppend (.ref p) [y] H Q :=
  ⟨p, xs, y, rfl, rfl, h, big_lt hl, k _ (fun a o n e => by rw [upd_ne n]; exact e) upd_same⟩
theorem g_clear {p : Addr} {H H0 : Hp} {Q : VK} {xs : List V} (s : Same H0 H) (n : H0 p = none) (h : H p = some (.lst xs)) (k : ∀ H', Same H0 H' → H' p = some (.lst []) → Q .non H') : rClear (.ref p) [] H Q :=
  ⟨p, xs, rfl, rfl, h, k _ (same_mut s n) upd_same⟩
theorem g_unl {K : PySem.W.Frag} {k : Nat} {t : TGs} {a : Addr} {xs : List V} {σ : L2.St} {H : Hp} {Q : L2.St → Hp → Prop} (h : SqL K H a xs) (hl : xs.length = k) (q : t xs σ H Q) : gUnl K k t (.ref a) σ H Q := ⟨a, xs, rfl, h, hl, q⟩
theorem g_cat {l b : Addr} {xs zs : List V} {H : Hp} {Q : VK} (h1 : H l = some (.lst xs)) (h2 : H b = some (.lst zs)) (hl : xs.length + zs.length ≤ 100000) (k : ∀ p H', H p = none → Same H H' → H' p = some (.lst (xs ++ zs)) → Q (.ref p) H') : rCat (.ref l) (.ref b) H Q :=
  ⟨l, b, xs, zs, rfl, rfl, h1, h2, big_le hl, fun p hp => k p _ hp (same_new hp) upd_same⟩
theorem g_sorted {K : PySem.W.Frag} {a : Addr} {ns : List Int} {H : Hp} {Q : VK} (h : SqL K H a (ns.map V.int)) (few : ns.length < 64) (k : ∀ (ms : List Int) (p : Addr) (H' : Hp), ms.Perm ns → ms.Pairwise (· ≤ ·) → H p = none → Same H H' → H' p = some (.lst (ms.map V.int)) → Q (.ref p) H') : rSorted K [V.ref a] H Q :=
  ⟨a, ns, rfl, h, few, fun ms p h1 h2 h3 => k ms p _ h1 h2 h3 (same_new h3) upd_same⟩
/-- two numbers in order -/
theorem two_sorted {ms : List Int} {a b : Int} (p : ms.Perm [a, b]) (u : ms.Pairwise (· ≤ ·)) : ∃ x y, ms = [x, y] ∧ x ≤ y ∧ (x = a ∨ x = b) ∧ (y = a ∨ y = b) := by
  have l := p.length_eq
  match ms, l with
  | [x, y], _ =>
    refine ⟨x, y, rfl, ?_, ?_, ?_⟩
    · have := List.pairwise_cons.mp u
      exact this.1 y List.mem_cons_self
    · have : x ∈ [a, b] := p.mem_iff.mp List.mem_cons_self
      simpa using this
    · have : y ∈ [a, b] := p.mem_iff.mp (List.mem_cons_of_mem _ List.mem_cons_self)
      simpa using this
theorem ors_at {rs : List (Option Int)} {i : Nat} {x : V} (h : (rs.map oV)[i]? = some x) : ∃ r, rs[i]? = some r ∧ x = oV r := by
  rw [List.getElem?_map] at h
  cases e : rs[i]? with
  | none => rw [e] at h; cases h
  | some n => rw [e] at h; exact ⟨n, rfl, (Option.some.inj h).symm⟩
/-! ### the promises -/
def spAhead : Sp := fun vs H Q _ => ∃ (p : Addr) (a lo : Int), vs = [.ref p, .int a, .int lo] ∧ Q (.bl (decide (a < lo))) H
def spBeyond : Sp := fun vs H Q _ => ∃ (p : Addr) (a hi : Int), vs = [.ref p, .int a, .int hi] ∧ Q (.bl (decide (hi < a))) H
def spBetween : Sp := fun vs H Q _ => ∃ (p : Addr) (l r : Option Int) (lo hi : Int), vs = [.ref p, oV l, oV r, .int lo, .int hi] ∧ Q (.bl (gapIn l r lo hi)) H
def spCells (K : PySem.W.Frag) (C : Addr) : Sp := fun vs H Q _ => ∃ (p : Addr) (ns : List Int) (lo hi : Int), vs = [.ref p, .int lo, .int hi] ∧ LineAt C H p (ns.map V.int) ∧ lo ≤ hi ∧ ns.length ≤ 500 ∧
  ∀ (a : Addr) (acc : List V) (H' : Hp), H a = none → Same H H' → H' a = some (.lst acc) → DpAll K H' acc (cellsOf ns lo hi) → acc.length ≤ 1002 → Q (.ref a) H'
end Gx

/-! set(xs), xs a list: what is true of the set behind each item, by any word J -/
namespace Gx
open PySem L2 PySem.Spec PyProof.Rows
section
variable {P : Program} {w : World} {A : Around} {E : Value → Shared → Prop} {s : Shared}
/-- one add: from J i to J (i + 1), only the set and the tokens change -/
def Adds (P : Program) (w : World) (S : Addr) (h0 : Heap) (J : Nat → Heap → Prop) (i : Nat) (v : Value) : Prop :=
  ∀ (B : Around) (F : Value → Shared → Prop) (s : Shared) (Q : Bool → Shared → Prop), B.units < cLine → J i s.heap → (∀ b o, h0.get? b = some o → s.heap.get? b = some o) →
    (∀ r h' tk, Heap.SameBut S s.heap h' → J (i + 1) h' → s.toks ≤ tk → Q r { s with heap := h', toks := tk }) → wpAny (model P w) B (setAdd S v) Q F s
/-- what J leans on: the set's object and what stood before -/
def Leans (S : Addr) (h0 : Heap) (J : Nat → Heap → Prop) : Prop :=
  ∀ i h h', J i h → (∀ o, h.get? S = some o → h'.get? S = some o) → (∀ b o, h0.get? b = some o → h'.get? b = some o) → J i h'
theorem set_turns {I : Addr} {fp wr : List Addr} {G : Array GenState → Array GenState → Prop} {n : Nat} {Pv : Nat → Value → Prop} {St : Nat → Shared → Prop} {R : Result → Shared → Prop}
    (W : WalksS P w A.in1 I fp wr G n Pv St) {S : Addr} (apart : S ∉ fp) {h0 : Heap} (S0 : h0.get? S = none) (w0 : ∀ b ∈ wr, h0.get? b = none) (hu : A.in1.units < cLine)
    {J : Nat → Heap → Prop} (lean : Leans S h0 J) (adds : ∀ i v, i < n → Pv i v → Adds P w S h0 J i v) :
    ∀ (k i : Nat) (s : Shared), n - i = k → i ≤ n → St i s → (∀ b o, h0.get? b = some o → s.heap.get? b = some o) → J i s.heap →
      (∀ s', Moved (S :: wr) G s s' → J n s'.heap → (∀ b o, h0.get? b = some o → s'.heap.get? b = some o) → R (.ok (.ret .none)) s') →
      codeAny (model P w) A (.builtin "set.update.loop" ⟨[.ref S, .ref I], []⟩) R s := by
  have nwr : S ∉ wr := fun h => apart (W.sub _ h)
  have more : ∀ b ∈ wr, b ∈ S :: wr := fun b hb => List.mem_cons_of_mem _ hb
  have stays : ∀ {s s' : Shared}, Moved wr G s s' → (∀ b o, h0.get? b = some o → s.heap.get? b = some o) → ∀ b o, h0.get? b = some o → s'.heap.get? b = some o := fun mv st b o e =>
    mv.heap b o (fun hb => by rw [w0 b hb] at e; cases e) (st b o e)
  intro k
  induction k with
  | zero =>
    intro i s hk hi st old ji fin
    obtain rfl : i = n := by omega
    refine codeAny_builtin F.entry_set_update_loop ?_
    rw [Around.under_plainId F.plain_set_update_loop _]
    refine wpAny_bind (W.done s _ _ st fun s' mv => ?_)
    exact wpAny_pure (fin s' (mv.mono more) (lean i _ _ ji (fun o e => mv.heap S o nwr e) (stays mv old)) (stays mv old))
  | succ k ih =>
    intro i s hk hi st old ji fin
    have lt : i < n := by omega
    refine codeAny_builtin F.entry_set_update_loop ?_
    rw [Around.under_plainId F.plain_set_update_loop _]
    refine wpAny_bind (W.item i s _ _ lt st fun v s' pv st' mv => ?_)
    have old' := stays mv old
    refine wpAny_bind (wpAny_holding (adds i v lt pv A.in1 _ s' _ hu (lean i _ _ ji (fun o e => mv.heap S o nwr e) old') old' fun r h' tk sb ji' le => ?_))
    have old2 : ∀ b o, h0.get? b = some o → h'.get? b = some o := fun b o e => (sb.2 b (fun z => by rw [z, S0] at e; cases e)).trans (old' b o e)
    refine wpAny_pure ⟨plainId_quiet F.plain_set_update_loop _, ih (i + 1) _ (by omega) lt (W.frame _ s' _ _ st' le fun b hb o e => (sb.2 b (fun z => apart (by rw [← z]; exact hb))).trans e) old2 ji' fun s2 mv2 jn old3 => ?_⟩
    exact fin s2 (Moved.trans W.gtrans ((mv.mono more).then_heap le fun b o hb e => (sb.2 b (fun z => hb (by rw [z]; exact List.mem_cons_self))).trans e) mv2) jn old3
set_option maxHeartbeats 4000000 in
theorem set_of_list {l : Addr} {items : Array Value} {Q : Value → Shared → Prop} (J : Nat → Heap → Prop) (calm : A.handled = none) (hl : s.heap.IsList l items) (hu : A.units + 8 < cLine)
    (lean : Leans s.heap.objs.size s.heap J) (adds : ∀ (i : Nat) v, items[i]? = some v → Adds P w s.heap.objs.size s.heap J i v)
    (start : ∀ h', h'.get? s.heap.objs.size = some { cls := .type "set", dict := none, data := .set #[] 0 (.fresh 0 0 (!w.params.followText "set-order")) } → (∀ b o, s.heap.get? b = some o → h'.get? b = some o) → J 0 h')
    (fin : ∀ h' tk, J items.size h' → (∀ b o, s.heap.get? b = some o → h'.get? b = some o) → Q (.ref s.heap.objs.size) { s with heap := h', toks := tk }) :
    wpAny (model P w) A (call (.type "set") [.ref l]) Q E s := by
  obtain ⟨c, tl, inMro⟩ := F.called_set.mro
  have isMade := F.called_set.made
  have isSub := F.called_set.sub
  refine wpAny_call (codeAny_of_tree ?_)
  show wpAny _ _ (callAny (.type "set") _) _ _ _
  refine wpAny_pure ⟨Code.quiet_builtin _ (by decide +kernel), codeAny_builtin F.entry_type_call ?_⟩
  rw [Around.under_plain (weight_type_call_type "set" [.ref l] []) rfl]
  have noType := F.called_set.notType
  have canMake := F.called_set.canCreate
  have checked := F.typeCall_set_1 (.ref l)
  repeat (any_goals (first | assumption | wp_step))
  generalize ef : (Obj.mk (.type "set") none (.set #[] 0 (.fresh 0 0 (!w.params.followText "set-order"))) #[]) = fresh
  refine codeAny_mono (code_set_led1 (.ref l) (E := E) (Q₁ := fun v s1 => v = .ref s.heap.objs.size ∧ s1 = { s with heap := s.heap.push fresh }) (by subst ef; exact ⟨rfl, rfl⟩)) fun r s1 got => ?_
  cases r with
  | error e => exact got
  | ok fl =>
    cases fl with
    | ret v =>
      obtain ⟨rfl, rfl⟩ := got
      have at_S : (s.heap.push fresh).get? s.heap.objs.size = some fresh := by subst ef; exact Heap.get?_push_size _ rfl
      have isSet : Shared.TypeIs { s with heap := s.heap.push fresh } (.ref s.heap.objs.size) "set" := ⟨_, at_S, by subst ef; rfl⟩
      have look := F.called_set.init.lookup
      have bound := F.called_set.init.bind (.ref s.heap.objs.size)
      repeat (any_goals (first | assumption | wp_step))
      refine codeAny_mono (codeAny_call_builtin (R := wants (fun r s2 => r = .none ∧ ∃ h' tk, s2 = { s with heap := h', toks := tk } ∧ J items.size h' ∧ (∀ b o, s.heap.get? b = some o → h'.get? b = some o)) E)
        F.called_set.init.plain F.entry_set_init (check_set_init_1 isSet ?_)) fun r2 s2 got2 => ?_
      · subst ef
        obtain ⟨ol, hol, hcl, nl, hdl⟩ := hl
        obtain ⟨ocls, odict, odata, oslots⟩ := ol
        simp only at hcl hdl
        subst hcl; subst hdl
        have there : (s.heap.push ⟨.type "set", none, .set #[] 0 (.fresh 0 0 (!w.params.followText "set-order")), #[]⟩).get? l = some { cls := .type "list", dict := odict, data := .seq items nl, slots := oslots } := Heap.get?_push_of_some _ hol
        have s1 := F.sub_list_set
        have s2 := F.sub_list_frozenset
        have ne : (Value.type "list" == Value.type "dict") = false := by decide
        have isL : (s.heap.push ⟨.type "set", none, .set #[] 0 (.fresh 0 0 (!w.params.followText "set-order")), #[]⟩).IsList l items := ⟨_, there, rfl, nl, rfl⟩
        unfold Builtin.«set.__init__» noKeywords Builtin.Frozenset.updateFrom
        generalize ePI : pyIter = PI
        wp_walk
        subst ePI
        refine wpAny_pyIter_list isL ?_
        refine wpAny_bind ?_
        refine wpAny_runValue ?_
        have calm3 : A.in1.in1.in1.handled = none := by simp [calm]
        have sz : (s.heap.push ⟨.type "set", none, .set #[] 0 (.fresh 0 0 (!w.params.followText "set-order")), #[]⟩).objs.size = s.heap.objs.size + 1 := Heap.size_push ..
        have lS := Heap.lt_size hol
        have nl1 : l ≠ (s.heap.push ⟨.type "set", none, .set #[] 0 (.fresh 0 0 (!w.params.followText "set-order")), #[]⟩).objs.size := by rw [sz]; exact Nat.ne_of_lt (Nat.lt_succ_of_lt lS)
        have free : ∀ b, s.heap.objs.size ≤ b → s.heap.get? b = none := fun b hb => by
          cases q : s.heap.get? b with
          | none => rfl
          | some o => exact absurd (Nat.lt_of_lt_of_le (Heap.lt_size q) hb) (Nat.lt_irrefl _)
        have apart : s.heap.objs.size ∉ [(s.heap.push ⟨.type "set", none, .set #[] 0 (.fresh 0 0 (!w.params.followText "set-order")), #[]⟩).objs.size, l] := by
          rw [sz]
          simp only [List.mem_cons, List.not_mem_nil, or_false, not_or]
          exact ⟨Nat.ne_of_lt (Nat.lt_succ_self _), Nat.ne_of_gt lS⟩
        have old1 : ∀ b o, s.heap.get? b = some o → ((s.heap.push ⟨.type "set", none, .set #[] 0 (.fresh 0 0 (!w.params.followText "set-order")), #[]⟩).push { cls := .type "list_iterator", data := .fields #[.ref l, .int 0 0] }).get? b = some o := fun b o e => Heap.get?_push_of_some _ (Heap.get?_push_of_some _ e)
        refine set_turns ((Walks.list calm3 _ l nl1 items).toS) apart (h0 := s.heap) (free _ (Nat.le_refl _)) (fun b hb => free b (by rw [List.mem_singleton.mp hb, sz]; exact Nat.le_succ _)) (by show A.units + 1 + 1 + 1 < cLine; omega) lean
          (fun i v _ pv => adds i v pv) (items.size - 0) 0 _ (by omega) (Nat.zero_le _) ⟨⟨_, Heap.get?_push_size _ rfl, rfl, rfl⟩, (isL.push _)⟩ old1 (start _ (Heap.get?_push_of_some _ at_S) old1) fun s3 mv jn old => ?_
        obtain ⟨h', g2, d', tk', os'⟩ := s3
        obtain rfl : g2 = s.gens := mv.gens
        obtain rfl : d' = s.drawn := mv.drawn
        obtain rfl : os' = s.os := mv.os
        show wpAny _ _ _ _ _ _
        refine wpAny_pure ?_
        show wpAny _ _ (ret Value.none) _ _ _
        exact wpAny_pure ⟨rfl, h', tk', rfl, jn, old⟩
      · cases r2 with
        | error e => exact got2
        | ok fl2 =>
          cases fl2 with
          | ret r =>
            obtain ⟨rfl, h', tk, rfl, jn, old⟩ := got2
            repeat (any_goals (first | assumption | wp_step))
            exact fin h' tk jn old
          | _ => exact got2.elim
    | _ => exact got.elim
end
end Gx

/-! set(xs), xs a list of ints -/
namespace Gx
open PySem L2 PySem.Spec PyProof.Rows
section
variable {P : Program} {w : World}
def JI (w : World) (S : Addr) (ns : List Int) (i : Nat) (h : Heap) : Prop := ∃ M n, SetR w h S M n ∧ (∀ k, M k = true ↔ k ∈ ns.take i) ∧ n ≤ i
theorem ji_lean {S : Addr} {h0 : Heap} {ns : List Int} : Leans S h0 (JI w S ns) := fun i h h' ⟨M, n, R, m, l⟩ k _ => ⟨M, n, R.at k, m, l⟩
theorem ji_adds {S : Addr} {h0 : Heap} {ns : List Int} {i : Nat} {k : Int} {t : Tok} (hk : ns[i]? = some k) (few : ns.length + 1 < scanBound) : Adds P w S h0 (JI w S ns) i (.int k t) := by
  intro B F s Q hu ji old fin
  obtain ⟨M, n, R, m, l⟩ := ji
  have hi := (List.getElem?_eq_some_iff.mp hk).1
  unfold setAdd
  refine wpAny_holding ?_
  refine wpAny_bind ((intKind P w).pyHash (k := k) (intKind_is _ _ _ _) ?_)
  have R1 : SetR w ({ s with toks := s.toks + 1 } : Shared).heap S M n := R
  refine setR_add_hashed (P := P) R1 (by omega) fun h' sb R2 => ?_
  refine fin _ h' (s.toks + 1) sb ⟨_, _, R2, fun j => ?_, ?_⟩ (Nat.le_succ _)
  · rw [List.take_succ, hk, Bool.or_eq_true, decide_eq_true_eq, List.mem_append, m j]
    simp
  · split <;> omega
theorem ji_start {S : Addr} {ns : List Int} {h : Heap} (e : h.get? S = some { cls := .type "set", dict := none, data := .set #[] 0 (.fresh 0 0 (!w.params.followText "set-order")) }) : JI w S ns 0 h := by
  refine ⟨fun _ => false, 0, ⟨_, #[], 0, _, e, ⟨rfl, rfl, rfl⟩, rfl, fun e h => (by cases h), List.nodup_nil, fun k => by simp, by decide, by rfl, rfl, by simp [SetTable.fresh, Ris], ?_⟩, fun k => by simp, Nat.le_refl 0⟩
  cases w.params.followText "set-order" with
  | true => exact .inl rfl
  | false => exact .inr rfl
end
section
variable {X : Cx}
def rSetOfI (K : PySem.W.Frag) (w : World) : List V → Hp → VK → Prop := fun xs H Q => ∃ (l : Addr) (ns : List Int), xs = [V.ref l] ∧ SqL K H l (ns.map V.int) ∧ ns.length < 4000 ∧
  ∀ (a : Addr) (M : Int → Bool) (n : Nat), H a = none → (∀ k, M k = true ↔ k ∈ ns) → n ≤ ns.length → Q (.ref a) (upd H a (SetO w a M n))
theorem cr_setOfI {j : Nat} (hc : X.calm = true) (hr : Room j X.A) : CallR X (.type "set") (rSetOfI X.K X.w) := by
  intro pins s σ H xs us Q I rel h
  obtain ⟨l, ns, rfl, sq, few, k⟩ := h
  rw [Vals.ref1 rel]
  obtain ⟨its, rv, pl, sz⟩ := I.list sq
  have len : its.toArray.size = ns.length := by rw [List.size_toArray, ← rv.length, List.length_map]
  have few' : ns.length + 1 < scanBound := by have : scanBound = 4096 := rfl; omega
  refine set_of_list (JI X.w s.heap.objs.size ns) (I.ok.hd hc) pl.isList (by have := hr.units; omega) ji_lean (fun i v hv => ?_) (fun h' e _ => ji_start e) fun h' tk jn old => ?_
  · rw [List.getElem?_toArray] at hv
    have hlt : i < ns.length := by
      have := (List.getElem?_eq_some_iff.mp hv).1
      rw [← rv.length, List.length_map] at this
      exact this
    obtain ⟨u, e1, r1⟩ := rv.get (i := i) (x := V.int ns[i]) (by rw [List.getElem?_map, List.getElem?_eq_getElem hlt] <;> rfl)
    rw [hv] at e1
    obtain rfl := Option.some.inj e1
    obtain ⟨t, rfl⟩ := r1
    exact ji_adds (List.getElem?_eq_getElem hlt) few'
  · obtain ⟨M, n, R, m, ln⟩ := jn
    rw [len, List.take_length] at m
    rw [len] at ln
    have new : H s.heap.objs.size = none := I.hok.fresh (Nat.le_refl _)
    exact ⟨.ref s.heap.objs.size, upd H s.heap.objs.size (SetO X.w s.heap.objs.size M n), I.laid (t' := tk) old (Nat.le_refl _) (setO_new R), rfl, k _ M n new m ln⟩
theorem g_setI {K : PySem.W.Frag} {w : World} {l : Addr} {ns : List Int} {H : Hp} {Q : VK} (h : SqL K H l (ns.map V.int)) (few : ns.length < 4000)
    (k : ∀ (a : Addr) (M : Int → Bool) (n : Nat) (H' : Hp), H a = none → Same H H' → H' a = some (SetO w a M n) → (∀ k, M k = true ↔ k ∈ ns) → n ≤ ns.length → Q (.ref a) H') : rSetOfI K w [V.ref l] H Q :=
  ⟨l, ns, rfl, h, few, fun a M n ha m ln => k a M n _ ha (same_new ha) upd_same m ln⟩
theorem g_sortedSet {w : World} {a : Addr} {M : Int → Bool} {n : Nat} {H : Hp} {Q : VK} (h : H a = some (SetO w a M n)) (few : n < 64)
    (k : ∀ (ns : List Int) (p : Addr) (H' : Hp), ns.Pairwise (· < ·) → (∀ k : Int, k ∈ ns ↔ M k = true) → ns.length = n → H p = none → Same H H' → H' p = some (.lst (ns.map V.int)) → Q (.ref p) H') : rSortedSet w [V.ref a] H Q :=
  ⟨a, M, n, rfl, h, few, fun ns p h1 h2 h3 h4 => k ns p _ h1 h2 h3 h4 (same_new h4) upd_same⟩
end
end Gx

/-! Cells found by trying numbers -/
namespace Gx
open PySem L2
theorem g_cutE {te : TE} {σ : L2.St} {H : Hp} {Q : VK} (P : V → Hp → Prop) (h : ∀ Q' : VK, (∀ v H', P v H' → Q' v H') → te σ H Q') (q : ∀ v H', P v H' → Q v H') : te σ H Q := h Q q
theorem g_cutT {tt : TT} {σ : L2.St} {H : Hp} {Q : Bool → Hp → Prop} (P : Bool → Hp → Prop) (h : ∀ Q' : Bool → Hp → Prop, (∀ b H', P b H' → Q' b H') → tt σ H Q') (q : ∀ b H', P b H' → Q b H') : tt σ H Q := h Q q
theorem dpAll_last {K : PySem.W.Frag} {H : Hp} {vs : List V} {ds : List PyData} {e : PyData} (h : DpAll K H vs ds) (he : ds.getLast? = some e) : ∃ v, vs.getLast? = some v ∧ Dp K H v e := by
  have l := dpAll_len h
  rw [List.getLast?_eq_getElem?] at he
  have hi := (List.getElem?_eq_some_iff.mp he).1
  have hv : vs[ds.length - 1]? = some (vs[ds.length - 1]'(by omega)) := List.getElem?_eq_getElem _
  obtain ⟨d, h1, h2⟩ := dpAll_get h hv
  rw [he] at h1
  obtain rfl := Option.some.inj h1
  refine ⟨_, ?_, h2⟩
  rw [List.getLast?_eq_getElem?]
  exact (congrArg (fun n => vs[n - 1]?) l).trans hv
theorem filter_ints (ns : List Int) (c : V → Bool) (d : Int → Bool) (h : ∀ n, c (.int n) = d n) : ((ns.map V.int).filter c).map (fun x => x) = (ns.filter d).map V.int := by
  induction ns with
  | nil => rfl
  | cons n ns ih =>
    rw [List.map_cons, List.filter_cons, List.filter_cons, h n]
    cases d n with
    | true => simp only [if_true, List.map_cons, ih]
    | false => simpa using ih
theorem eqV_int (a b : Int) : eqV (.int a) (.int b) = decide (a = b) := by
  show (a == b) = decide (a = b)
  by_cases h : a = b
  · subst h; simp
  · simp [h]
theorem inV_ints (n : Int) : ∀ ns : List Int, inV (.int n) (ns.map V.int) = decide (n ∈ ns)
  | [] => by simp [inV]
  | m :: ns => by
    have ih := inV_ints n ns
    unfold inV at ih ⊢
    rw [List.map_cons, List.any_cons, eqV_int, ih]
    by_cases h : m = n
    · subst h; simp
    · by_cases h2 : n ∈ ns <;> simp [h, h2, Ne.symm h, eq_comm]
theorem flat_ints (ns : List Int) : (ns.map V.int).all flatV = true := by
  rw [List.all_eq_true]
  intro x hx
  obtain ⟨n, _, rfl⟩ := List.mem_map.mp hx
  rfl
theorem g_inI {K : PySem.W.Frag} {H : Hp} {Q : VK} {p : Addr} {ns : List Int} {n : Int} (h : SqL K H p (ns.map V.int)) (q : Q (.bl (decide (n ∈ ns))) H) : rIn K false (.int n) (.ref p) H Q :=
  ⟨p, _, rfl, .inl h, rfl, flat_ints ns, by rw [inV_ints]; exact q⟩
theorem g_notInI {K : PySem.W.Frag} {H : Hp} {Q : VK} {p : Addr} {ns : List Int} {n : Int} (h : SqL K H p (ns.map V.int)) (q : Q (.bl (!decide (n ∈ ns))) H) : rIn K true (.int n) (.ref p) H Q :=
  ⟨p, _, rfl, .inl h, rfl, flat_ints ns, by rw [inV_ints]; exact q⟩
theorem eqv_ints (ns ms : List Int) : PyData.eqv (.list (ns.map PyData.int)) (.list (ms.map PyData.int)) = decide (ns = ms) := by
  by_cases h : ns = ms
  · rw [decide_eq_true h, eqv_yes (bare_ints _) (bare_ints _) (by rw [h])]
  · rw [decide_eq_false h, eqv_no (bare_ints _) (bare_ints _) (fun z => h (ints_inj.mp z))]
theorem g_neI {K : PySem.W.Frag} {H : Hp} {Q : VK} {p q : Addr} {ns ms : List Int} (h1 : SqL K H p (ns.map V.int)) (h2 : SqL K H q (ms.map V.int)) (k : Q (.bl (!decide (ns = ms))) H) : rNeD K (.ref p) (.ref q) H Q := by
  refine g_neD (dp_ints h1) (dp_ints h2) (shaped_ints _) (shaped_ints _) ?_
  rw [eqv_ints]
  exact k
theorem atI_neg1 {xs : List V} {v : V} (h : xs.getLast? = some v) : atI xs (-1) = some v := by
  have ne : xs ≠ [] := fun e => by rw [e] at h; cases h
  have e : xs = xs.dropLast ++ [v] := by
    have := List.dropLast_concat_getLast ne
    rw [List.getLast?_eq_some_getLast ne] at h
    rw [Option.some.inj h] at this
    exact this.symm
  rw [e]
  exact atI_last _ _
theorem atI_head {xs : List V} {v : V} (h : xs.head? = some v) : atI xs 0 = some v := by
  cases xs with
  | nil => cases h
  | cons x r => exact atI_nat (j := 0) h
theorem oV_last (ns : List Int) (h : ns ≠ []) : (ns.map V.int).getLast? = some (oV ns.getLast?) := by
  rw [List.getLast?_map, List.getLast?_eq_some_getLast h]
  rfl
theorem oV_head (ns : List Int) (h : ns ≠ []) : (ns.map V.int).head? = some (oV ns.head?) := by
  cases ns with
  | nil => exact absurd rfl h
  | cons n r => rfl
/-- the cell of a number -/
def cellAt (ns : List Int) (m : Int) : PyData := if m ∈ ns then pointD m else gapD (ns.filter fun n => decide (n < m)).getLast? (ns.filter fun n => decide (m < n)).head?
def sameLast (acc : List PyData) (d : PyData) : Bool := match acc.getLast? with
  | none => false
  | some e => PyData.eqv e d
def dueStep (ns : List Int) (acc : List PyData) (m : Int) : List PyData := if sameLast acc (cellAt ns m) = true then acc else acc ++ [cellAt ns m]
def dueOf (ns : List Int) (lo : Int) (k : Nat) : List PyData := (List.range k).foldl (fun acc (i : Nat) => dueStep ns acc (lo + (i : Int))) []
theorem due_succ (ns : List Int) (lo : Int) (k : Nat) : dueOf ns lo (k + 1) = dueStep ns (dueOf ns lo k) (lo + (k : Int)) := by
  unfold dueOf
  rw [List.range_succ, List.foldl_append]
  rfl
theorem eqv_nil (ds : List PyData) : PyData.eqv (.list ds) (.list []) = ds.isEmpty := by cases ds <;> simp [PyData.eqv, PyData.eqvAll]
/-! ### cells are small data -/
/-- numbers of at most eighty digits -/
def In80 (i : Int) : Prop := -100000000000000000000000000000000000000000000000000000000000000000000000000000000 ≤ i ∧ i ≤ 100000000000000000000000000000000000000000000000000000000000000000000000000000000
theorem fine_o {n : Nat} {o : Option Int} (h : ∀ i, o = some i → In80 i) : Fine n 1 (oD o) := by
  cases o with
  | none => exact fine_none
  | some i => exact fine_int (h i rfl).1 (h i rfl).2
theorem fine_gap {l r : Option Int} (hl : ∀ i, l = some i → In80 i) (hr : ∀ i, r = some i → In80 i) : Fine 1 4 (gapD l r) := by
  refine (fine_tuple (n := 0) (m := 1) (xs := [.str "gap", oD l, oD r]) fun x hx => ?_).mono (Nat.le_refl _) (by simp)
  simp only [List.mem_cons, List.not_mem_nil, or_false] at hx
  rcases hx with rfl | rfl | rfl
  · exact fine_str (by decide +kernel) (by decide +kernel)
  · exact fine_o hl
  · exact fine_o hr
theorem fine_point {y : Int} (h : In80 y) : Fine 1 4 (pointD y) := by
  refine (fine_tuple (n := 0) (m := 1) (xs := [.str "point", .int y]) fun x hx => ?_).mono (Nat.le_refl _) (by simp)
  simp only [List.mem_cons, List.not_mem_nil, or_false] at hx
  rcases hx with rfl | rfl
  · exact fine_str (by decide +kernel) (by decide +kernel)
  · exact fine_int h.1 h.2
theorem bare_gap (l r : Option Int) : bare (gapD l r) = true := by cases l <;> cases r <;> simp [gapD, oD, bare, bareAll]
theorem bare_point (y : Int) : bare (pointD y) = true := by simp [pointD, bare, bareAll]
theorem bare_cellAt (ns : List Int) (m : Int) : bare (cellAt ns m) = true := by
  unfold cellAt
  split
  · exact bare_point m
  · exact bare_gap _ _
theorem noLst_cellAt (ns : List Int) (m : Int) : noLst (cellAt ns m) = true := by
  unfold cellAt
  split
  · exact noLst_point m
  · exact noLst_gap _ _
theorem fine_cellAt {ns : List Int} (h : ∀ n ∈ ns, In80 n) {m : Int} (hm : In80 m) : Fine 1 4 (cellAt ns m) := by
  unfold cellAt
  split
  · exact fine_point hm
  · refine fine_gap (fun i e => h i ?_) (fun i e => h i ?_)
    · exact (List.mem_filter.mp (List.mem_of_getLast? e)).1
    · exact (List.mem_filter.mp (List.mem_of_head? e)).1
theorem due_all (P : PyData → Prop) {ns : List Int} {lo : Int} : ∀ (k : Nat), (∀ i : Nat, i < k → P (cellAt ns (lo + (i : Int)))) → ∀ d ∈ dueOf ns lo k, P d
  | 0, _, d, h => nomatch h
  | k + 1, hp, d, h => by
    rw [due_succ] at h
    unfold dueStep at h
    split at h
    · exact due_all P k (fun i hi => hp i (by omega)) d h
    · rcases List.mem_append.mp h with h | h
      · exact due_all P k (fun i hi => hp i (by omega)) d h
      · rw [List.mem_singleton.mp h]
        exact hp k (Nat.lt_succ_self k)
theorem due_len (ns : List Int) (lo : Int) : ∀ k : Nat, (dueOf ns lo k).length ≤ k
  | 0 => Nat.le_refl 0
  | k + 1 => by
    have ih := due_len ns lo k
    rw [due_succ]
    unfold dueStep
    split
    · omega
    · rw [List.length_append]
      exact Nat.succ_le_succ ih
def spDue (K : PySem.W.Frag) : Sp := fun vs H Q _ => ∃ (a : Addr) (ns : List Int) (lo hi : Int), vs = [.ref a, .int lo, .int hi] ∧ H a = some (.lst (ns.map V.int)) ∧ ns.length ≤ 500 ∧ (∀ n ∈ ns, In80 n) ∧ -1000 ≤ lo ∧ lo ≤ hi ∧ hi ≤ 1000 ∧
  ∀ (l : Addr) (acc : List V) (H' : Hp), H l = none → Same H H' → H' l = some (.lst acc) → DpAll K H' acc (dueOf ns lo (hi + 1 - lo).toNat) → Q (.ref l) H'
end Gx

/-! The cells found by trying all numbers are those that meet the range -/
namespace Gx
open PySem L2
def tryStep (f : Int → PyData) (acc : List PyData) (m : Int) : List PyData := if sameLast acc (f m) = true then acc else acc ++ [f m]
def tryN (f : Int → PyData) (acc : List PyData) (lo : Int) : Nat → List PyData
  | 0 => acc
  | n + 1 => tryStep f (tryN f acc lo n) (lo + (n : Int))
theorem tryN_due (ns : List Int) (lo : Int) : ∀ n, dueOf ns lo n = tryN (cellAt ns) [] lo n
  | 0 => rfl
  | n + 1 => by
    rw [due_succ, tryN_due ns lo n]
    rfl
theorem tryN_add (f : Int → PyData) (acc : List PyData) (lo : Int) (a : Nat) : ∀ b, tryN f acc lo (a + b) = tryN f (tryN f acc lo a) (lo + (a : Int)) b
  | 0 => rfl
  | b + 1 => by
    show tryStep f (tryN f acc lo (a + b)) (lo + ((a + b : Nat) : Int)) = tryStep f (tryN f (tryN f acc lo a) (lo + (a : Int)) b) (lo + (a : Int) + (b : Int))
    rw [tryN_add f acc lo a b, show lo + ((a + b : Nat) : Int) = lo + (a : Int) + (b : Int) by omega]
theorem tryN_congr {f g : Int → PyData} (acc : List PyData) (lo : Int) : ∀ n, (∀ i : Nat, i < n → f (lo + (i : Int)) = g (lo + (i : Int))) → tryN f acc lo n = tryN g acc lo n
  | 0, _ => rfl
  | n + 1, h => by
    show tryStep f (tryN f acc lo n) _ = tryStep g (tryN g acc lo n) _
    unfold tryStep
    rw [tryN_congr acc lo n fun i hi => h i (by omega), h n (by omega)]
theorem sameLast_add (acc : List PyData) (c d : PyData) : sameLast (acc ++ [c]) d = PyData.eqv c d := by
  unfold sameLast
  rw [List.getLast?_concat]
theorem tryN_const {f : Int → PyData} {c : PyData} {acc : List PyData} {lo : Int} (hb : bare c = true) (ha : sameLast acc c = false) : ∀ n, 0 < n → (∀ i : Nat, i < n → f (lo + (i : Int)) = c) → tryN f acc lo n = acc ++ [c]
  | 1, _, h => by
    show tryStep f acc (lo + ((0 : Nat) : Int)) = _
    unfold tryStep
    rw [h 0 (by omega), ha, if_neg Bool.false_ne_true]
  | n + 2, _, h => by
    show tryStep f (tryN f acc lo (n + 1)) (lo + ((n + 1 : Nat) : Int)) = _
    rw [tryN_const hb ha (n + 1) (by omega) fun i hi => h i (by omega)]
    unfold tryStep
    rw [h (n + 1) (by omega), sameLast_add, eqv_yes hb hb rfl, if_pos rfl]
/-- the cell of a number, left of it l, beyond it the points rs -/
def cellR (l : Option Int) : List Int → Int → PyData
  | [], _ => gapD l none
  | y :: ys, m => if m < y then gapD l (some y) else if m = y then pointD y else cellR (some y) ys m
def cellsR (lo hi : Int) (l : Option Int) : List Int → List PyData
  | [] => cellStep lo hi l none
  | y :: ys => cellStep lo hi l (some y) ++ cellsR lo hi (some y) ys
theorem fold_cellsR (lo hi : Int) : ∀ (ns : List Int) (l : Option Int) (acc : List PyData), ((rights ns).foldl (cellFold lo hi) (l, acc)).2 = acc ++ cellsR lo hi l ns
  | [], l, acc => rfl
  | y :: ys, l, acc => by
    show ((rights ys).foldl (cellFold lo hi) (some y, acc ++ cellStep lo hi l (some y))).2 = _
    rw [fold_cellsR lo hi ys (some y) _]
    show _ = acc ++ (cellStep lo hi l (some y) ++ cellsR lo hi (some y) ys)
    rw [List.append_assoc]
theorem bare_cellR : ∀ (rs : List Int) (l : Option Int) (m : Int), bare (cellR l rs m) = true
  | [], l, m => bare_gap l none
  | y :: ys, l, m => by
    unfold cellR
    split
    · exact bare_gap _ _
    · split
      · exact bare_point _
      · exact bare_cellR ys _ m
/-- beyond a point none of the cells is that point's -/
theorem cellR_ne : ∀ (rs : List Int) (l : Option Int) (m y : Int), y < m → PyData.eqv (pointD y) (cellR l rs m) = false
  | [], l, m, y, _ => (eqv_no (bare_point y) (bare_gap l none) (by simp [pointD, gapD]) : PyData.eqv (pointD y) (gapD l none) = false)
  | z :: zs, l, m, y, h => by
    unfold cellR
    split
    · exact eqv_no (bare_point y) (bare_gap _ _) (by simp [pointD, gapD])
    · split
      · rename_i h1 h2
        exact eqv_no (bare_point y) (bare_point z) (by simp [pointD]; omega)
      · exact cellR_ne zs _ m y h
theorem gap_point (l r : Option Int) (y : Int) : PyData.eqv (gapD l r) (pointD y) = false := eqv_no (bare_gap _ _) (bare_point y) (by simp [pointD, gapD])
theorem step_some (lo hi : Int) (l : Option Int) (y : Int) : cellStep lo hi l (some y) = (if gapIn l (some y) lo hi = true then [gapD l (some y)] else []) ++ (if lo ≤ y ∧ y ≤ hi then [pointD y] else []) := rfl
theorem step_none (lo hi : Int) (l : Option Int) : cellStep lo hi l none = (if gapIn l none lo hi = true then [gapD l none] else []) ++ [] := rfl
/-- beyond the range there are no cells -/
theorem cellsR_none {lo hi : Int} : ∀ (rs : List Int) (y : Int), hi ≤ y → (y :: rs).Pairwise (· < ·) → cellsR lo hi (some y) rs = []
  | [], y, h, _ => by
    have g : gapIn (some y) none lo hi = false := by
      unfold gapIn leastOf mostOf
      apply decide_eq_false
      simp only
      split <;> omega
    show cellStep lo hi (some y) none = []
    rw [step_none, g, if_neg Bool.false_ne_true]
    rfl
  | z :: zs, y, h, p => by
    have yz : y < z := (List.pairwise_cons.mp p).1 z List.mem_cons_self
    have g : gapIn (some y) (some z) lo hi = false := by
      unfold gapIn leastOf mostOf
      apply decide_eq_false
      simp only
      split <;> split <;> omega
    show cellStep lo hi (some y) (some z) ++ cellsR lo hi (some z) zs = []
    rw [cellsR_none zs z (by omega) (List.pairwise_cons.mp p).2]
    rw [step_some, g, if_neg Bool.false_ne_true, if_neg (by omega)]
    rfl
/-- numbers at or below a point don't matter behind it -/
theorem cellsR_lo {hi lo lo' : Int} : ∀ (rs : List Int) (y : Int), lo ≤ y + 1 → lo' ≤ y + 1 → (y :: rs).Pairwise (· < ·) → cellsR lo hi (some y) rs = cellsR lo' hi (some y) rs
  | [], y, h, h', _ => by
    have e : leastOf lo (some y) = leastOf lo' (some y) := by
      unfold leastOf
      simp only
      split <;> split <;> omega
    show cellStep lo hi (some y) none = cellStep lo' hi (some y) none
    unfold cellStep gapIn
    rw [e]
    rfl
  | z :: zs, y, h, h', p => by
    have yz : y < z := (List.pairwise_cons.mp p).1 z List.mem_cons_self
    have e : leastOf lo (some y) = leastOf lo' (some y) := by
      unfold leastOf
      simp only
      split <;> split <;> omega
    show cellStep lo hi (some y) (some z) ++ cellsR lo hi (some z) zs = cellStep lo' hi (some y) (some z) ++ cellsR lo' hi (some z) zs
    rw [cellsR_lo (lo := lo) (lo' := lo') zs z (by omega) (by omega) (List.pairwise_cons.mp p).2, step_some, step_some]
    unfold gapIn
    rw [e]
    have q : (lo ≤ z ∧ z ≤ hi) ↔ (lo' ≤ z ∧ z ≤ hi) := by omega
    simp only [q]
theorem try_cells : ∀ (rs : List Int) (l : Option Int) (acc : List PyData) (lo hi : Int), lo ≤ hi → (∀ x, l = some x → x < lo) → (∀ x, l = some x → ∀ y ∈ rs, x < y) → rs.Pairwise (· < ·) → sameLast acc (cellR l rs lo) = false →
    tryN (cellR l rs) acc lo (hi + 1 - lo).toNat = acc ++ cellsR lo hi l rs
  | [], l, acc, lo, hi, h, hl, _, _, ha => by
    rw [tryN_const (c := gapD l none) (bare_gap _ _) ha _ (by omega) fun _ _ => rfl]
    have g : gapIn l none lo hi = true := by
      unfold gapIn leastOf mostOf
      apply decide_eq_true
      cases l with
      | none => exact h
      | some x =>
        have := hl x rfl
        simp only
        split <;> omega
    show _ = acc ++ cellStep lo hi l none
    unfold cellStep
    rw [g, if_pos rfl]
    rfl
  | y :: ys, l, acc, lo, hi, h, hl, hy, p, ha => by
    have pys := (List.pairwise_cons.mp p).2
    have py := (List.pairwise_cons.mp p).1
    show _ = acc ++ (cellStep lo hi l (some y) ++ cellsR lo hi (some y) ys)
    rcases Int.lt_or_le hi y with c | c
    · -- all numbers below the first point
      have ha' : sameLast acc (gapD l (some y)) = false := by
        have : cellR l (y :: ys) lo = gapD l (some y) := by
          unfold cellR
          rw [if_pos (by omega)]
        rw [← this]
        exact ha
      rw [tryN_const (c := gapD l (some y)) (bare_gap _ _) ha' _ (by omega) fun i hi' => by
        unfold cellR
        rw [if_pos (by omega)]]
      have g : gapIn l (some y) lo hi = true := by
        unfold gapIn leastOf mostOf
        apply decide_eq_true
        cases l with
        | none => simp only; split <;> omega
        | some x =>
          have := hl x rfl
          simp only
          split <;> split <;> omega
      rw [cellsR_none ys y (by omega) p]
      rw [step_some, g, if_pos rfl, if_neg (by omega)]
      simp
    · rcases Int.lt_or_le y lo with c2 | c2
      · -- all numbers beyond it
        have e : tryN (cellR l (y :: ys)) acc lo (hi + 1 - lo).toNat = tryN (cellR (some y) ys) acc lo (hi + 1 - lo).toNat := tryN_congr _ _ _ fun i hi' => by
          show (if lo + (i : Int) < y then gapD l (some y) else if lo + (i : Int) = y then pointD y else cellR (some y) ys (lo + (i : Int))) = _
          rw [if_neg (by omega), if_neg (by omega)]
        have ha' : sameLast acc (cellR (some y) ys lo) = false := by
          have : cellR l (y :: ys) lo = cellR (some y) ys lo := by
            show (if lo < y then gapD l (some y) else if lo = y then pointD y else cellR (some y) ys lo) = _
            rw [if_neg (by omega), if_neg (by omega)]
          rw [← this]
          exact ha
        rw [e, try_cells ys (some y) acc lo hi h (fun x e => by cases e; exact c2) (fun x e z hz => by cases e; exact py z hz) pys ha']
        have g : gapIn l (some y) lo hi = false := by
          unfold gapIn leastOf mostOf
          apply decide_eq_false
          cases l with
          | none => simp only; split <;> omega
          | some x =>
            have := hl x rfl
            simp only
            split <;> split <;> omega
        rw [step_some, g, if_neg Bool.false_ne_true, if_neg (by omega)]
        rfl
      · -- below, at and beyond it
        have e0 : (hi + 1 - lo).toNat = (y - lo).toNat + (1 + (hi - y).toNat) := by omega
        rw [e0, tryN_add]
        have e1 : lo + ((y - lo).toNat : Int) = y := by omega
        rw [e1, tryN_add]
        -- the gap ahead of it
        have g : (if gapIn l (some y) lo hi = true then [gapD l (some y)] else []) = if lo < y then [gapD l (some y)] else [] := by
          have q : gapIn l (some y) lo hi = decide (lo < y) := by
            unfold gapIn leastOf mostOf
            cases l with
            | none =>
              simp only
              congr 1
              apply propext
              split <;> omega
            | some x =>
              have := hl x rfl
              simp only
              congr 1
              apply propext
              split <;> split <;> omega
          rw [q]
          by_cases z : lo < y <;> simp [z]
        have A1 : tryN (cellR l (y :: ys)) acc lo (y - lo).toNat = acc ++ (if lo < y then [gapD l (some y)] else []) := by
          by_cases z : lo < y
          · rw [if_pos z]
            refine tryN_const (bare_gap _ _) ?_ _ (by omega) fun i hi' => ?_
            · have : cellR l (y :: ys) lo = gapD l (some y) := by
                unfold cellR
                rw [if_pos z]
              rw [← this]
              exact ha
            · unfold cellR
              rw [if_pos (by omega)]
          · rw [if_neg z, List.append_nil, show (y - lo).toNat = 0 by omega]
            rfl
        have at_y : cellR l (y :: ys) y = pointD y := by
          unfold cellR
          rw [if_neg (by omega), if_pos rfl]
        have A2 : tryN (cellR l (y :: ys)) (acc ++ (if lo < y then [gapD l (some y)] else [])) y 1 = acc ++ (if lo < y then [gapD l (some y)] else []) ++ [pointD y] := by
          refine tryN_const (bare_point y) ?_ 1 (by omega) fun i hi' => ?_
          · by_cases z : lo < y
            · rw [if_pos z, sameLast_add]
              exact gap_point _ _ _
            · rw [if_neg z, List.append_nil]
              have : lo = y := by omega
              rw [this, at_y] at ha
              exact ha
          · have : i = 0 := by omega
            subst this
            show cellR l (y :: ys) (y + ((0 : Nat) : Int)) = _
            rw [show y + ((0 : Nat) : Int) = y by omega]
            exact at_y
        rw [A1, A2]
        have A3 : tryN (cellR l (y :: ys)) (acc ++ (if lo < y then [gapD l (some y)] else []) ++ [pointD y]) (y + ((1 : Nat) : Int)) (hi - y).toNat = acc ++ (if lo < y then [gapD l (some y)] else []) ++ [pointD y] ++ cellsR lo hi (some y) ys := by
          by_cases z : y < hi
          · have e3 : tryN (cellR l (y :: ys)) (acc ++ (if lo < y then [gapD l (some y)] else []) ++ [pointD y]) (y + ((1 : Nat) : Int)) (hi - y).toNat = tryN (cellR (some y) ys) (acc ++ (if lo < y then [gapD l (some y)] else []) ++ [pointD y]) (y + 1) (hi + 1 - (y + 1)).toNat := by
              rw [show (hi + 1 - (y + 1)).toNat = (hi - y).toNat by omega]
              refine tryN_congr _ _ _ fun i hi' => ?_
              show (if y + 1 + (i : Int) < y then gapD l (some y) else if y + 1 + (i : Int) = y then pointD y else cellR (some y) ys (y + 1 + (i : Int))) = _
              rw [if_neg (by omega), if_neg (by omega)]
              rfl
            rw [e3, try_cells ys (some y) (acc ++ (if lo < y then [gapD l (some y)] else []) ++ [pointD y]) (y + 1) hi (by omega) (fun x e => by cases e; omega) (fun x e z hz => by cases e; exact py z hz) pys (by rw [sameLast_add]; exact cellR_ne ys _ _ _ (by omega))]
            rw [cellsR_lo ys y (Int.le_refl _) (by omega : lo ≤ y + 1) p]
          · rw [show (hi - y).toNat = 0 by omega, cellsR_none ys y (by omega) p, List.append_nil]
            rfl
        rw [A3]
        rw [step_some, g, if_pos (by omega : lo ≤ y ∧ y ≤ hi)]
        simp only [List.append_assoc]
theorem filter_none {ns : List Int} {p : Int → Bool} (h : ∀ n ∈ ns, p n = false) : ns.filter p = [] := List.filter_eq_nil_iff.mpr fun n hn => by rw [h n hn]; exact Bool.false_ne_true
/-- the cell of a number, said by all points or by those beyond -/
theorem cellAt_R : ∀ (rs pre : List Int) (m : Int), (pre ++ rs).Pairwise (· < ·) → (∀ x ∈ pre, x < m) → cellAt (pre ++ rs) m = cellR pre.getLast? rs m
  | [], pre, m, p, h => by
    rw [List.append_nil]
    unfold cellAt cellR
    rw [if_neg (fun q => by have := h m q; omega), List.filter_eq_self.mpr fun n hn => decide_eq_true (h n hn), filter_none fun n hn => decide_eq_false (by have := h n hn; omega)]
    rfl
  | y :: ys, pre, m, p, h => by
    have pp := List.pairwise_append.mp p
    have py := List.pairwise_cons.mp pp.2.1
    show _ = (if m < y then gapD pre.getLast? (some y) else if m = y then pointD y else cellR (some y) ys m)
    by_cases c : m < y
    · rw [if_pos c]
      unfold cellAt
      have nm : ¬ m ∈ pre ++ y :: ys := fun q => by
        rcases List.mem_append.mp q with q | q
        · have := h m q
          omega
        · rcases List.mem_cons.mp q with q | q
          · omega
          · have := py.1 m q
            omega
      rw [if_neg nm, List.filter_append, List.filter_append, List.filter_eq_self.mpr fun n hn => decide_eq_true (h n hn), filter_none (ns := pre) fun n hn => decide_eq_false (by have := h n hn; omega)]
      have f1 : (y :: ys).filter (fun n => decide (n < m)) = [] := filter_none fun n hn => by
        apply decide_eq_false
        rcases List.mem_cons.mp hn with q | q
        · omega
        · have := py.1 n q
          omega
      rw [f1, List.append_nil, List.filter_cons, if_pos (decide_eq_true c)]
      rfl
    · rw [if_neg c]
      by_cases c2 : m = y
      · rw [if_pos c2]
        unfold cellAt
        rw [if_pos (by rw [c2]; exact List.mem_append_right _ List.mem_cons_self), c2]
      · rw [if_neg c2]
        have q := cellAt_R ys (pre ++ [y]) m (by rw [List.append_assoc]; exact p) (fun x hx => by
          rcases List.mem_append.mp hx with z | z
          · exact h x z
          · rw [List.mem_singleton.mp z]
            omega)
        rw [List.append_assoc, List.getLast?_concat] at q
        exact q
/-- THE LAW of cells_in: the cells found number by number are those of the line -/
theorem due_cells {ns : List Int} (p : ns.Pairwise (· < ·)) {lo hi : Int} (h : lo ≤ hi) : dueOf ns lo (hi + 1 - lo).toNat = cellsOf ns lo hi := by
  rw [tryN_due]
  have e : tryN (cellAt ns) [] lo (hi + 1 - lo).toNat = tryN (cellR none ns) [] lo (hi + 1 - lo).toNat := tryN_congr _ _ _ fun i _ => cellAt_R ns [] _ p (fun x hx => nomatch hx)
  rw [e, try_cells ns none [] lo hi h (fun x e => nomatch e) (fun x e => nomatch e) p rfl]
  unfold cellsOf
  rw [fold_cellsR]
end Gx

/-! Any list that a def changes, known to its callers by what stays true of it -/
namespace Gx
open PySem L2
/-- at f stands a list whose items are as G says -/
def HidP (G : List V → Prop) (f : Addr) (h : Heap) : Prop := ∃ (vs : List V) (its : List Value) (n : Nat), G vs ∧ vs.length ≤ sizeLine ∧ Vals vs its ∧ h.get? f = some { cls := .type "list", data := .seq its.toArray n }
def HidO (G : List V → Prop) (f : Addr) : HO := .ext (HidP G f)
section
variable {P : Program} {w : World} {K : PySem.W.Frag} {mg : Str → Option Value} {base : Heap} {H : Hp} {h : Heap} {f : Addr} {G : List V → Prop}
theorem hid_open (ok : HOk P w H h) (hf : H f = some (HidO G f)) : ∃ vs, G vs ∧ HOk P w (upd H f (.lst vs)) h := by
  have q : ObjOk P w H h f (HidO G f) := ok f _ hf
  obtain ⟨⟨vs, its, n, g, l, r, e⟩, _, _⟩ := q
  refine ⟨vs, g, ok.write (by rw [hf]; trivial) (Or.inl rfl) (fun _ _ _ q => q) ⟨_, e⟩ ?_⟩
  exact ⟨l, its, n, r, e⟩
theorem hid_close {vs : List V} (ok : HOk P w H h) (hf : H f = some (.lst vs)) (g : G vs) : HOk P w (upd H f (HidO G f)) h := by
  have q : ObjOk P w H h f (.lst vs) := ok f _ hf
  obtain ⟨l, its, n, r, e⟩ := q
  refine ok.write (by rw [hf]; trivial) (Or.inl rfl) (fun _ _ _ q => q) ⟨_, e⟩ ?_
  exact ⟨⟨vs, its, n, g, l, r, e⟩, ⟨_, e⟩, fun h1 h2 p1 k => by
    obtain ⟨vs, its, n, g, l, r, e⟩ := p1
    exact ⟨vs, its, n, g, l, r, k _ e⟩⟩
theorem hid_view {k : Nat} {fa : Addr} {fd : FuncData} {ps : List Str} {sp sp' : Sp} (F : FnOk P w K mg base CX0 k fa fd ps sp) (some_ : sp' = sp' → ∀ vs H Q E, sp' vs H Q E → vs.length = ps.length)
    (hs : ∀ vs H Q E, sp' vs H Q E → ∃ (f : Addr) (G G2 : List V → Prop), H f = some (HidO G f) ∧ ∀ xs, G xs → sp vs (upd H f (.lst xs)) (fun v H' => (∃ ys, G2 ys ∧ H' f = some (.lst ys)) ∧ Q v (upd H' f (HidO G2 f))) E) :
    FnOk P w K mg base CX0 k fa fd ps sp' := by
  refine ⟨some_ rfl, fun A outer s H args us vs Q E hr he hb hv q => ?_⟩
  obtain ⟨f, G, G2, hf, k⟩ := hs vs H Q E q
  obtain ⟨xs, g, ok1⟩ := hid_open he.hok hf
  have nf : ∀ b, H b = none → b ≠ f := fun b n e => by rw [e, hf] at n; cases n
  have mu : Mut (H f) := by rw [hf]; trivial
  have hof : ∃ o, s.heap.get? f = some o := by
    have q : ObjOk P w H s.heap f (HidO G f) := he.hok f _ hf
    exact q.2.1
  have he1 : Env0 P w K mg base A outer s (upd H f (.lst xs)) :=
    ⟨he.frames, he.mod, fun b o e => ⟨(he.bs b o e).1, by rw [upd_ne (nf b (he.bs b o e).2)]; exact (he.bs b o e).2⟩, he.bsz, he.funs, fun b hb => by rw [upd_ne (nf b (he.frf b hb))]; exact he.frf b hb, ok1, he.bare⟩
  refine codeAny_mono (F.run A outer s _ args us vs _ E hr he1 hb hv (k xs g)) fun r s' hq => ?_
  cases r with
  | error e => exact hq.elim
  | ok fl =>
    cases fl with
    | ret u =>
      obtain ⟨v, H', os, bare, un, hok, rv, ⟨ys, g', e'⟩, q'⟩ := hq
      refine ⟨v, upd H' f (HidO G2 f), os, bare, ?_, hid_close hok e' g', rv, q'⟩
      have u1 : Un (frs outer) [] H (upd H f (.lst xs)) s.heap s.heap := Un.write mu (Or.inl rfl) (fun _ _ _ q => q) hof
      have hof' : ∃ o, s'.heap.get? f = some o := by
        have q : ObjOk P w H' s'.heap f (.lst ys) := hok f _ e'
        obtain ⟨_, its, n, r, e⟩ := q
        exact ⟨_, e⟩
      have u2 : Un (frs outer) [] H' (upd H' f (HidO G2 f)) s'.heap s'.heap := Un.write (by rw [e']; trivial) (Or.inl rfl) (fun _ _ _ q => q) hof'
      exact (u1.trans un).trans u2
    | next => exact hq.elim
    | brk => exact hq.elim
    | cont => exact hq.elim
/-- a def that makes such a list -/
theorem hid_made {k : Nat} {fa : Addr} {fd : FuncData} {ps : List Str} {sp sp' : Sp} (F : FnOk P w K mg base CX0 k fa fd ps sp)
    (hs : ∀ vs H Q E, sp' vs H Q E → sp vs H (fun v H' => ∃ (f : Addr) (G : List V → Prop) (ys : List V), G ys ∧ H' f = some (.lst ys) ∧ Q v (upd H' f (HidO G f))) E) : FnOk P w K mg base CX0 k fa fd ps sp' := by
  refine ⟨fun vs H Q E q => F.len _ _ _ _ (hs vs H Q E q), fun A outer s H args us vs Q E hr he hb hv q => ?_⟩
  refine codeAny_mono (F.run A outer s _ args us vs _ E hr he hb hv (hs vs H Q E q)) fun r s' hq => ?_
  cases r with
  | error e => exact hq.elim
  | ok fl =>
    cases fl with
    | ret u =>
      obtain ⟨v, H', os, bare, un, hok, rv, f, G, ys, g, e', q'⟩ := hq
      have there : ∃ o, s'.heap.get? f = some o := by
        have q : ObjOk P w H' s'.heap f (.lst ys) := hok f _ e'
        obtain ⟨_, its, n, r, e⟩ := q
        exact ⟨_, e⟩
      exact ⟨v, upd H' f (HidO G f), os, bare, un.trans (Un.write (by rw [e']; trivial) (Or.inl rfl) (fun _ _ _ q => q) there), hid_close hok e' g, rv, q'⟩
    | next => exact hq.elim
    | brk => exact hq.elim
    | cont => exact hq.elim
end
/-! ### a flask of draws: two lists -/
/-- numbers from 0 on -/
def Nats (vs : List V) : Prop := ∃ ns : List Int, vs = ns.map V.int ∧ ∀ n ∈ ns, 0 ≤ n
/-- what is not hidden stays -/
def vis : HO → Bool
  | .ext _ => false
  | _ => true
def SmV (H H' : Hp) : Prop := ∀ a o, vis o = true → H a = some o → H' a = some o
theorem SmV.refl (H : Hp) : SmV H H := fun _ _ _ e => e
theorem SmV.trans {H1 H2 H3 : Hp} (a : SmV H1 H2) (b : SmV H2 H3) : SmV H1 H3 := fun p o v e => b p o v (a p o v e)
theorem Same.smv {H H' : Hp} (s : Same H H') : SmV H H' := fun a o _ e => s a o e
theorem SmV.lst {H H' : Hp} (s : SmV H H') {a : Addr} {xs : List V} (e : H a = some (.lst xs)) : H' a = some (.lst xs) := s a _ rfl e
theorem SmV.tup {H H' : Hp} (s : SmV H H') {a : Addr} {xs : List V} (e : H a = some (.tup xs)) : H' a = some (.tup xs) := s a _ rfl e
theorem SmV.sqL {K : PySem.W.Frag} {H H' : Hp} (s : SmV H H') {a : Addr} {xs : List V} (h : SqL K H a xs) : SqL K H' a xs := by
  rcases h with (h | ⟨o, h⟩) | h
  · exact .inl (.inl (s a _ rfl h))
  · exact .inl (.inr ⟨o, s a _ rfl h⟩)
  · exact .inr h
theorem SmV.sqT {K : PySem.W.Frag} {H H' : Hp} (s : SmV H H') {a : Addr} {xs : List V} (h : SqT K H a xs) : SqT K H' a xs := by
  rcases h with (h | ⟨o, h⟩) | h
  · exact .inl (.inl (s a _ rfl h))
  · exact .inl (.inr ⟨o, s a _ rfl h⟩)
  · exact .inr h
mutual
theorem dp_smv {K : PySem.W.Frag} {H H' : Hp} (s : SmV H H') : ∀ (d : PyData) (v : V), Dp K H v d → Dp K H' v d
  | .none, _, h => by cases h; exact .non
  | .bool c, _, h => by cases h; exact .bl c
  | .int i, _, h => by cases h; exact .int i
  | .str x, _, h => by cases h; exact .str x
  | .list ds, _, h => by
    cases h with
    | lst a b => exact .lst (s.sqL a) (dp_smvAll s ds _ b)
  | .dict _, _, h => by cases h
  | .tuple ds, _, h => by
    cases h with
    | tup a b => exact .tup (s.sqT a) (dp_smvAll s ds _ b)
theorem dp_smvAll {K : PySem.W.Frag} {H H' : Hp} (s : SmV H H') : ∀ (ds : List PyData) (vs : List V), DpAll K H vs ds → DpAll K H' vs ds
  | [], _, h => by cases h; exact .nil
  | d :: ds, _, h => by
    cases h with
    | cons a c => exact .cons (dp_smv s d _ a) (dp_smvAll s ds _ c)
end
abbrev flC : Int := 170141183460469231731687303715884105727
def FlaskG (q : Addr) (c : Nat) (vs : List V) : Prop := ∃ b n : Int, vs = [.ref q, .int b, .int n] ∧ 0 ≤ b ∧ b < flC ∧ 0 ≤ n ∧ n ≤ (c : Int)
/-- f is a flask that was asked at most c times -/
def Flask (c : Nat) (H : Hp) (f : Addr) : Prop := ∃ q, q ≠ f ∧ H f = some (HidO (FlaskG q c) f) ∧ H q = some (HidO Nats q)
theorem Flask.same {c : Nat} {H H' : Hp} {f : Addr} (h : Flask c H f) (s : Same H H') : Flask c H' f := by
  obtain ⟨q, n, h1, h2⟩ := h
  exact ⟨q, n, s _ _ h1, s _ _ h2⟩
/-- a flask with two open lists -/
def spDrip0 : Sp := fun vs H Q _ => ∃ (f q : Addr) (b n m : Int) (ns : List Int), vs = [.ref f, .int m] ∧ q ≠ f ∧ H f = some (.lst [.ref q, .int b, .int n]) ∧ H q = some (.lst (ns.map V.int)) ∧ (∀ n ∈ ns, 0 ≤ n) ∧
  0 ≤ b ∧ b < flC ∧ 0 ≤ n ∧ n ≤ 1000000 ∧ 0 < m ∧ m.natAbs < 2 ^ 1000 ∧
  ∀ (r b' n' : Int) (ns' : List Int) (H' : Hp), 0 ≤ r → r < m → 0 ≤ b' → b' < flC → 0 ≤ n' → n' ≤ n + 1 → (∀ n ∈ ns', 0 ≤ n) → (∀ a o, a ≠ f → a ≠ q → H a = some o → H' a = some o) → H' q = some (.lst (ns'.map V.int)) → H' f = some (.lst [.ref q, .int b', .int n']) → Q (.int r) H'
def spDrip : Sp := fun vs H Q _ => ∃ (f : Addr) (c : Nat) (m : Int), vs = [.ref f, .int m] ∧ Flask c H f ∧ c ≤ 1000000 ∧ 0 < m ∧ m.natAbs < 2 ^ 1000 ∧ ∀ (r : Int) (H' : Hp), 0 ≤ r → r < m → SmV H H' → Flask (c + 1) H' f → Q (.int r) H'
def spDrip1 : Sp := fun vs H Q _ => ∃ (f q : Addr) (b n m : Int), vs = [.ref f, .int m] ∧ q ≠ f ∧ H f = some (.lst [.ref q, .int b, .int n]) ∧ H q = some (HidO Nats q) ∧
  0 ≤ b ∧ b < flC ∧ 0 ≤ n ∧ n ≤ 1000000 ∧ 0 < m ∧ m.natAbs < 2 ^ 1000 ∧
  ∀ (r b' n' : Int) (H' : Hp), 0 ≤ r → r < m → 0 ≤ b' → b' < flC → 0 ≤ n' → n' ≤ n + 1 → (∀ a o, a ≠ f → H a = some o → H' a = some o) → H' f = some (.lst [.ref q, .int b', .int n']) → Q (.int r) H'
section
variable {P : Program} {w : World} {K : PySem.W.Frag} {mg : Str → Option Value} {base : Heap}
theorem drip_view {k : Nat} {fa : Addr} {fd : FuncData} {ps : List Str} (hl : ps.length = 2) (F : FnOk P w K mg base CX0 k fa fd ps spDrip0) : FnOk P w K mg base CX0 k fa fd ps spDrip := by
  have F1 : FnOk P w K mg base CX0 k fa fd ps spDrip1 := by
    refine hid_view F (fun _ vs H Q E h => ?_) fun vs H Q E h => ?_
    · obtain ⟨f, q, b, n, m, rfl, _⟩ := h
      exact hl.symm
    · obtain ⟨f, q, b, n, m, rfl, hn, hf, hq, b0, b1, n0, n1, m0, m1, k⟩ := h
      refine ⟨q, Nats, Nats, hq, fun xs g => ?_⟩
      obtain ⟨ns, rfl, pos⟩ := g
      refine ⟨f, q, b, n, m, ns, rfl, hn, by rw [upd_ne (Ne.symm hn)]; exact hf, upd_same, pos, b0, b1, n0, n1, m0, m1, fun r b' n' ns' H' r0 r1 c0 c1 d0 d1 pos' ke kq kf => ?_⟩
      refine ⟨⟨_, ⟨ns', rfl, pos'⟩, kq⟩, ?_⟩
      refine k r b' n' _ r0 r1 c0 c1 d0 d1 (fun a o na e => ?_) (by rw [upd_ne (Ne.symm hn)]; exact kf)
      by_cases ha : a = q
      · subst ha
        rw [upd_same]
        rw [hq] at e
        exact e
      · rw [upd_ne ha]
        exact ke a o na ha (by rw [upd_ne ha]; exact e)
  refine hid_view F1 (fun _ vs H Q E h => ?_) fun vs H Q E h => ?_
  · obtain ⟨f, c, m, rfl, _⟩ := h
    exact hl.symm
  · obtain ⟨f, c, m, rfl, ⟨q, hn, hf, hq⟩, c1, m0, m1, k⟩ := h
    refine ⟨f, FlaskG q c, FlaskG q (c + 1), hf, fun xs g => ?_⟩
    obtain ⟨b, n, rfl, b0, b1, n0, n1⟩ := g
    refine ⟨f, q, b, n, m, rfl, hn, upd_same, by rw [upd_ne hn]; exact hq, b0, b1, n0, by omega, m0, m1, fun r b' n' H' r0 r1 c0 c1 d0 d1 ke kf => ?_⟩
    refine ⟨⟨_, ⟨b', n', rfl, c0, c1, d0, by omega⟩, kf⟩, ?_⟩
    refine k r _ r0 r1 (fun a o vo e => ?_) ⟨q, hn, upd_same, ?_⟩
    · have na : a ≠ f := fun z => by
        subst z
        rw [hf] at e
        obtain rfl := Option.some.inj e
        cases vo
      rw [upd_ne na]
      exact ke a o na (by rw [upd_ne na]; exact e)
    · rw [upd_ne hn]
      exact ke q _ hn (by rw [upd_ne hn]; exact hq)
end
end Gx

/-! A comprehension over a range whose turns may change hidden things; texts -/
namespace Gx
open PySem L2
section
variable {σ : L2.St} {H H1 : Hp} {Q : VK} {K : PySem.W.Frag} {te tl : TE} {tt : TT} {g : TG} {vs : List Nat} {J : It} {n j : Nat}
theorem smv_new {H : Hp} {a : Addr} {o : HO} (h : H a = none) : SmV H (upd H a o) := Same.smv (same_new h)
theorem smv_mut {H H' : Hp} {a : Addr} {o : HO} (s : SmV H H') (h : H a = none) : SmV H (upd H' a o) := fun b u v e => by
  by_cases c : b = a
  · subst c
    rw [h] at e
    cases e
  · rw [upd_ne c]
    exact s b u v e
theorem lc_rngV {lo : Int} (hn : n ≤ 100000) (A : Nat → List V → Hp → Prop)
    (mono : ∀ i acc l D H H', H D = some (.lst l) → H1 D = none → SmV H1 H → But D H H' → A i acc H → A i acc H') (A0 : ∀ H, Same H1 H → A 0 [] H)
    (turn : ∀ i acc H' (Nx : V → Hp → Prop), i < n → SmV H1 H' → A i acc H' → acc.length = i → (∀ y H4, SmV H' H4 → A (i + 1) (acc ++ [y]) H4 → Nx y H4) →
      g (.int (lo + (i : Int))) (wipe σ vs) H' fun σ2 H2 => wipe σ2 vs = wipe σ vs ∧ te σ2 H2 Nx)
    (done : ∀ D acc H', H1 D = none → SmV H1 H' → H' D = some (.lst acc) → A n acc H' → acc.length = n → Q (.ref D) H') : LC g tYes te vs (Itr lo n) σ H1 Q := by
  intro D hD
  refine ⟨fun i m H => m = n - i ∧ i ≤ n ∧ ∃ acc, SmV H1 H ∧ H D = some (.lst acc) ∧ A i acc H ∧ acc.length = i, ⟨n, rfl, Nat.zero_le _, [], smv_new hD, upd_same, A0 _ (same_new hD), rfl⟩, ?_⟩
  rintro i m H ⟨rfl, hi, acc, s, e, a, hl⟩
  rcases Nat.lt_or_ge i n with lt | ge
  · right
    refine ⟨lt, fun H' => i + 1 ≤ n ∧ ∃ acc, SmV H1 H' ∧ H' D = some (.lst acc) ∧ A (i + 1) acc H' ∧ acc.length = i + 1, fun H' ⟨l1, q⟩ => ⟨n - (i + 1), by omega, rfl, l1, q⟩, fun x H' y => ?_⟩
    obtain ⟨rfl, rfl⟩ := y
    have t := turn i acc H' (fun y H4 => ∃ acc', H4 D = some (.lst acc') ∧ acc'.length < sizeLine ∧ (i + 1 ≤ n ∧ ∃ acc, SmV H1 (upd H4 D (.lst (acc' ++ [y]))) ∧ upd H4 D (.lst (acc' ++ [y])) D = some (.lst acc) ∧ A (i + 1) acc (upd H4 D (.lst (acc' ++ [y]))) ∧ acc.length = i + 1)) lt s a hl fun y H4 s4 a4 => ?_
    · exact t
    · have e4 := s4 _ _ rfl e
      have s14 := s.trans s4
      exact ⟨acc, e4, big_lt (by omega), lt, acc ++ [y], smv_mut s14 hD, upd_same, mono (i + 1) (acc ++ [y]) acc D H4 _ e4 hD s14 (fun b o nb z => by rw [upd_ne nb]; exact z) a4, by rw [List.length_append, hl]; rfl⟩
  · left
    have e0 : i = n := Nat.le_antisymm hi ge
    subst e0
    exact ⟨Nat.le_refl _, done D acc H hD s e a hl⟩
end
end Gx

/-! name, *rest = x; a text times 0 or 1 -/
namespace Gx
open PySem L2 PySem.Spec PyProof.Rows PySem.W
section
variable {X : Cx}
/-- the unpacking itself, one name ahead of the star -/
theorem star_list {a : Addr} {x : Value} {r : List Value} {n : Nat} {Q : List Value → Shared → Prop} {pr : Program} {wo : World} {A : Around} {E : Value → Shared → Prop} {s : Shared} (hd : A.handled = none)
    (hl : s.heap.IsList a (x :: r).toArray) (hz : r.length ≤ 16000) (done : ∀ (h2 : Heap) (tk : Nat), Heap.ExtBut s.heap.objs.size s.heap h2 → Q [x, .ref h2.objs.size] { s with toks := tk, heap := h2.push { cls := .type "list", data := .seq r.toArray } }) :
    wpAny (model pr wo) A (unpackItems (.ref a) 2 (some 1)) Q E s := by
  have ne : a ≠ s.heap.objs.size := by
    obtain ⟨o, ho, _⟩ := hl
    exact Nat.ne_of_lt (Heap.lt_size ho)
  have sz : (x :: r).toArray.size = r.length + 1 := by simp
  unfold unpackItems notIterableAtAll
  refine wpAny_bind (wpAny_bind (wpAny_specialOf hl.typeIs slot_list_iter.lookup (wpAny_pure ?_)))
  rw [if_neg (by simp)]
  refine wpAny_bind (wpAny_holding (wpAny_pyIter_list hl ?_))
  refine wpAny_bind (wpAny_holding (kun_draw ne 1 0 _ _ ⟨_, Heap.get?_push_size _ rfl, rfl, rfl⟩ (hl.push _) (by omega) fun h1 it1 sb1 => ?_))
  have hl1 : h1.IsList a (x :: r).toArray := (hl.push _).extBut sb1.extBut ne
  rw [Nat.zero_add] at it1
  have it2 := it1
  have hl2 := hl1
  obtain ⟨oi, hoi, _⟩ := it2
  obtain ⟨ol, hol, _⟩ := hl2
  rw [if_neg (by simp)]
  refine wpAny_bind (wpAny_holding (kun_collect (s := { s with heap := h1 }) (T := "list_iterator") (.inr (.inr (.inl rfl))) (Walks.list (A := A.in1) hd s.heap.objs.size a ne _) (fun j u st => st.1.typeIs) (k := 1) (by omega) ⟨it1, hl1⟩ (Heap.lt_size hoi) (Heap.lt_size hol) (fun h2 tk kp => ?_) (by rw [sz, sizeLine_eq]; omega)))
  show wpAny _ _ (if r.length < 0 then _ else _) _ _ _
  rw [if_neg (Nat.not_lt_zero _)]
  show wpAny _ _ (newList (r.take r.length) >>= fun d => pure ([x] ++ [d] ++ r.drop r.length)) _ _ _
  rw [List.take_length, List.drop_length]
  refine wpAny_bind (wpAny_newList (wpAny_pure ?_) (by rw [sizeLine_eq]; omega))
  exact done h2 tk fun b o nb e => kp b o nb (sb1.extBut b o nb (Heap.get?_push_of_some _ e))
theorem star_tuple {a : Addr} {x : Value} {r : List Value} {n : Nat} {Q : List Value → Shared → Prop} {pr : Program} {wo : World} {A : Around} {E : Value → Shared → Prop} {s : Shared} (hd : A.handled = none)
    (hl : IsTup s.heap a (x :: r).toArray) (hz : r.length ≤ 16000) (done : ∀ (h2 : Heap) (tk : Nat), Heap.ExtBut s.heap.objs.size s.heap h2 → Q [x, .ref h2.objs.size] { s with toks := tk, heap := h2.push { cls := .type "list", data := .seq r.toArray } }) :
    wpAny (model pr wo) A (unpackItems (.ref a) 2 (some 1)) Q E s := by
  have ne : a ≠ s.heap.objs.size := by
    obtain ⟨o, ho, _⟩ := hl
    exact Nat.ne_of_lt (Heap.lt_size ho)
  have sz : (x :: r).toArray.size = r.length + 1 := by simp
  unfold unpackItems notIterableAtAll
  refine wpAny_bind (wpAny_bind (wpAny_specialOf hl.typeIs slot_tuple_iter.lookup (wpAny_pure ?_)))
  rw [if_neg (by simp)]
  refine wpAny_bind (wpAny_holding (iter_tuple hl ?_))
  refine wpAny_bind (wpAny_holding (draw_tuple ne 1 0 _ _ ⟨_, Heap.get?_push_size _ rfl, rfl, rfl⟩ (hl.push _) (by omega) fun h1 it1 sb1 => ?_))
  have hl1 : IsTup h1 a (x :: r).toArray := (hl.push _).extBut sb1.extBut ne
  rw [Nat.zero_add] at it1
  have it2 := it1
  have hl2 := hl1
  obtain ⟨oi, hoi, _⟩ := it2
  obtain ⟨ol, hol, _⟩ := hl2
  rw [if_neg (by simp)]
  refine wpAny_bind (wpAny_holding (kun_collect (s := { s with heap := h1 }) (T := "tuple_iterator") (.inr (.inr (.inr rfl))) (Walks.tuple (A := A.in1) hd s.heap.objs.size a ne _) (fun j u st => st.1.typeIs) (k := 1) (by omega) ⟨it1, hl1⟩ (Heap.lt_size hoi) (Heap.lt_size hol) (fun h2 tk kp => ?_) (by rw [sz, sizeLine_eq]; omega)))
  show wpAny _ _ (if r.length < 0 then _ else _) _ _ _
  rw [if_neg (Nat.not_lt_zero _)]
  show wpAny _ _ (newList (r.take r.length) >>= fun d => pure ([x] ++ [d] ++ r.drop r.length)) _ _ _
  rw [List.take_length, List.drop_length]
  refine wpAny_bind (wpAny_newList (wpAny_pure ?_) (by rw [sizeLine_eq]; omega))
  exact done h2 tk fun b o nb e => kp b o nb (sb1.extBut b o nb (Heap.get?_push_of_some _ e))
/-- name, *rest = x : x a list or a tuple -/
def gStar (K : PySem.W.Frag) (t : TGs) : TG := fun v σ H Q => ∃ a x r, v = .ref a ∧ (SqL K H a (x :: r) ∨ SqT K H a (x :: r)) ∧ r.length ≤ 16000 ∧ ∀ p, H p = none → t [x, .ref p] σ (upd H p (.lst r)) Q
theorem pg_star {es : List Expr} {k : Nat} {t : TGs} {pos : Pos} (hc : X.calm = true) (h : PGs X es t) (hn : (assignEach es X.env).length = 2 := by rfl) (hst : (assignEach es X.env).findIdx? (·.1) = some 1 := by rfl) : PG X (.Tuple es k pos) (gStar X.K t) := by
  refine ⟨fun pins s σ H v u Q I r hw => ?_⟩
  obtain ⟨a, x, xs, rfl, hq, hl, go⟩ := hw
  cases r
  rw [PyProof.Rows.assign_Tuple]
  refine wpAny_bind (wpAny_standAt ?_)
  unfold unpack
  rw [hn, hst]
  have last : ∀ (y : Value) (ys : List Value), Vals (x :: xs) (y :: ys) → ∀ (h2 : Heap) (tk : Nat), Heap.ExtBut s.heap.objs.size s.heap h2 → wpAny (model X.prog X.w) X.A (assignInOrder ((assignEach es X.env).map (·.2)) [y, .ref h2.objs.size]) (fun _ s' => ∃ σ' H', Inv X pins σ' H' s' ∧ Q σ' H') X.xe
      { s with toks := tk, heap := h2.push { cls := .type "list", data := .seq ys.toArray } } := by
    intro y ys rv h2 tk he
    cases rv with
    | cons r1 rv =>
      have I1 : Inv X pins σ H { s with heap := h2, toks := tk } := I.kept (t' := tk) fun b o e => he b o (Nat.ne_of_lt (Heap.lt_size e)) e
      have np := I1.hok.fresh (Nat.le_refl _)
      have I2 : Inv X pins σ (upd H h2.objs.size (.lst xs)) { s with toks := tk, heap := h2.push { cls := .type "list", data := .seq ys.toArray } } :=
        I1.laid (t' := tk) (fun b u q => Heap.get?_push_of_some _ q) (Nat.le_refl _) ⟨Nat.le_trans hl (by decide), ys, _, rv, Heap.get?_push_size _ rfl⟩
      exact h.run pins _ σ _ [x, .ref h2.objs.size] [y, .ref h2.objs.size] Q I2 (.cons r1 (.cons rfl .nil)) (go _ np)
  rcases hq with hq | hq
  · obtain ⟨its, rv, pl, hz⟩ := I.list hq
    cases its with
    | nil => cases rv
    | cons y ys =>
      have hl' : s.heap.IsList a (y :: ys).toArray := by
        obtain ⟨o, m, e, c, d, q⟩ := pl
        exact ⟨o, e, c, m, q⟩
      have ly : ys.length ≤ 16000 := by
        have := rv.length
        simp at this
        omega
      exact wpAny_bind (wpAny_holding (star_list (n := 0) (I.ok.hd hc) hl' ly fun h2 tk he => last y ys rv h2 tk he))
  · obtain ⟨its, rv, ht, hz⟩ := I.tuple hq
    cases its with
    | nil => cases rv
    | cons y ys =>
      have ly : ys.length ≤ 16000 := by
        have := rv.length
        simp at this
        omega
      exact wpAny_bind (wpAny_holding (star_tuple (n := 0) (I.ok.hd hc) ht ly fun h2 tk he => last y ys rv h2 tk he))
theorem g_starT {K : PySem.W.Frag} {t : TGs} {a : Addr} {x : V} {r : List V} {σ : L2.St} {H : Hp} {Q : L2.St → Hp → Prop} (h : SqL K H a (x :: r) ∨ SqT K H a (x :: r)) (hl : r.length ≤ 16000) (k : ∀ p H', H p = none → Same H H' → H' p = some (.lst r) → t [x, .ref p] σ H' Q) : gStar K t (.ref a) σ H Q :=
  ⟨a, x, r, rfl, h, hl, fun p hp => k p _ hp (same_new hp) upd_same⟩
/-- a text, 0 or 1 times -/
def rRep1 : R2 := fun x y H Q => ∃ (a : Str) (b : Bool), x = .str a ∧ y = .int (if b = true then 1 else 0) ∧ Q (.str (if b = true then a else Str.empty)) H
theorem op_rep1 : OpR X (binaryOp .Mult) rRep1 := by
  intro pins s σ H x y v u Q I rx ry h
  obtain ⟨a, b, rfl, rfl, q⟩ := h
  obtain ⟨t, rfl⟩ := rx
  obtain ⟨t', rfl⟩ := ry
  cases b with
  | true => exact P.mul_str (by decide) (fun _ z => by cases z) (fun _ z => by cases z) ⟨.str a, H, I, ⟨t, rfl⟩, q⟩
  | false => exact P.mul_str_none (by decide) (by decide) ⟨.str Str.empty, H, I.tok _, ⟨_, rfl⟩, q⟩
end
end Gx

/-! Steps for texts; defs called by a keyword; the walk over enumerate -/
namespace Gx
open PySem L2 PySem.Spec PyProof.Rows
section
variable {X : Cx}
theorem pgs_star {e : Expr} {es : List Expr} {t : TG} {u : TGs} {p : Pos} (h1 : PG X e t) (h2 : PGs X es u) (hs : (assignEach (.Starred e p :: es) X.env).map (·.2) = assign e X.env :: (assignEach es X.env).map (·.2) := by rfl) : PGs X (.Starred e p :: es) (gCons t u) := by
  refine ⟨fun pins s σ H vs us Q I r h => ?_⟩
  obtain ⟨v, vr, rfl, h⟩ := h
  cases r with
  | cons r rr =>
    rw [hs]
    exact assignInOrder_cons (thn (h1.run pins s σ H _ _ _ I r h) fun _ s1 ⟨σ1, H1, I1, q1⟩ => h2.run pins s1 σ1 H1 _ _ Q I1 rr q1)
/-- a def called with keywords alone -/
structure CalK (P : Program) (w : World) (K : PySem.W.Frag) (mg : Str → Option Value) (base : Heap) (k : Nat) (x : Str) (ks : List Str) (gV : List V → List V → List V) (sp : Sp) : Prop where
  ex : ∃ (f : Addr) (fd : FuncData) (ps : List Str) (g : List Value → List Value → List Value), FnOk P w K mg base CX0 k f fd ps sp ∧ mg x = some (.ref f) ∧ PySem.W.keepIn K (.ref f) = true ∧ KBinds K fd ps ks g gV
def tCallK0 (sp : Sp) (gV : List V → List V → List V) (tk : TA) : TE := fun σ H Q => tk σ H fun zs H2 => sp (gV [] zs) H2 Q (fun _ _ _ => False)
theorem pe_cK {k j : Nat} {x : Str} {ks : List Str} {gV : List V → List V → List V} {sp : Sp} {kws : List Keyword} {tk : TA} {p pos : Pos} (c : CalK X.prog X.w X.K X.mg X.base k x ks gV sp) (hr : Room j X.A) (hk : k ≤ j) (hg : Gl X x) (hkw : PK X kws tk)
    (hdb : (x == ("__debug__" : Str)) = false := by decide) (hall : (backToKw pos (keywordEach kws X.env)).all (·.1.isSome) = true := by rfl) (hks : (backToKw pos (keywordEach kws X.env)).filterMap (·.1) = ks := by rfl)
    (hpl : ((backTo pos (starEach [] X.env)).any (·.1) || (backToKw pos (keywordEach kws X.env)).any (·.1.isNone)) = false := by rfl) : PE X (.Call (.Name x p) [] kws pos) (tCallK0 sp gV tk) := by
  obtain ⟨f, fd, ps, g, F, named, kept, kb⟩ := c.ex
  refine ⟨fun pins s σ H Q I h => wpAny_Call_Name_kw (ld_glob I hg named ?_ hdb)⟩
  refine PySem.W.callWith_KW0 (h₀ := X.base) I.ok.mod.kin kept hall (thn (hkw.run pos pins s σ H _ I h) fun ws s2 got => ?_) hpl
  obtain ⟨zs, H2, I2, rz, q2⟩ := got
  refine ⟨I2.kIn, ?_⟩
  rw [hks]
  exact run_fnk (us := []) (vs := []) F (hr.mono hk) kb pass0 I2 .nil rz q2
def soleV : List V → List V → List V
  | [], [x] => [x]
  | _, _ => []
def soleU : List Value → List Value → List Value
  | [], [x] => [x]
  | _, _ => []
theorem sole_rel {vs : List V} {us : List Value} {zs : List V} {ws : List Value} (r : Vals vs us) (rz : Vals zs ws) : Vals (soleV vs zs) (soleU us ws) := by
  cases r with
  | nil =>
    cases rz with
    | nil => exact .nil
    | cons z1 rz =>
      cases rz with
      | nil => exact .cons z1 .nil
      | cons _ _ => exact .nil
  | cons r1 r => exact .nil
theorem kbinds_sole {K : PySem.W.Frag} {fd : FuncData} {k : Str} (h : ∀ x : Value, bindArgs fd ⟨[], [(k, x)]⟩ = pure [(k, x)]) : KBinds K fd [k] [k] soleU soleV := by
  refine ⟨fun st us ws _ hl => ?_, sole_rel⟩
  match us, ws, hl with
  | [], [x], _ => exact .of_eq (h x)
  | [], [], hl => simp [soleU] at hl
  | [], _ :: _ :: _, hl => simp [soleU] at hl
  | _ :: _, _, hl => simp [soleU] at hl
end
section
variable {σ : L2.St} {H H1 : Hp} {Q : VK} {K : PySem.W.Frag} {te to ta : TE} {tk : TA} {R : It → Hp → Prop} {a : Addr} {xs : List V}
theorem g_callK0 {sp : Sp} {gV : List V → List V → List V} (q : tk σ H fun zs H2 => sp (gV [] zs) H2 Q (fun _ _ _ => False)) : tCallK0 sp gV tk σ H Q := q
theorem g_m1 {r : V → List V → Hp → VK → Prop} (q : to σ H fun x H1 => (∃ a, x = .str a) ∧ te σ H1 fun y H2 => r x [y] H2 Q) : tM1 r to te σ H Q := q
theorem g_isstr {z : Str} {P : Prop} (q : P) : (∃ a, V.str z = .str a) ∧ P := ⟨⟨z, rfl⟩, q⟩
theorem g_iStr (q : te σ H fun v H1 => ∃ x, v = .str x ∧ R (Its x) H1) : iStr te σ H R := q
theorem g_exS {z : Str} {R : Str → Prop} (q : R z) : ∃ x, V.str z = .str x ∧ R x := ⟨z, rfl, q⟩
theorem g_iEnum {t : TA} (q : t σ H fun vs H1 => ∃ a xs, vs = [.ref a] ∧ SqL K H1 a xs ∧ R (Ite K a) H1) : iEnum K t σ H R := q
theorem g_exEn {R : Addr → Prop} (h : SqL K H a xs) (q : R a) : ∃ b ys, [V.ref a] = [.ref b] ∧ SqL K H b ys ∧ R b := ⟨a, xs, rfl, h, q⟩
theorem src_str {x : Str} : Src (Its x) H1 x.cps.size (fun i v _ => ∃ c, x.cps[i]? = some c ∧ v = .str ⟨#[c]⟩) := fun i H s =>
  ⟨fun hi => ⟨hi, fun v H' y => by obtain ⟨rfl, q⟩ := y; exact ⟨Same.refl _, q⟩⟩, fun hi => hi⟩
theorem fw_enum {g : TG} {tb : TS} {D : Ends} (Pv : Nat → L2.St → Hp → Prop) (h0 : Pv 0 σ H) (hl : ∀ i σ H, i ≤ xs.length → Pv i σ H → SqL K H a xs)
    (hs : ∀ i x t σ H H', xs[i]? = some x → Pv i σ H → Same H H' → H' t = some (.tup [.int (i : Nat), x]) → g (.ref t) σ H' fun σ2 H2 => tb { D with nx := Pv (i + 1), ct := Pv (i + 1), bk := D.nx } σ2 H2) (hd : ∀ σ H, Pv xs.length σ H → D.nx σ H) : FW g tb D (Ite K a) σ H := by
  refine ⟨fun i m σ H => m = xs.length - i ∧ i ≤ xs.length ∧ Pv i σ H, ⟨_, rfl, Nat.zero_le _, h0⟩, ?_⟩
  rintro i m σ H ⟨rfl, hi, p⟩
  have q := hl i σ H hi p
  rcases Nat.lt_or_ge i xs.length with lt | ge
  · refine .inr ⟨⟨xs, xs[i], q, List.getElem?_eq_getElem lt⟩, Pv (i + 1), fun σ' H' p' => ⟨xs.length - (i + 1), by omega, rfl, lt, p'⟩, fun v H' y => ?_⟩
    obtain ⟨t, x, rfl, nt, rfl, at_⟩ := y
    exact hs i x t σ H _ (at_ xs q) p (same_new nt) upd_same
  · have e : i = xs.length := Nat.le_antisymm hi ge
    subst e
    exact .inl ⟨⟨xs, q, Nat.le_refl _⟩, hd σ H p⟩
theorem g_split {a b : Str} (hb : (b.length == 0) = false) (hl : a.length + 2 ≤ sizeLine) (k : ∀ p H', H p = none → Same H H' → H' p = some (.lst ((Txt.split a b).map V.str)) → Q (.ref p) H') :
    (∃ x y, V.str a = .str x ∧ [V.str b] = [.str y] ∧ (y.length == 0) = false ∧ x.length + 2 ≤ sizeLine ∧ rNewStrs (Txt.split x y) H Q) := ⟨a, b, rfl, rfl, hb, hl, fun p hp => k p _ hp (same_new hp) upd_same⟩
theorem g_join {s : Str} {p : Addr} {ys : List Str} (h : SqL K H p (ys.map V.str)) (hl : (ys.map (·.length)).sum + ys.length * s.length ≤ 16777216) (q : Q (.str (Txt.join s ys)) H) :
    (∃ a p', ∃ ys : List Str, V.str s = .str a ∧ [V.ref p] = [.ref p'] ∧ (SqL K H p' (ys.map V.str) ∨ SqT K H p' (ys.map V.str)) ∧ (ys.map (·.length)).sum + ys.length * a.length ≤ 16777216 ∧ Q (.str (Txt.join a ys)) H) := ⟨s, p, ys, rfl, rfl, .inl h, hl, q⟩
end
end Gx

/-! in by an own __contains__; while; dict comprehensions; comprehensions over ints -/
namespace Gx
open PySem L2 PySem.Spec PyProof.Rows
open C8 (Cal Met Mak)
section
variable {X : Cx} {k j : Nat} {C : Addr} {sp : Sp}
/-- y in o, o of the class at C with its own __contains__ -/
def rOwn (C : Addr) (sp : Sp) (neg : Bool) : R2 := fun y x H Q => ∃ a dx fs, x = .ref a ∧ H a = some (.ins C dx fs) ∧ sp [.ref a, y] H (fun r H' => ∃ b, r = .bl b ∧ Q (.bl (if neg = true then !b else b)) H') (fun _ _ _ => False)
theorem own_run {f : Addr} {fd : FuncData} {ps : List Str} {pins : List (Addr × Obj)} {σ : L2.St} {H : Hp} {s : Shared} {vs : List V} {us : List Value} {Q : VK} (F : FnOk X.prog X.w X.K X.mg X.base CX0 k f fd ps sp) (hr : Room k X.A) (hb : Binds X.K fd ps [])
    (I : Inv X pins σ H s) (r : Vals vs us) (h : sp vs H Q (fun _ _ _ => False)) : wpAny (model X.prog X.w) X.A (call (.ref f) us) (EP X pins σ Q) X.xe s := by
  have hl := F.len _ _ _ _ h
  refine wpAny_call (codeAny_mono (F.run X.A X.stack s H ⟨us, []⟩ us vs Q (fun _ _ _ => False) hr I.env0 (by
    have := hb s us I.kIn (by rw [List.append_nil, ← r.length]; exact hl)
    simpa using this) r h) fun r s' hq => ?_)
  cases r with
  | error e => exact hq.elim
  | ok fl =>
    cases fl with
    | ret w => exact I.after hq
    | next => exact False.elim hq
    | brk => exact False.elim hq
    | cont => exact False.elim hq
theorem op_ownIn (c : Met X.prog X.w X.K X.mg X.base k C "__contains__" sp []) (hr : Room j X.A) (hk : k ≤ j) : OpR X (compareOp .In) (rOwn C sp false) := by
  intro pins s σ H y x v u Q I ry rx h
  obtain ⟨a, dx, fs, rfl, ha, q⟩ := h
  cases rx
  obtain ⟨f, fd, ps, ds, hc, hm, F, hb, hd⟩ := c.ex
  cases hd
  obtain ⟨mA, J, _⟩ := ins_get I.hok ha
  obtain ⟨od, J, _⟩ := J.look
  obtain ⟨m, hF⟩ := I.fr
  refine PySem.W.in_K hF I.ok.mod.kin J hm.at_ hm.fn (wpAny_mono (own_run (vs := [.ref a, y]) F (hr.mono hk) hb I (.cons rfl (.cons ry .nil)) q) (fun z s' hz => ?_) fun _ _ e => e)
  obtain ⟨r, H', I', rz, b, rfl, q'⟩ := hz
  cases rz
  exact wpAny_truthy_bool ⟨.bl b, H', I', rfl, q'⟩
theorem op_ownNotIn (c : Met X.prog X.w X.K X.mg X.base k C "__contains__" sp []) (hr : Room j X.A) (hk : k ≤ j) : OpR X (compareOp .NotIn) (rOwn C sp true) := by
  intro pins s σ H y x v u Q I ry rx h
  obtain ⟨a, dx, fs, rfl, ha, q⟩ := h
  cases rx
  obtain ⟨f, fd, ps, ds, hc, hm, F, hb, hd⟩ := c.ex
  cases hd
  obtain ⟨mA, J, _⟩ := ins_get I.hok ha
  obtain ⟨od, J, _⟩ := J.look
  obtain ⟨m, hF⟩ := I.fr
  refine PySem.W.notIn_K hF I.ok.mod.kin J hm.at_ hm.fn (wpAny_mono (own_run (vs := [.ref a, y]) F (hr.mono hk) hb I (.cons rfl (.cons ry .nil)) q) (fun z s' hz => ?_) fun _ _ e => e)
  obtain ⟨r, H', I', rz, b, rfl, q'⟩ := hz
  cases rz
  exact wpAny_truthy_bool ⟨.bl (!b), H', I', rfl, q'⟩
end
section
variable {σ : L2.St} {H H1 : Hp} {Q : VK} {K : PySem.W.Frag} {te tl tk tv : TE} {tt : TT} {g : TG} {vs : List Nat} {J : It} {n j : Nat} {D : Ends} {tb : TS}
theorem g_own {C a dx : Addr} {fs : List (Str × V)} {sp : Sp} {y : V} (h : H a = some (.ins C dx fs)) (q : sp [.ref a, y] H (fun r H' => ∃ b, r = .bl b ∧ Q (.bl (if false = true then !b else b)) H') (fun _ _ _ => False)) : rOwn C sp false y (.ref a) H Q := ⟨a, dx, fs, rfl, h, q⟩
/-- while, by a word and a measure of the state -/
theorem g_while (Pv : Nat → L2.St → Hp → Prop) (m0 : Nat) (h0 : Pv m0 σ H) (hs : ∀ m σ H, Pv m σ H → tt σ H fun b H1 => if b = true then ∃ N : L2.St → Hp → Prop, (∀ σ' H', N σ' H' → ∃ m', m' < m ∧ Pv m' σ' H') ∧ tb { D with nx := N, ct := N, bk := D.nx } σ H1 else D.nx σ H1) : tWhile tt tb D σ H := ⟨Pv, ⟨m0, h0⟩, hs⟩
theorem g_turn (Pv : Nat → L2.St → Hp → Prop) {m : Nat} (q : tb { D with nx := fun σ' H' => ∃ m', m' < m ∧ Pv m' σ' H', ct := fun σ' H' => ∃ m', m' < m ∧ Pv m' σ' H', bk := D.nx } σ H) : ∃ N : L2.St → Hp → Prop, (∀ σ' H', N σ' H' → ∃ m', m' < m ∧ Pv m' σ' H') ∧ tb { D with nx := N, ct := N, bk := D.nx } σ H := ⟨_, fun _ _ h => h, q⟩
/-! ### membership in a dict -/
/-- the turns of a dict comprehension, its source known -/
def DC (g : TG) (tt : TT) (tk tv : TE) (vs : List Nat) (J : It) (σ : L2.St) (H1 : Hp) (Q : VK) : Prop := ∀ D, H1 D = none → ∃ W : Nat → Nat → Hp → Prop, (∃ m, W 0 m (upd H1 D (.dK []))) ∧ ∀ i m H, W i m H →
  (J.stop i H ∧ Q (.ref D) H) ∨ (J.go i H ∧ ∃ Nx : Hp → Prop, (∀ H', Nx H' → ∃ m', m' < m ∧ W (i + 1) m' H') ∧ ∀ x H', J.yld i H x H' → g x (wipe σ vs) H' fun σ2 H2 => wipe σ2 vs = wipe σ vs ∧ tt σ2 H2 fun b H3 =>
    if b = true then tk σ2 H3 fun y H4 => tv σ2 H4 fun z H5 => ∃ kvs k, y = kV k ∧ H5 D = some (.dK kvs) ∧ kvs.length < sizeLine ∧ Nx (upd H5 D (.dK (putK kvs k z))) else Nx H3)
theorem g_dc {wi : TI} (q : wi σ H fun J H1 => DC g tt tk tv vs J σ H1 Q) : tDc wi g tt tk tv vs σ H Q := q
/-- a dict whose keys are some ints -/
def KeysI (H : Hp) (a : Addr) (ns : List Int) : Prop := ∃ kvs : List (Key × V), H a = some (.dK kvs) ∧ ∀ k : Int, (valV kvs (.inl k)).isSome = decide (k ∈ ns)
theorem KeysI.same {H H' : Hp} {a : Addr} {ns : List Int} (h : KeysI H a ns) (s : Same H H') : KeysI H' a ns := by
  obtain ⟨kvs, e, m⟩ := h
  exact ⟨kvs, s _ _ e, m⟩
theorem dc_ints {a : Addr} {ns : List Int} (h : SqL K H1 a (ns.map V.int)) (hn : ns.length ≤ 100000)
    (turn : ∀ (m : Int) H' (Nx : V → V → Hp → Prop), m ∈ ns → Same H1 H' → (∀ z H4, Same H' H4 → Nx (.int m) z H4) → g (.int m) (wipe σ vs) H' fun σ2 H2 => wipe σ2 vs = wipe σ vs ∧ tk σ2 H2 fun y H3 => tv σ2 H3 fun z H4 => Nx y z H4)
    (done : ∀ D H', H1 D = none → Same H1 H' → KeysI H' D ns → Q (.ref D) H') : DC g tYes tk tv vs (Itl K a) σ H1 Q := by
  intro D hD
  refine ⟨fun i m H => m = ns.length - i ∧ i ≤ ns.length ∧ ∃ kvs : List (Key × V), Same H1 H ∧ H D = some (.dK kvs) ∧ kvs.length ≤ i ∧ ∀ k : Int, (valV kvs (.inl k)).isSome = decide (k ∈ ns.take i), ⟨ns.length, rfl, Nat.zero_le _, [], same_new hD, upd_same, Nat.le_refl _, fun k => rfl⟩, ?_⟩
  rintro i m H ⟨rfl, hi, kvs, s, e, hl, mem⟩
  rcases Nat.lt_or_ge i ns.length with lt | ge
  · right
    have lt' : i < (ns.map V.int).length := by rw [List.length_map]; exact lt
    obtain ⟨go, yl⟩ := (src_list h i H s).1 lt'
    refine ⟨go, fun H' => i + 1 ≤ ns.length ∧ ∃ kvs : List (Key × V), Same H1 H' ∧ H' D = some (.dK kvs) ∧ kvs.length ≤ i + 1 ∧ ∀ k : Int, (valV kvs (.inl k)).isSome = decide (k ∈ ns.take (i + 1)), fun H' ⟨l1, q⟩ => ⟨ns.length - (i + 1), by omega, rfl, l1, q⟩, fun x H' y => ?_⟩
    obtain ⟨s2, it⟩ := yl x H' y
    have s12 := s.trans s2
    obtain ⟨n, hn', rfl⟩ := ints_at it
    have t := turn n H' (fun y z H5 => ∃ kvs k, y = kV k ∧ H5 D = some (.dK kvs) ∧ kvs.length < sizeLine ∧ (i + 1 ≤ ns.length ∧ ∃ kvs' : List (Key × V), Same H1 (upd H5 D (.dK (putK kvs k z))) ∧ upd H5 D (.dK (putK kvs k z)) D = some (.dK kvs') ∧ kvs'.length ≤ i + 1 ∧ ∀ k : Int, (valV kvs' (.inl k)).isSome = decide (k ∈ ns.take (i + 1)))) (List.mem_of_getElem? hn') s12 fun z H4 s4 => ?_
    · exact t
    · refine ⟨kvs, .inl n, rfl, s4 _ _ (s2 _ _ e), big_lt (by omega), lt, _, same_mut (s12.trans s4) hD, upd_same, Nat.le_trans (length_putK _ _ _) (Nat.succ_le_succ hl), fun k => ?_⟩
      have tk : ns.take (i + 1) = ns.take i ++ [n] := by
        rw [List.take_succ, hn']
        rfl
      rw [valV_put, tk]
      by_cases c : k = n
      · subst c
        rw [if_pos rfl]
        simp
      · rw [if_neg (fun z => c (Sum.inl.inj z)), mem k]
        simp [c]
  · left
    have e0 : i = ns.length := Nat.le_antisymm hi ge
    subst e0
    rw [List.take_length] at mem
    exact ⟨(src_list h _ H s).2 (by rw [List.length_map]; exact Nat.le_refl _), done D H hD s ⟨kvs, e, mem⟩⟩
def rDIn2 (neg : Bool) : R2 := fun y x H Q => ∃ a o, x = .ref a ∧ DGet H a y o ∧ Q (.bl (if neg = true then !o.isSome else o.isSome)) H
theorem op_dictIn {X : Cx} (hu : X.A.units + 64 < cLine) : OpR X (compareOp .In) (rDIn2 false) := by
  intro pins s σ H y x v u Q I ry rx h
  obtain ⟨a, ov, rfl, g, q⟩ := h
  cases rx
  exact d_in (by omega) I g ry fun s3 I3 => ⟨.bl ov.isSome, H, I3, rfl, q⟩
theorem op_dictNotIn {X : Cx} (hu : X.A.units + 64 < cLine) : OpR X (compareOp .NotIn) (rDIn2 true) := by
  intro pins s σ H y x v u Q I ry rx h
  obtain ⟨a, ov, rfl, g, q⟩ := h
  cases rx
  exact d_notIn (by omega) I g ry fun s3 I3 => ⟨.bl (!ov.isSome), H, I3, rfl, q⟩
theorem g_keyNot {a : Addr} {ns : List Int} {n : Int} (h : KeysI H a ns) (q : Q (.bl (!decide (n ∈ ns))) H) : rDIn2 true (.int n) (.ref a) H Q := by
  obtain ⟨kvs, e, m⟩ := h
  exact ⟨a, _, rfl, DGet.k (k := .inl n) e, by rw [if_pos rfl, m]; exact q⟩
theorem g_keyIn {a : Addr} {ns : List Int} {n : Int} (h : KeysI H a ns) (q : Q (.bl (decide (n ∈ ns))) H) : rDIn2 false (.int n) (.ref a) H Q := by
  obtain ⟨kvs, e, m⟩ := h
  exact ⟨a, _, rfl, DGet.k (k := .inl n) e, by rw [if_neg (by decide), m]; exact q⟩
/-! ### comprehensions over ints -/
/-- a test that each int answers -/
theorem lc_filtI {a : Addr} {ns : List Int} (h : SqL K H1 a (ns.map V.int)) (hn : ns.length ≤ 100000) (d : Int → Bool)
    (turn : ∀ (m : Int) H' (Nx : V → Hp → Prop) (No : Hp → Prop), m ∈ ns → Same H1 H' → (∀ H4, Same H' H4 → d m = true → Nx (.int m) H4) → (∀ H4, Same H' H4 → d m = false → No H4) →
      g (.int m) (wipe σ vs) H' fun σ2 H2 => wipe σ2 vs = wipe σ vs ∧ tt σ2 H2 fun b H3 => if b = true then te σ2 H3 Nx else No H3)
    (done : ∀ D H', H1 D = none → Same H1 H' → H' D = some (.lst ((ns.filter d).map V.int)) → Q (.ref D) H') : LC g tt te vs (Itl K a) σ H1 Q := by
  have e0 : ns.length = (ns.map V.int).length := (List.length_map _).symm
  refine lc_src (n := ns.length) (by rw [e0]; exact src_list h) hn (fun i acc _ => acc = ((ns.take i).filter d).map V.int) (fun _ _ _ _ _ _ _ _ _ _ a => a) (fun _ _ => rfl) (fun i x acc H' Nx No lt s it a hl k1 k2 => ?_) fun D acc H' h1 s e a _ => done D H' h1 s (by rw [e, a, List.take_length])
  obtain ⟨m, hm, rfl⟩ := ints_at it
  have tk : ns.take (i + 1) = ns.take i ++ [m] := by
    rw [List.take_succ, hm]
    rfl
  refine turn m H' Nx No (List.mem_of_getElem? hm) s (fun H4 s4 h => k1 _ H4 s4 ?_) (fun H4 s4 h => k2 H4 s4 ?_)
  · rw [tk, List.filter_append, List.map_append, a]
    simp [h]
  · rw [tk, List.filter_append, List.map_append, a]
    simp [h]
/-- a test whose answer is not known: some of them, in their sequence -/
theorem lc_someI {a : Addr} {ns : List Int} (h : SqL K H1 a (ns.map V.int)) (hn : ns.length ≤ 100000)
    (turn : ∀ (m : Int) H' (Nx : V → Hp → Prop) (No : Hp → Prop), m ∈ ns → Same H1 H' → (∀ H4, Same H' H4 → Nx (.int m) H4) → (∀ H4, Same H' H4 → No H4) →
      g (.int m) (wipe σ vs) H' fun σ2 H2 => wipe σ2 vs = wipe σ vs ∧ tt σ2 H2 fun b H3 => if b = true then te σ2 H3 Nx else No H3)
    (done : ∀ D (ys : List Int) H', H1 D = none → Same H1 H' → H' D = some (.lst (ys.map V.int)) → ys.Sublist ns → Q (.ref D) H') : LC g tt te vs (Itl K a) σ H1 Q := by
  have e0 : ns.length = (ns.map V.int).length := (List.length_map _).symm
  refine lc_src (n := ns.length) (by rw [e0]; exact src_list h) hn (fun i acc _ => ∃ ys : List Int, acc = ys.map V.int ∧ ys.Sublist (ns.take i)) (fun _ _ _ _ _ _ _ _ _ _ a => a) (fun _ _ => ⟨[], rfl, List.nil_sublist _⟩) (fun i x acc H' Nx No lt s it a hl k1 k2 => ?_) fun D acc H' h1 s e a _ => ?_
  · obtain ⟨m, hm, rfl⟩ := ints_at it
    obtain ⟨ys, rfl, sub⟩ := a
    have tk : ns.take (i + 1) = ns.take i ++ [m] := by
      rw [List.take_succ, hm]
      rfl
    refine turn m H' Nx No (List.mem_of_getElem? hm) s (fun H4 s4 => k1 _ H4 s4 ⟨ys ++ [m], by rw [List.map_append]; rfl, ?_⟩) (fun H4 s4 => k2 H4 s4 ⟨ys, rfl, ?_⟩)
    · rw [tk]
      exact sub.append (List.Sublist.refl _)
    · rw [tk]
      exact sub.trans (List.sublist_append_left _ _)
  · obtain ⟨ys, rfl, sub⟩ := a
    rw [List.take_length] at sub
    exact done D ys H' h1 s e sub
end
/-! ### keywords in another sequence -/
def rotV : List V → List V → List V
  | [], [z, b, a, c] => [a, b, c, z]
  | _, _ => []
def rotU : List Value → List Value → List Value
  | [], [z, b, a, c] => [a, b, c, z]
  | _, _ => []
theorem rot_rel {vs : List V} {us : List Value} {zs : List V} {ws : List Value} (r : Vals vs us) (rz : Vals zs ws) : Vals (rotV vs zs) (rotU us ws) := by
  cases r with
  | cons _ _ => exact .nil
  | nil =>
    cases rz with
    | nil => exact .nil
    | cons z1 rz =>
      cases rz with
      | nil => exact .nil
      | cons z2 rz =>
        cases rz with
        | nil => exact .nil
        | cons z3 rz =>
          cases rz with
          | nil => exact .nil
          | cons z4 rz =>
            cases rz with
            | nil => exact .cons z3 (.cons z2 (.cons z4 (.cons z1 .nil)))
            | cons _ _ => exact .nil
theorem kbinds_rot {K : PySem.W.Frag} {fd : FuncData} {k1 k2 k3 k4 : Str} (h : ∀ z b a c : Value, bindArgs fd ⟨[], [(k4, z), (k2, b), (k1, a), (k3, c)]⟩ = pure [(k1, a), (k2, b), (k3, c), (k4, z)]) : KBinds K fd [k1, k2, k3, k4] [k4, k2, k1, k3] rotU rotV := by
  refine ⟨fun st us ws _ hl => ?_, rot_rel⟩
  match us, ws, hl with
  | [], [z, b, a, c], _ => exact .of_eq (h z b a c)
  | [], [], hl => simp [rotU] at hl
  | [], [_], hl => simp [rotU] at hl
  | [], [_, _], hl => simp [rotU] at hl
  | [], [_, _, _], hl => simp [rotU] at hl
  | [], _ :: _ :: _ :: _ :: _ :: _, hl => simp [rotU] at hl
  | _ :: _, _, hl => simp [rotU] at hl
end Gx

/-! How far a read reaches, as plain functions; what is found by steps and by the nearest points is the same -/
namespace Gx
open PySem L2
def leftOf (ns : List Int) (lo : Int) : Option Int := if lo ∈ ns then some lo else (ns.filter fun n => decide (n < lo)).getLast?
def rightOf (ns : List Int) (hi : Int) : Option Int := if hi ∈ ns then some hi else (ns.filter fun n => decide (hi < n)).head?
def keptOf (ns ss : List Int) : List Int := ns.filter fun n => !decide (n ∈ ss)
def leftOk (l : Option Int) (hl : Bool) (x : Int) : Bool := match l with | none => true | some a => !(decide (x < a) || (decide (x = a) && !hl))
def rightOk (r : Option Int) (hr : Bool) (x : Int) : Bool := match r with | none => true | some b => decide (x < b) || (decide (x = b) && hr)
def heldB (l r : Option Int) (hl hr : Bool) (x : Int) : Bool := leftOk l hl x && rightOk r hr x
def reachV (ns ss : List Int) (lo hi : Int) : List V := [oV (leftOf (keptOf ns ss) lo), oV (rightOf (keptOf ns ss) hi), .bl (decide (lo ∈ keptOf ns ss)), .bl (decide (hi ∈ keptOf ns ss))]
def tupD (l r : Option Int) (hl hr : Bool) : PyData := .tuple [oD l, oD r, .bool hl, .bool hr]
def reachD (ns ss : List Int) (lo hi : Int) : PyData := tupD (leftOf (keptOf ns ss) lo) (rightOf (keptOf ns ss) hi) (decide (lo ∈ keptOf ns ss)) (decide (hi ∈ keptOf ns ss))
theorem kept_up {ns : List Int} (ss : List Int) (h : ns.Pairwise (· < ·)) : (keptOf ns ss).Pairwise (· < ·) := h.sublist List.filter_sublist
theorem kept_sub {ns ss : List Int} {n : Int} (h : n ∈ keptOf ns ss) : n ∈ ns := (List.mem_filter.mp h).1
theorem kept_len (ns ss : List Int) : (keptOf ns ss).length ≤ ns.length := List.length_filter_le _ _
/-- the greatest of ascending numbers is the last -/
theorem last_most : ∀ {l : List Int} {z : Int}, l.Pairwise (· < ·) → l.getLast? = some z → ∀ y ∈ l, y ≤ z
  | [], _, _, h, _, _ => by cases h
  | [a], z, _, h, y, hy => by
    rw [List.mem_singleton.mp hy]
    have : a = z := by simpa using h
    omega
  | a :: b :: r, z, p, h, y, hy => by
    have h2 : (b :: r).getLast? = some z := by rw [List.getLast?_cons_cons] at h; exact h
    have ih := last_most (List.pairwise_cons.mp p).2 h2
    rcases List.mem_cons.mp hy with rfl | hy
    · have := (List.pairwise_cons.mp p).1 b (List.mem_cons_self ..)
      have := ih b (List.mem_cons_self ..)
      omega
    · exact ih y hy
theorem head_least {l : List Int} {z : Int} (p : l.Pairwise (· < ·)) (h : l.head? = some z) : ∀ y ∈ l, z ≤ y := by
  intro y hy
  cases l with
  | nil => cases h
  | cons a r =>
    have e : a = z := by simpa using h
    rcases List.mem_cons.mp hy with rfl | hy
    · omega
    · have := (List.pairwise_cons.mp p).1 y hy
      omega
theorem last_filter {ns : List Int} (p : ns.Pairwise (· < ·)) {c : Int → Bool} {x : Int} (hx : x ∈ ns) (hc : c x = true) (most : ∀ y ∈ ns, c y = true → y ≤ x) : (ns.filter c).getLast? = some x := by
  have hm : x ∈ ns.filter c := List.mem_filter.mpr ⟨hx, hc⟩
  cases e : (ns.filter c).getLast? with
  | none =>
    rw [List.getLast?_eq_none_iff.mp e] at hm
    cases hm
  | some z =>
    have h1 := last_most (p.sublist List.filter_sublist) e x hm
    obtain ⟨hz, cz⟩ := List.mem_filter.mp (List.mem_of_getLast? e)
    have h2 := most z hz cz
    rw [show z = x by omega]
theorem head_filter {ns : List Int} (p : ns.Pairwise (· < ·)) {c : Int → Bool} {x : Int} (hx : x ∈ ns) (hc : c x = true) (least : ∀ y ∈ ns, c y = true → x ≤ y) : (ns.filter c).head? = some x := by
  have hm : x ∈ ns.filter c := List.mem_filter.mpr ⟨hx, hc⟩
  cases e : (ns.filter c).head? with
  | none =>
    rw [List.head?_eq_none_iff.mp e] at hm
    cases hm
  | some z =>
    have h1 := head_least (p.sublist List.filter_sublist) e x hm
    obtain ⟨hz, cz⟩ := List.mem_filter.mp (List.mem_of_head? e)
    have h2 := least z hz cz
    rw [show z = x by omega]
theorem filter_no {ns : List Int} {c : Int → Bool} (h : ∀ n ∈ ns, c n = false) : ns.filter c = [] := List.filter_eq_nil_iff.mpr fun n hn => by rw [h n hn]; exact Bool.false_ne_true
/-- what is found by steps of one number -/
def StepP (rows : List Int) (b by_ : Int) (o : Option Int) (z : Bool) : Prop :=
  (∃ t : Nat, t < 40 ∧ o = some (b + by_ * (t : Int)) ∧ b + by_ * (t : Int) ∈ rows ∧ (∀ s : Nat, s < t → ¬ b + by_ * (s : Int) ∈ rows) ∧ z = decide (t = 0)) ∨ (o = none ∧ z = false ∧ ∀ s : Nat, s < 40 → ¬ b + by_ * (s : Int) ∈ rows)
theorem step_left {ns : List Int} (p : ns.Pairwise (· < ·)) (hb : ∀ n ∈ ns, -12 ≤ n ∧ n ≤ 12) {lo : Int} (h1 : -13 ≤ lo) (h2 : lo ≤ 13) {o : Option Int} {z : Bool} (h : StepP ns lo (-1) o z) : o = leftOf ns lo ∧ z = decide (lo ∈ ns) := by
  unfold leftOf
  rcases h with ⟨t, lt, rfl, ht, nt, rfl⟩ | ⟨rfl, rfl, no⟩
  · cases t with
    | zero =>
      have e : lo + -1 * ((0 : Nat) : Int) = lo := by omega
      rw [e] at ht ⊢
      rw [if_pos ht]
      exact ⟨rfl, by simp [ht]⟩
    | succ t =>
      have n0 : ¬ lo ∈ ns := by
        have := nt 0 (by omega)
        rwa [show lo + -1 * ((0 : Nat) : Int) = lo by omega] at this
      rw [if_neg n0]
      refine ⟨(last_filter p ht (decide_eq_true (by omega)) fun y hy cy => ?_).symm, by simp [n0]⟩
      have c := of_decide_eq_true cy
      rcases Int.lt_or_le (lo + -1 * ((t + 1 : Nat) : Int)) y with l | l
      · have := nt (lo - y).toNat (by omega)
        rw [show lo + -1 * (((lo - y).toNat : Nat) : Int) = y by omega] at this
        exact absurd hy this
      · exact l
  · have n0 : ¬ lo ∈ ns := by
      have := no 0 (by omega)
      rwa [show lo + -1 * ((0 : Nat) : Int) = lo by omega] at this
    rw [if_neg n0, filter_no fun n hn => decide_eq_false fun c => ?_]
    · exact ⟨rfl, by simp [n0]⟩
    · have hn' := hb n hn
      have := no (lo - n).toNat (by omega)
      rw [show lo + -1 * (((lo - n).toNat : Nat) : Int) = n by omega] at this
      exact this hn
theorem step_right {ns : List Int} (p : ns.Pairwise (· < ·)) (hb : ∀ n ∈ ns, -12 ≤ n ∧ n ≤ 12) {hi : Int} (h1 : -13 ≤ hi) (h2 : hi ≤ 13) {o : Option Int} {z : Bool} (h : StepP ns hi 1 o z) : o = rightOf ns hi ∧ z = decide (hi ∈ ns) := by
  unfold rightOf
  rcases h with ⟨t, lt, rfl, ht, nt, rfl⟩ | ⟨rfl, rfl, no⟩
  · cases t with
    | zero =>
      have e : hi + 1 * ((0 : Nat) : Int) = hi := by omega
      rw [e] at ht ⊢
      rw [if_pos ht]
      exact ⟨rfl, by simp [ht]⟩
    | succ t =>
      have n0 : ¬ hi ∈ ns := by
        have := nt 0 (by omega)
        rwa [show hi + 1 * ((0 : Nat) : Int) = hi by omega] at this
      rw [if_neg n0]
      refine ⟨(head_filter p ht (decide_eq_true (by omega)) fun y hy cy => ?_).symm, by simp [n0]⟩
      have c := of_decide_eq_true cy
      rcases Int.lt_or_le y (hi + 1 * ((t + 1 : Nat) : Int)) with l | l
      · have := nt (y - hi).toNat (by omega)
        rw [show hi + 1 * (((y - hi).toNat : Nat) : Int) = y by omega] at this
        exact absurd hy this
      · exact l
  · have n0 : ¬ hi ∈ ns := by
      have := no 0 (by omega)
      rwa [show hi + 1 * ((0 : Nat) : Int) = hi by omega] at this
    rw [if_neg n0, filter_no fun n hn => decide_eq_false fun c => ?_]
    · exact ⟨rfl, by simp [n0]⟩
    · have hn' := hb n hn
      have := no (n - hi).toNat (by omega)
      rw [show hi + 1 * (((n - hi).toNat : Nat) : Int) = n by omega] at this
      exact this hn
/-- the nearest points, itself among them -/
def lessOf (ns : List Int) (lo : Int) : List Int := ns.filter fun n => decide (n ≤ lo)
def moreOf (ns : List Int) (hi : Int) : List Int := ns.filter fun n => decide (hi ≤ n)
theorem near_left {ns : List Int} (p : ns.Pairwise (· < ·)) (lo : Int) : (lessOf ns lo).getLast? = leftOf ns lo ∧ (decide (oV (lessOf ns lo).getLast? = V.int lo) && decide (lessOf ns lo ≠ [])) = decide (lo ∈ ns) := by
  unfold leftOf lessOf
  by_cases h : lo ∈ ns
  · have e := last_filter (c := fun n => decide (n ≤ lo)) p h (decide_eq_true (Int.le_refl lo)) fun y _ c => of_decide_eq_true c
    rw [if_pos h, e]
    refine ⟨rfl, ?_⟩
    have ne : ns.filter (fun n => decide (n ≤ lo)) ≠ [] := fun z => by rw [z] at e; cases e
    simp [h, oV, ne]
  · have e : (ns.filter fun n => decide (n ≤ lo)) = ns.filter fun n => decide (n < lo) := List.filter_congr fun n hn => by
      have : n ≠ lo := fun z => h (z ▸ hn)
      exact decide_eq_decide.mpr ⟨fun _ => by omega, fun _ => by omega⟩
    rw [if_neg h, e]
    refine ⟨rfl, ?_⟩
    rw [decide_eq_false h]
    cases q : (ns.filter fun n => decide (n < lo)).getLast? with
    | none => rfl
    | some z =>
      have hz := (List.mem_filter.mp (List.mem_of_getLast? q)).2
      have hz := of_decide_eq_true hz
      have : ¬ oV (some z) = V.int lo := fun e => by
        have e : V.int z = V.int lo := e
        injection e with e
        omega
      rw [decide_eq_false this]
      rfl
theorem near_right {ns : List Int} (p : ns.Pairwise (· < ·)) (hi : Int) : (moreOf ns hi).head? = rightOf ns hi ∧ (decide (oV (moreOf ns hi).head? = V.int hi) && decide (moreOf ns hi ≠ [])) = decide (hi ∈ ns) := by
  unfold rightOf moreOf
  by_cases h : hi ∈ ns
  · have e := head_filter (c := fun n => decide (hi ≤ n)) p h (decide_eq_true (Int.le_refl hi)) fun y _ c => of_decide_eq_true c
    rw [if_pos h, e]
    refine ⟨rfl, ?_⟩
    have ne : ns.filter (fun n => decide (hi ≤ n)) ≠ [] := fun z => by rw [z] at e; cases e
    simp [h, oV, ne]
  · have e : (ns.filter fun n => decide (hi ≤ n)) = ns.filter fun n => decide (hi < n) := List.filter_congr fun n hn => by
      have : n ≠ hi := fun z => h (z ▸ hn)
      exact decide_eq_decide.mpr ⟨fun _ => by omega, fun _ => by omega⟩
    rw [if_neg h, e]
    refine ⟨rfl, ?_⟩
    rw [decide_eq_false h]
    cases q : (ns.filter fun n => decide (hi < n)).head? with
    | none => rfl
    | some z =>
      have hz := (List.mem_filter.mp (List.mem_of_head? q)).2
      have hz := of_decide_eq_true hz
      have : ¬ oV (some z) = V.int hi := fun e => by
        have e : V.int z = V.int hi := e
        injection e with e
        omega
      rw [decide_eq_false this]
      rfl
/-- how many of ascending numbers are less: a halving search -/
def lessN (ns : List Int) (x : Int) : Nat := (ns.filter fun n => decide (n < x)).length
theorem lessN_at {x : Int} : ∀ {ns : List Int} {k : Nat}, ns.Pairwise (· < ·) → k ≤ ns.length → (∀ i n, i < k → ns[i]? = some n → n < x) → (∀ i n, k ≤ i → ns[i]? = some n → x ≤ n) → lessN ns x = k
  | ns, 0, _, _, _, b => by
    unfold lessN
    rw [filter_no fun n hn => decide_eq_false fun c => ?_]
    · rfl
    · obtain ⟨i, hi⟩ := List.getElem?_of_mem hn
      have := b i n (Nat.zero_le _) hi
      omega
  | [], k + 1, _, h, _, _ => by simp at h
  | n :: ns, k + 1, p, h, a, b => by
    have hn : n < x := a 0 n (by omega) rfl
    have ih := lessN_at (ns := ns) (k := k) (x := x) (List.pairwise_cons.mp p).2 (by simpa using h) (fun i m hi hm => a (i + 1) m (by omega) (by simpa using hm)) fun i m hi hm => b (i + 1) m (by omega) (by simpa using hm)
    unfold lessN at ih ⊢
    rw [List.filter_cons_of_pos (p := fun n => decide (n < x)) (decide_eq_true hn), List.length_cons, ih]
theorem less_get {x : Int} {ns : List Int} {i : Nat} {n : Int} : ns.Pairwise (· < ·) → ns[i]? = some n → (i < lessN ns x ↔ n < x) := by
  induction ns generalizing i with
  | nil => intro _ h; simp at h
  | cons m r ih =>
    intro p h
    obtain ⟨p1, p2⟩ := List.pairwise_cons.mp p
    unfold lessN at ih ⊢
    by_cases c : m < x
    · rw [List.filter_cons_of_pos (p := fun n => decide (n < x)) (decide_eq_true c), List.length_cons]
      cases i with
      | zero =>
        have : m = n := by simpa using h
        omega
      | succ i =>
        have := ih p2 (i := i) (by simpa using h)
        omega
    · rw [List.filter_cons_of_neg (p := fun n => decide (n < x)) (by rw [decide_eq_false c]; exact Bool.false_ne_true)]
      have e : r.filter (fun n => decide (n < x)) = [] := filter_no fun y hy => decide_eq_false fun z => by
        have := p1 y hy
        omega
      rw [e]
      refine ⟨fun z => by simp at z, fun z => ?_⟩
      exfalso
      cases i with
      | zero =>
        have : m = n := by simpa using h
        omega
      | succ i =>
        have hn : n ∈ r := List.mem_of_getElem? (i := i) (by simpa using h)
        have := p1 n hn
        omega
theorem lessN_le (ns : List Int) (x : Int) : lessN ns x ≤ ns.length := List.length_filter_le _ _
/-- the number stands where it would -/
theorem less_here {x : Int} {ns : List Int} (p : ns.Pairwise (· < ·)) : (match ns[lessN ns x]? with | none => false | some n => decide (n = x)) = decide (x ∈ ns) := by
  by_cases h : x ∈ ns
  · obtain ⟨i, hi⟩ := List.getElem?_of_mem h
    have lt : i < ns.length := (List.getElem?_eq_some_iff.mp hi).1
    have e : lessN ns x = i := by
      refine lessN_at p (by omega) (fun j n hj hn => ?_) fun j n hj hn => ?_
      · have lj := (List.getElem?_eq_some_iff.mp hn)
        have li := (List.getElem?_eq_some_iff.mp hi)
        have := List.pairwise_iff_getElem.mp p j i lj.1 li.1 hj
        rw [lj.2, li.2] at this
        exact this
      · have lj := (List.getElem?_eq_some_iff.mp hn)
        have li := (List.getElem?_eq_some_iff.mp hi)
        rcases Nat.lt_or_eq_of_le hj with l | l
        · have := List.pairwise_iff_getElem.mp p i j li.1 lj.1 l
          rw [lj.2, li.2] at this
          omega
        · subst l
          have : x = n := by rw [← li.2, ← lj.2]
          omega
    rw [e, hi]
    simp [h]
  · rw [decide_eq_false h]
    cases q : ns[lessN ns x]? with
    | none => rfl
    | some n =>
      exact decide_eq_false fun z => h (z ▸ List.mem_of_getElem? q)
end Gx

/-! Objects of one of several classes: methods, properties, in, defs with a promise for each class -/
namespace Gx
open PySem L2 PySem.Spec PyProof.Rows
open C8 (Cal Met Mak)
/-- a promise for each class of S -/
def spAny (S : Addr → Prop) (sp : Addr → Sp) : Sp := fun vs H Q E => ∃ C, S C ∧ sp C vs H Q E
theorem fn_any {P : Program} {w : World} {K : PySem.W.Frag} {mg : Str → Option Value} {base : Heap} {CX : CXT} {k : Nat} {f : Addr} {fd : FuncData} {ps : List Str} {S : Addr → Prop} {sp : Addr → Sp} (F : ∀ C, S C → FnOk P w K mg base CX k f fd ps (sp C)) : FnOk P w K mg base CX k f fd ps (spAny S sp) := by
  refine ⟨fun vs H Q E h => ?_, fun A outer s H args us vs Q E hr he hb hv h => ?_⟩
  · obtain ⟨C, hC, h⟩ := h
    exact (F C hC).len _ _ _ _ h
  · obtain ⟨C, hC, h⟩ := h
    exact (F C hC).run A outer s H args us vs Q E hr he hb hv h
/-- one of two classes -/
def two (CL CK : Addr) : Addr → Prop := fun C => C = CL ∨ C = CK
theorem two_all {CL CK : Addr} {P : Addr → Prop} (h1 : P CL) (h2 : P CK) : ∀ C, two CL CK C → P C := fun C h => h.elim (fun e => by rw [e]; exact h1) fun e => by rw [e]; exact h2
structure MetS (P : Program) (w : World) (K : PySem.W.Frag) (mg : Str → Option Value) (base : Heap) (k : Nat) (S : Addr → Prop) (m : Str) (sp : Sp) : Prop where
  ex : ∀ C, S C → Met P w K mg base k C m sp []
def tMethS (S : Addr → Prop) (m : Str) (sp : Sp) (ta : TE) (t : TA) : TE := fun σ H Q => ta σ H fun x H1 => ∃ a C dx fs, x = .ref a ∧ H1 a = some (.ins C dx fs) ∧ S C ∧ fs.lookup m = none ∧ t σ H1 fun vs H2 => sp (.ref a :: vs) H2 Q (fun _ _ _ => False)
section
variable {X : Cx} {k j : Nat} {S : Addr → Prop} {m f : Str} {sp : Sp} {pos apos : Pos} {e o : Expr} {es : List Expr} {ta : TE} {t : TA}
theorem pe_mtS {pl : Sem Bool} (c : MetS X.prog X.w X.K X.mg X.base k S m sp) (hr : Room j X.A) (hk : k ≤ j) (he : PE X o ta) (ha : PA X (e :: es) t)
    (hst : starEach (e :: es) X.env = (false, eval e X.env) :: starEach es X.env := by rfl) (hpl : (backTo pos (starEach es X.env)).any (·.1) = false := by rfl)
    (ht : eval (.Call (.Attribute o m apos) (e :: es) [] pos) X.env = (do
      let ov ← eval o X.env
      standAt apos.atName
      let (f, first) ← holding [ov] (getMethod ov m pl)
      callWith pos f first (backTo pos (starEach (e :: es) X.env)) (backToKw pos (keywordEach [] X.env))) := by rfl) :
    PE X (.Call (.Attribute o m apos) (e :: es) [] pos) (tMethS S m sp ta t) := by
  refine ⟨fun pins s σ H Q I h => ?_⟩
  refine PySem.W.methodCall_KW (pl := pl) (thn (he.run pins s σ H _ I h) fun u s1 ⟨x, H1, I1, rx, a, C, dx, fs, ex, ea, hC, l, q⟩ => ?_) ht
  subst ex
  obtain rfl : u = Value.ref a := rx
  obtain ⟨f, fd, ps, ds, hc, hm, F, b, d⟩ := (c.ex C hC).ex
  cases d
  refine getmeth_ok I1 ea hc hm l ?_
  refine PySem.W.callWith_K (first := [.ref a]) (h₀ := X.base) I.ok.mod.kin hm.kp (thn (ha.run pos pins s1 σ H1 _ I1 q) fun us s2 ⟨vs, H2, I2, r, q2⟩ => ⟨I2.kIn, ?_⟩) hst hpl
  exact run_fn (us := .ref a :: us) (vs := .ref a :: vs) (dvs := []) F (hr.mono hk) b .nil pass0 I2 (.cons rfl r) (by rw [List.append_nil]; exact q2)
theorem pe_mt0S {pl : Sem Bool} (c : MetS X.prog X.w X.K X.mg X.base k S m sp) (hr : Room j X.A) (hk : k ≤ j) (he : PE X o ta)
    (ht : eval (.Call (.Attribute o m apos) [] [] pos) X.env = (do
      let ov ← eval o X.env
      standAt apos.atName
      let (f, first) ← holding [ov] (getMethod ov m pl)
      callWith pos f first (backTo pos (starEach [] X.env)) (backToKw pos (keywordEach [] X.env))) := by rfl) :
    PE X (.Call (.Attribute o m apos) [] [] pos) (tMethS S m sp ta tNil) := by
  refine ⟨fun pins s σ H Q I h => ?_⟩
  refine PySem.W.methodCall_KW (pl := pl) (thn (he.run pins s σ H _ I h) fun u s1 ⟨x, H1, I1, rx, a, C, dx, fs, ex, ea, hC, l, q⟩ => ?_) ht
  subst ex
  obtain rfl : u = Value.ref a := rx
  obtain ⟨f, fd, ps, ds, hc, hm, F, b, d⟩ := (c.ex C hC).ex
  cases d
  refine getmeth_ok I1 ea hc hm l ?_
  exact PySem.W.callWith_K0 (first := [.ref a]) I1.kIn hm.kp (run_fn (us := [.ref a]) (vs := [.ref a]) (dvs := []) F (hr.mono hk) b .nil pass0 I1 (.cons rfl .nil) q)
/-- properties -/
structure PropS (P : Program) (w : World) (K : PySem.W.Frag) (mg : Str → Option Value) (base : Heap) (k : Nat) (S : Addr → Prop) (f : Str) (sp : Sp) : Prop where
  ex : ∀ C, S C → PropR P w K mg base k C f sp
def tPropS (S : Addr → Prop) (sp : Sp) (ta : TE) : TE := fun σ H Q => ta σ H fun x H1 => ∃ a C dx fs, x = .ref a ∧ H1 a = some (.ins C dx fs) ∧ S C ∧ sp [.ref a] H1 Q (fun _ _ _ => False)
theorem pe_prS (c : PropS X.prog X.w X.K X.mg X.base k S f sp) (hr : Room j X.A) (hk : k + 1 ≤ j) (he : PE X e ta) (hab : attributeBase e f X.env (eval e X.env) = eval e X.env := by rfl) : PE X (.Attribute e f pos) (tPropS S sp ta) := by
  refine ⟨fun pins s σ H Q I h => ?_⟩
  refine attr_of hab (thn (he.run pins s σ H _ I h) fun u s1 ⟨x, H1, I1, rx, a, C, dx, fs, ex, ea, hC, q⟩ => ?_)
  subst ex
  obtain rfl : u = Value.ref a := rx
  obtain ⟨p, g, fd, ps, cl, pr, F, b⟩ := (c.ex C hC).ex
  exact getprop_ok I1 ea cl pr F (hr.mono hk) b .nil pass0 q
/-- y in o -/
def rOwnS (S : Addr → Prop) (sp : Sp) (neg : Bool) : R2 := fun y x H Q => ∃ a C dx fs, x = .ref a ∧ H a = some (.ins C dx fs) ∧ S C ∧ sp [.ref a, y] H (fun r H' => ∃ b, r = .bl b ∧ Q (.bl (if neg = true then !b else b)) H') (fun _ _ _ => False)
theorem op_ownInS (c : MetS X.prog X.w X.K X.mg X.base k S "__contains__" sp) (hr : Room j X.A) (hk : k ≤ j) : OpR X (compareOp .In) (rOwnS S sp false) := fun pins s σ H y x v u Q I ry rx h => by
  obtain ⟨a, C, dx, fs, e, ha, hC, q⟩ := h
  exact op_ownIn (c.ex C hC) hr hk pins s σ H y x v u Q I ry rx ⟨a, dx, fs, e, ha, q⟩
theorem op_ownNotInS (c : MetS X.prog X.w X.K X.mg X.base k S "__contains__" sp) (hr : Room j X.A) (hk : k ≤ j) : OpR X (compareOp .NotIn) (rOwnS S sp true) := fun pins s σ H y x v u Q I ry rx h => by
  obtain ⟨a, C, dx, fs, e, ha, hC, q⟩ := h
  exact op_ownNotIn (c.ex C hC) hr hk pins s σ H y x v u Q I ry rx ⟨a, dx, fs, e, ha, q⟩
end
section
variable {σ : L2.St} {H : Hp} {Q : VK} {S : Addr → Prop} {m : Str} {sp : Sp} {ta : TE} {t : TA} {a C dx : Addr} {fs : List (Str × V)}
def MethSQ (S : Addr → Prop) (m : Str) (sp : Sp) (t : TA) (σ : L2.St) (x : V) (H : Hp) (Q : VK) : Prop := ∃ a C dx fs, x = .ref a ∧ H a = some (.ins C dx fs) ∧ S C ∧ fs.lookup m = none ∧ t σ H fun vs H2 => sp (.ref a :: vs) H2 Q (fun _ _ _ => False)
theorem g_tmethS (q : ta σ H fun x H1 => MethSQ S m sp t σ x H1 Q) : tMethS S m sp ta t σ H Q := q
theorem g_methS (h : H a = some (.ins C dx fs)) (hC : S C) (l : fs.lookup m = none) (q : t σ H fun vs H2 => sp (.ref a :: vs) H2 Q (fun _ _ _ => False)) : MethSQ S m sp t σ (.ref a) H Q := ⟨a, C, dx, fs, rfl, h, hC, l, q⟩
def PropSQ (S : Addr → Prop) (sp : Sp) (x : V) (H : Hp) (Q : VK) : Prop := ∃ a C dx fs, x = .ref a ∧ H a = some (.ins C dx fs) ∧ S C ∧ sp [.ref a] H Q (fun _ _ _ => False)
theorem g_tpropS (q : ta σ H fun x H1 => PropSQ S sp x H1 Q) : tPropS S sp ta σ H Q := q
theorem g_propS (h : H a = some (.ins C dx fs)) (hC : S C) (q : sp [.ref a] H Q (fun _ _ _ => False)) : PropSQ S sp (.ref a) H Q := ⟨a, C, dx, fs, rfl, h, hC, q⟩
theorem g_ownS {y : V} (h : H a = some (.ins C dx fs)) (hC : S C) (q : sp [.ref a, y] H (fun r H' => ∃ b, r = .bl b ∧ Q (.bl (if false = true then !b else b)) H') (fun _ _ _ => False)) : rOwnS S sp false y (.ref a) H Q := ⟨a, C, dx, fs, rfl, h, hC, q⟩
end
end Gx

namespace Gk
open PySem L2 Gx
open C8 (Cal Met Mak pe_c pe_mt pe_mt0 pe_mk pe_gc)
local macro_rules | `(tactic| walk_at "g") => `(tactic| (first
  | with_reducible refine g_seq ?_ | with_reducible refine g_asg ?_ | ((with_reducible show tVar _ _ _ _); refine g_var rfl ?_) | with_reducible refine g_c ?_ | with_reducible refine g_name ?_ | with_reducible refine g_op ?_ | with_reducible refine g_I0 ?_
  | with_reducible refine g_cons ?_ | with_reducible refine g_nil ?_ | with_reducible refine g_exbl ?_ | with_reducible refine g_exint ?_ | with_reducible refine g_test ?_ | with_reducible refine g_B ?_ | with_reducible refine g_ifS ?_ | with_reducible refine g_ret ?_ | with_reducible refine g_retN ?_ | with_reducible refine g_next ?_
  | with_reducible refine g_CB ?_ | with_reducible refine g_sub ?_ | with_reducible refine g_drop ?_ | with_reducible refine g_not ?_ | with_reducible refine g_and ?_ | with_reducible refine g_or ?_ | with_reducible refine g_andV ?_ | with_reducible refine g_orV ?_ | with_reducible refine g_notV ?_ | with_reducible refine g_ifE ?_ | with_reducible refine g_isN ?_
  | with_reducible refine g_par ?_ | with_reducible refine g_expar ?_ | with_reducible refine g_chain ?_ | with_reducible refine g_un ?_ | with_reducible refine g_U ?_ | with_reducible refine g_bits ?_ | ((with_reducible show rEq _ _ _ _); refine g_eq rfl ?_) | ((with_reducible show rNe _ _ _ _); refine g_ne rfl ?_)
  | with_reducible refine g_for ?_ | with_reducible refine g_iRng1 ?_ | with_reducible refine g_iRng2 ?_ | with_reducible refine g_iList ?_ | with_reducible refine g_iTup ?_
  | ((with_reducible refine g_Imul ?hc ?_); (case hc => (first | (refine Or.inl ⟨?_, ?_⟩ <;> first | decide | omega) | (refine Or.inr ⟨?_, ?_⟩ <;> first | decide | omega))))
  | ((with_reducible refine g_Idiv ?hc ?_); (case hc => (first | (exact ⟨by decide, by decide⟩) | assumption)))
  | ((with_reducible refine g_Imod ?hc ?_); (case hc => (first | assumption | omega | decide)))
  | ((with_reducible refine g_exR1 ?hlo ?hhi ?_); (case hlo => omega); (case hhi => omega))
  | ((with_reducible refine g_exR2 ?hb ?_); (case hb => omega))
  | with_reducible refine g_lst ?_ | with_reducible refine g_tup ?_ | with_reducible refine g_call ?_ | with_reducible refine g_BM ?_ | with_reducible refine g_BM0 ?_
  | with_reducible refine g_intB ?_ | with_reducible refine g_lc ?_ | with_reducible refine g_yes ?_ | with_reducible refine g_iZip ?_ | with_reducible refine g_sl ?_ | with_reducible refine g_noP ?_ | with_reducible refine g_part ?_ | with_reducible refine g_gcons ?_ | with_reducible refine g_gnil ?_
  | with_reducible refine g_tfld ?_ | with_reducible refine g_tmeth ?_ | with_reducible refine g_tmake ?_ | with_reducible refine g_sfld ?_ | with_reducible refine g_tprop ?_ | with_reducible refine g_tstar ?_ | with_reducible refine g_tmethK ?_ | with_reducible refine g_isN1 ?_ | with_reducible refine g_notN1 ?_))
local macro_rules | `(tactic| walk_at "gs1") => `(tactic| (first
  | with_reducible refine g_seq ?_ | with_reducible refine g_asg ?_ | ((with_reducible show tVar _ _ _ _); refine g_var rfl ?_) | with_reducible refine g_c ?_ | with_reducible refine g_name ?_ | with_reducible refine g_op ?_ | with_reducible refine g_I0 ?_
  | with_reducible refine g_cons ?_ | with_reducible refine g_nil ?_ | with_reducible refine g_exbl ?_ | with_reducible refine g_exint ?_ | with_reducible refine g_test ?_ | with_reducible refine g_B ?_ | with_reducible refine g_ifS ?_ | with_reducible refine g_retN ?_ | with_reducible refine g_next ?_
  | with_reducible refine g_CB ?_ | with_reducible refine g_sub ?_ | with_reducible refine g_drop ?_ | with_reducible refine g_not ?_ | with_reducible refine g_and ?_ | with_reducible refine g_or ?_ | with_reducible refine g_andV ?_ | with_reducible refine g_orV ?_ | with_reducible refine g_notV ?_ | with_reducible refine g_ifE ?_ | with_reducible refine g_isN ?_
  | with_reducible refine g_par ?_ | with_reducible refine g_expar ?_ | with_reducible refine g_chain ?_ | with_reducible refine g_un ?_ | with_reducible refine g_U ?_ | with_reducible refine g_bits ?_ | ((with_reducible show rEq _ _ _ _); refine g_eq rfl ?_) | ((with_reducible show rNe _ _ _ _); refine g_ne rfl ?_)
  | with_reducible refine g_for ?_ | with_reducible refine g_iRng1 ?_ | with_reducible refine g_iRng2 ?_ | with_reducible refine g_iList ?_ | with_reducible refine g_iTup ?_
  | ((with_reducible refine g_Imul ?hc ?_); (case hc => (first | (refine Or.inl ⟨?_, ?_⟩ <;> first | decide | omega) | (refine Or.inr ⟨?_, ?_⟩ <;> first | decide | omega))))
  | ((with_reducible refine g_Idiv ?hc ?_); (case hc => (first | (exact ⟨by decide, by decide⟩) | assumption)))
  | ((with_reducible refine g_Imod ?hc ?_); (case hc => (first | assumption | omega | decide)))
  | ((with_reducible refine g_exR1 ?hlo ?hhi ?_); (case hlo => omega); (case hhi => omega))
  | ((with_reducible refine g_exR2 ?hb ?_); (case hb => omega))
  | with_reducible refine g_lst ?_ | with_reducible refine g_tup ?_ | with_reducible refine g_call ?_ | with_reducible refine g_BM ?_ | with_reducible refine g_BM0 ?_
  | with_reducible refine g_intB ?_ | with_reducible refine g_lc ?_ | with_reducible refine g_yes ?_ | with_reducible refine g_iZip ?_ | with_reducible refine g_sl ?_ | with_reducible refine g_noP ?_ | with_reducible refine g_part ?_ | with_reducible refine g_gcons ?_ | with_reducible refine g_gnil ?_
  | with_reducible refine g_tfld ?_ | with_reducible refine g_tmeth ?_ | with_reducible refine g_tmake ?_ | with_reducible refine g_sfld ?_ | with_reducible refine g_tprop ?_ | with_reducible refine g_tstar ?_ | with_reducible refine g_tmethK ?_ | with_reducible refine g_isN1 ?_ | with_reducible refine g_notN1 ?_))
local macro_rules | `(tactic| walk_at "gx1") => `(tactic| (first
  | with_reducible refine g_seq ?_ | with_reducible refine g_asg ?_ | ((with_reducible show tVar _ _ _ _); refine g_var rfl ?_) | with_reducible refine g_c ?_ | with_reducible refine g_name ?_ | with_reducible refine g_op ?_ | with_reducible refine g_I0 ?_
  | with_reducible refine g_cons ?_ | with_reducible refine g_nil ?_ | with_reducible refine g_exbl ?_ | with_reducible refine g_exint ?_ | with_reducible refine g_test ?_ | with_reducible refine g_B ?_ | with_reducible refine g_ifS ?_ | with_reducible refine g_retN ?_ | with_reducible refine g_next ?_
  | with_reducible refine g_CB ?_ | with_reducible refine g_sub ?_ | with_reducible refine g_drop ?_ | with_reducible refine g_not ?_ | with_reducible refine g_and ?_ | with_reducible refine g_or ?_ | with_reducible refine g_andV ?_ | with_reducible refine g_orV ?_ | with_reducible refine g_notV ?_ | with_reducible refine g_ret ?_ | with_reducible refine g_isN ?_
  | with_reducible refine g_par ?_ | with_reducible refine g_expar ?_ | with_reducible refine g_chain ?_ | with_reducible refine g_un ?_ | with_reducible refine g_U ?_ | with_reducible refine g_bits ?_ | ((with_reducible show rEq _ _ _ _); refine g_eq rfl ?_) | ((with_reducible show rNe _ _ _ _); refine g_ne rfl ?_)
  | with_reducible refine g_for ?_ | with_reducible refine g_iRng1 ?_ | with_reducible refine g_iRng2 ?_ | with_reducible refine g_iList ?_ | with_reducible refine g_iTup ?_
  | ((with_reducible refine g_Imul ?hc ?_); (case hc => (first | (refine Or.inl ⟨?_, ?_⟩ <;> first | decide | omega) | (refine Or.inr ⟨?_, ?_⟩ <;> first | decide | omega))))
  | ((with_reducible refine g_Idiv ?hc ?_); (case hc => (first | (exact ⟨by decide, by decide⟩) | assumption)))
  | ((with_reducible refine g_Imod ?hc ?_); (case hc => (first | assumption | omega | decide)))
  | ((with_reducible refine g_exR1 ?hlo ?hhi ?_); (case hlo => omega); (case hhi => omega))
  | ((with_reducible refine g_exR2 ?hb ?_); (case hb => omega))
  | with_reducible refine g_lst ?_ | with_reducible refine g_tup ?_ | with_reducible refine g_call ?_ | with_reducible refine g_BM ?_ | with_reducible refine g_BM0 ?_
  | with_reducible refine g_intB ?_ | with_reducible refine g_lc ?_ | with_reducible refine g_yes ?_ | with_reducible refine g_iZip ?_ | with_reducible refine g_sl ?_ | with_reducible refine g_noP ?_ | with_reducible refine g_part ?_ | with_reducible refine g_gcons ?_ | with_reducible refine g_gnil ?_
  | with_reducible refine g_tfld ?_ | with_reducible refine g_tmeth ?_ | with_reducible refine g_tmake ?_ | with_reducible refine g_sfld ?_ | with_reducible refine g_tprop ?_ | with_reducible refine g_tstar ?_ | with_reducible refine g_tmethK ?_ | with_reducible refine g_isN1 ?_ | with_reducible refine g_notN1 ?_))
local macro_rules | `(tactic| walk_at "hp") => `(tactic| (first | assumption | exact upd_same | (refine same_get (by assumption) ?_; walk_at "hp")))
local macro_rules | `(tactic| walk_at "sm") => `(tactic| (first | assumption | exact Same.refl _ | (refine Same.trans ?ha (by assumption); walk_at "sm")))
local macro_rules | `(tactic| walk_at "nn") => `(tactic| (first | assumption | (refine same_free (by assumption) ?_; walk_at "nn")))
local macro_rules | `(tactic| walk_at "sb") => `(tactic| (first | decide | (refine small_bits ?_ ?_ <;> omega)))
local macro_rules | `(tactic| walk_at "ln") => `(tactic| (simp only [List.length_cons, List.length_nil]; omega))
local macro_rules | `(tactic| walk_at "gg") => `(tactic| (repeat walk_at "g"))
local macro_rules | `(tactic| walk_at "gs") => `(tactic| (repeat walk_at "gs1"))
local macro_rules | `(tactic| walk_at "gx") => `(tactic| (repeat walk_at "gx1"))

def top (i : Nat) : Stmt := PySem.Challenge.pw_gapreach_k09_reaches_by_steps.main.body.getD i (.Pass ⟨0, 0, 0, 0⟩)
section
variable {P : Program} {w : World} {K : PySem.W.Frag} {mg : Str → Option Value} {base : Heap} {X : Cx}
abbrev s_dip : Stmt := top 19
abbrev N_dip : List Str := ["_law_flow_here", "_law_many", "_law_digit", "_law_found", "_law_turn", "_law_mixed"]
theorem sc_dip : FnScope N_dip ["_law_flow_here", "_law_many"] (defScope s_dip) := ⟨rfl, rfl, rfl, by decide +kernel, rfl, by decide +kernel, by decide +kernel⟩

theorem ok_dip {f : Addr} {fd : FuncData} (D : Dn K mg "_law_dip" s_dip ["_law_flow_here", "_law_many"] f fd) (T : Bt mg) : Cal P w K mg base 1 "_law_dip" spDip [] := by
  refine cal_of D (dip_view (D.fn.ok sc_dip (fun vs H Q E h => ?_) (fun cdv A outer s H vs Q E hr h => ?_)))
  · obtain ⟨f, x, y, z, m, rfl, _⟩ := h
    rfl
  · obtain ⟨f, x, y, z, m, rfl, hf, hx, hm, hb, k⟩ := h
    refine ⟨_, (pss_cons (ps_if (pt_cmpR op_gt (pe_ix ix_list (pv 0) pe_int (fun _ _ => rfl)) pe_int (nomark _)) (pss_cons (ps_set (i := 2) sc_dip.nd rfl (Or.inl rfl) (pe_op op_mod (pe_ix ix_list (pv 0) pe_int (fun _ _ => rfl)) (pv 1)))
    (pss_cons (ps_asg (pe_op op_fdivW (pe_ix ix_list (pv 0) pe_int (fun _ _ => rfl)) (pv 1)) (pg_sub (pv 0) pe_int set_list))
    (pss_one (ps_ret (pv 2))))) pss_nil)
    (pss_cons (ps_set (i := 3) sc_dip.nd rfl (Or.inl rfl) pe_int)
    (pss_cons (ps_for PassesOwn.never rfl (pi_range1 (by rfl) T.n_range (pa_cons (pe_op op_add pe_int (pe_op op_fdivW (pe_bits (pv 1)) pe_int)) pa_nil)) (pg_name (i := 4) sc_dip.nd rfl (Or.inl rfl)) (pss_cons (ps_asg (pe_op op_add (pe_ix ix_list (pv 0) pe_int (fun _ _ => rfl)) pe_int) (pg_sub (pv 0) pe_int set_list))
    (pss_cons (ps_set (i := 5) sc_dip.nd rfl (Or.inl rfl) (pe_op op_mod (pe_op op_add (pe_ix ix_list (pv 0) pe_int (fun _ _ => rfl)) (pe_op op_mul pe_int (pe_ix ix_list (pv 0) pe_int (fun _ _ => rfl)))) pe_int))
    (pss_cons (ps_set (i := 5) sc_dip.nd rfl (Or.inl rfl) (pe_op op_mod (pe_op op_add (pe_op op_add (pe_op op_mul (pv 5) (pv 5)) (pe_op op_mul (pe_op op_mul pe_int (pe_ix ix_list (pv 0) pe_int (fun _ _ => rfl))) (pv 5))) pe_int) pe_int))
    (pss_cons (ps_set (i := 5) sc_dip.nd rfl (Or.inl rfl) (pe_op op_mod (pe_op op_add (pe_op op_add (pe_op op_pow (pv 5) pe_int) (pe_ix ix_list (pv 0) pe_int (fun _ _ => rfl))) (pe_op op_mul pe_int (pe_ix ix_list (pv 0) pe_int (fun _ _ => rfl)))) pe_int))
    (pss_one (ps_set (i := 3) sc_dip.nd rfl (Or.inl rfl) (pe_op op_add (pe_op op_mul (pv 3) (pe_op op_pow pe_int pe_int)) (pe_op op_fdivW (pv 5) pe_int)))))))))
    (pss_one (ps_ret (pe_op op_mod (pv 3) (pv 1))))))), ?_⟩
    have p1 : (0 : Int) < 2305843009213693951 := by decide
    repeat walk_at "g"
    refine g_ixL (SqL.of hf) rfl ?_
    repeat walk_at "g"
    refine g_ite (fun c => ?_) (fun c => ?_)
    · repeat walk_at "g"
      refine g_ixL (SqL.of hf) rfl ?_
      repeat walk_at "g"
      refine g_ixL (SqL.of hf) rfl ?_
      repeat walk_at "g"
      refine g_Idiv (wide_div hm hb (by decide) (by decide)) ?_
      repeat walk_at "g"
      refine g_setL hf rfl ?_
      repeat walk_at "g"
      exact k _ _ _ _ (Int.emod_nonneg _ (by omega)) (Int.emod_lt_of_pos _ hm) (Int.ediv_nonneg hx (by omega))
    · repeat walk_at "g"
      have hbits := PyProof.Rows.intBits_le hb
      repeat walk_at "g"
      refine fw_range (fun i σ H' => ∃ (fo a b c : Int) (v4 v5 : Option V), σ = [some (.ref f), some (.int m), none, some (.int fo), v4, v5] ∧ H' = upd H f (three a b c) ∧ 0 ≤ a)
        ⟨0, x, y, z, none, none, rfl, ?_, hx⟩ ?_ ?_
      · funext b
        unfold upd
        split
        · rename_i e
          rw [e, hf]
        · rfl
      · rintro i σ H' hi ⟨fo, a, b, c, v4, v5, rfl, rfl, ha⟩
        repeat (first | (refine g_mod p1 fun r hr0 hr1 => ?_) | (refine g_pow3 ⟨by decide, by decide, by omega⟩ ?_) | walk_at "g" | refine g_ixL (SqL.of upd_same) rfl ?_ | refine g_setL upd_same rfl ?_)
        exact ⟨_, _, _, _, _, _, rfl, upd_upd, ha⟩
      · rintro σ H' ⟨fo, a, b, c, v4, v5, rfl, rfl, ha⟩
        repeat walk_at "g"
        exact k _ _ _ _ (Int.emod_nonneg _ (by omega)) (Int.emod_lt_of_pos _ hm) ha
end
end Gk

namespace Gk
open PySem L2 Gx
open C8 (Cal Met Mak pe_c pe_mt pe_mt0 pe_mk pe_gc)
local macro_rules | `(tactic| walk_at "g") => `(tactic| (first
  | with_reducible refine g_seq ?_ | with_reducible refine g_asg ?_ | ((with_reducible show tVar _ _ _ _); refine g_var rfl ?_) | with_reducible refine g_c ?_ | with_reducible refine g_name ?_ | with_reducible refine g_op ?_ | with_reducible refine g_I0 ?_
  | with_reducible refine g_cons ?_ | with_reducible refine g_nil ?_ | with_reducible refine g_exbl ?_ | with_reducible refine g_exint ?_ | with_reducible refine g_test ?_ | with_reducible refine g_B ?_ | with_reducible refine g_ifS ?_ | with_reducible refine g_ret ?_ | with_reducible refine g_retN ?_ | with_reducible refine g_next ?_
  | with_reducible refine g_CB ?_ | with_reducible refine g_sub ?_ | with_reducible refine g_drop ?_ | with_reducible refine g_not ?_ | with_reducible refine g_and ?_ | with_reducible refine g_or ?_ | with_reducible refine g_andV ?_ | with_reducible refine g_orV ?_ | with_reducible refine g_notV ?_ | with_reducible refine g_ifE ?_ | with_reducible refine g_isN ?_
  | with_reducible refine g_par ?_ | with_reducible refine g_expar ?_ | with_reducible refine g_chain ?_ | with_reducible refine g_un ?_ | with_reducible refine g_U ?_ | with_reducible refine g_bits ?_ | ((with_reducible show rEq _ _ _ _); refine g_eq rfl ?_) | ((with_reducible show rNe _ _ _ _); refine g_ne rfl ?_)
  | with_reducible refine g_for ?_ | with_reducible refine g_iRng1 ?_ | with_reducible refine g_iRng2 ?_ | with_reducible refine g_iList ?_ | with_reducible refine g_iTup ?_
  | ((with_reducible refine g_Imul ?hc ?_); (case hc => (first | (refine Or.inl ⟨?_, ?_⟩ <;> first | decide | omega) | (refine Or.inr ⟨?_, ?_⟩ <;> first | decide | omega))))
  | ((with_reducible refine g_Idiv ?hc ?_); (case hc => (first | (exact ⟨by decide, by decide⟩) | assumption)))
  | ((with_reducible refine g_Imod ?hc ?_); (case hc => (first | assumption | omega | decide)))
  | ((with_reducible refine g_exR1 ?hlo ?hhi ?_); (case hlo => omega); (case hhi => omega))
  | ((with_reducible refine g_exR2 ?hb ?_); (case hb => omega))
  | with_reducible refine g_lst ?_ | with_reducible refine g_tup ?_ | with_reducible refine g_call ?_ | with_reducible refine g_BM ?_ | with_reducible refine g_BM0 ?_
  | with_reducible refine g_intB ?_ | with_reducible refine g_lc ?_ | with_reducible refine g_yes ?_ | with_reducible refine g_iZip ?_ | with_reducible refine g_sl ?_ | with_reducible refine g_noP ?_ | with_reducible refine g_part ?_ | with_reducible refine g_gcons ?_ | with_reducible refine g_gnil ?_
  | with_reducible refine g_tfld ?_ | with_reducible refine g_tmeth ?_ | with_reducible refine g_tmake ?_ | with_reducible refine g_sfld ?_ | with_reducible refine g_tprop ?_ | with_reducible refine g_tstar ?_ | with_reducible refine g_tmethK ?_ | with_reducible refine g_isN1 ?_ | with_reducible refine g_notN1 ?_))
local macro_rules | `(tactic| walk_at "gs1") => `(tactic| (first
  | with_reducible refine g_seq ?_ | with_reducible refine g_asg ?_ | ((with_reducible show tVar _ _ _ _); refine g_var rfl ?_) | with_reducible refine g_c ?_ | with_reducible refine g_name ?_ | with_reducible refine g_op ?_ | with_reducible refine g_I0 ?_
  | with_reducible refine g_cons ?_ | with_reducible refine g_nil ?_ | with_reducible refine g_exbl ?_ | with_reducible refine g_exint ?_ | with_reducible refine g_test ?_ | with_reducible refine g_B ?_ | with_reducible refine g_ifS ?_ | with_reducible refine g_retN ?_ | with_reducible refine g_next ?_
  | with_reducible refine g_CB ?_ | with_reducible refine g_sub ?_ | with_reducible refine g_drop ?_ | with_reducible refine g_not ?_ | with_reducible refine g_and ?_ | with_reducible refine g_or ?_ | with_reducible refine g_andV ?_ | with_reducible refine g_orV ?_ | with_reducible refine g_notV ?_ | with_reducible refine g_ifE ?_ | with_reducible refine g_isN ?_
  | with_reducible refine g_par ?_ | with_reducible refine g_expar ?_ | with_reducible refine g_chain ?_ | with_reducible refine g_un ?_ | with_reducible refine g_U ?_ | with_reducible refine g_bits ?_ | ((with_reducible show rEq _ _ _ _); refine g_eq rfl ?_) | ((with_reducible show rNe _ _ _ _); refine g_ne rfl ?_)
  | with_reducible refine g_for ?_ | with_reducible refine g_iRng1 ?_ | with_reducible refine g_iRng2 ?_ | with_reducible refine g_iList ?_ | with_reducible refine g_iTup ?_
  | ((with_reducible refine g_Imul ?hc ?_); (case hc => (first | (refine Or.inl ⟨?_, ?_⟩ <;> first | decide | omega) | (refine Or.inr ⟨?_, ?_⟩ <;> first | decide | omega))))
  | ((with_reducible refine g_Idiv ?hc ?_); (case hc => (first | (exact ⟨by decide, by decide⟩) | assumption)))
  | ((with_reducible refine g_Imod ?hc ?_); (case hc => (first | assumption | omega | decide)))
  | ((with_reducible refine g_exR1 ?hlo ?hhi ?_); (case hlo => omega); (case hhi => omega))
  | ((with_reducible refine g_exR2 ?hb ?_); (case hb => omega))
  | with_reducible refine g_lst ?_ | with_reducible refine g_tup ?_ | with_reducible refine g_call ?_ | with_reducible refine g_BM ?_ | with_reducible refine g_BM0 ?_
  | with_reducible refine g_intB ?_ | with_reducible refine g_lc ?_ | with_reducible refine g_yes ?_ | with_reducible refine g_iZip ?_ | with_reducible refine g_sl ?_ | with_reducible refine g_noP ?_ | with_reducible refine g_part ?_ | with_reducible refine g_gcons ?_ | with_reducible refine g_gnil ?_
  | with_reducible refine g_tfld ?_ | with_reducible refine g_tmeth ?_ | with_reducible refine g_tmake ?_ | with_reducible refine g_sfld ?_ | with_reducible refine g_tprop ?_ | with_reducible refine g_tstar ?_ | with_reducible refine g_tmethK ?_ | with_reducible refine g_isN1 ?_ | with_reducible refine g_notN1 ?_))
local macro_rules | `(tactic| walk_at "gx1") => `(tactic| (first
  | with_reducible refine g_seq ?_ | with_reducible refine g_asg ?_ | ((with_reducible show tVar _ _ _ _); refine g_var rfl ?_) | with_reducible refine g_c ?_ | with_reducible refine g_name ?_ | with_reducible refine g_op ?_ | with_reducible refine g_I0 ?_
  | with_reducible refine g_cons ?_ | with_reducible refine g_nil ?_ | with_reducible refine g_exbl ?_ | with_reducible refine g_exint ?_ | with_reducible refine g_test ?_ | with_reducible refine g_B ?_ | with_reducible refine g_ifS ?_ | with_reducible refine g_retN ?_ | with_reducible refine g_next ?_
  | with_reducible refine g_CB ?_ | with_reducible refine g_sub ?_ | with_reducible refine g_drop ?_ | with_reducible refine g_not ?_ | with_reducible refine g_and ?_ | with_reducible refine g_or ?_ | with_reducible refine g_andV ?_ | with_reducible refine g_orV ?_ | with_reducible refine g_notV ?_ | with_reducible refine g_ret ?_ | with_reducible refine g_isN ?_
  | with_reducible refine g_par ?_ | with_reducible refine g_expar ?_ | with_reducible refine g_chain ?_ | with_reducible refine g_un ?_ | with_reducible refine g_U ?_ | with_reducible refine g_bits ?_ | ((with_reducible show rEq _ _ _ _); refine g_eq rfl ?_) | ((with_reducible show rNe _ _ _ _); refine g_ne rfl ?_)
  | with_reducible refine g_for ?_ | with_reducible refine g_iRng1 ?_ | with_reducible refine g_iRng2 ?_ | with_reducible refine g_iList ?_ | with_reducible refine g_iTup ?_
  | ((with_reducible refine g_Imul ?hc ?_); (case hc => (first | (refine Or.inl ⟨?_, ?_⟩ <;> first | decide | omega) | (refine Or.inr ⟨?_, ?_⟩ <;> first | decide | omega))))
  | ((with_reducible refine g_Idiv ?hc ?_); (case hc => (first | (exact ⟨by decide, by decide⟩) | assumption)))
  | ((with_reducible refine g_Imod ?hc ?_); (case hc => (first | assumption | omega | decide)))
  | ((with_reducible refine g_exR1 ?hlo ?hhi ?_); (case hlo => omega); (case hhi => omega))
  | ((with_reducible refine g_exR2 ?hb ?_); (case hb => omega))
  | with_reducible refine g_lst ?_ | with_reducible refine g_tup ?_ | with_reducible refine g_call ?_ | with_reducible refine g_BM ?_ | with_reducible refine g_BM0 ?_
  | with_reducible refine g_intB ?_ | with_reducible refine g_lc ?_ | with_reducible refine g_yes ?_ | with_reducible refine g_iZip ?_ | with_reducible refine g_sl ?_ | with_reducible refine g_noP ?_ | with_reducible refine g_part ?_ | with_reducible refine g_gcons ?_ | with_reducible refine g_gnil ?_
  | with_reducible refine g_tfld ?_ | with_reducible refine g_tmeth ?_ | with_reducible refine g_tmake ?_ | with_reducible refine g_sfld ?_ | with_reducible refine g_tprop ?_ | with_reducible refine g_tstar ?_ | with_reducible refine g_tmethK ?_ | with_reducible refine g_isN1 ?_ | with_reducible refine g_notN1 ?_))
local macro_rules | `(tactic| walk_at "hp") => `(tactic| (first | assumption | exact upd_same | (refine same_get (by assumption) ?_; walk_at "hp")))
local macro_rules | `(tactic| walk_at "sm") => `(tactic| (first | assumption | exact Same.refl _ | (refine Same.trans ?ha (by assumption); walk_at "sm")))
local macro_rules | `(tactic| walk_at "nn") => `(tactic| (first | assumption | (refine same_free (by assumption) ?_; walk_at "nn")))
local macro_rules | `(tactic| walk_at "sb") => `(tactic| (first | decide | (refine small_bits ?_ ?_ <;> omega)))
local macro_rules | `(tactic| walk_at "ln") => `(tactic| (simp only [List.length_cons, List.length_nil]; omega))
local macro_rules | `(tactic| walk_at "gg") => `(tactic| (repeat walk_at "g"))
local macro_rules | `(tactic| walk_at "gs") => `(tactic| (repeat walk_at "gs1"))
local macro_rules | `(tactic| walk_at "gx") => `(tactic| (repeat walk_at "gx1"))

section
variable {P : Program} {w : World} {K : PySem.W.Frag} {mg : Str → Option Value} {base : Heap} {X : Cx}
abbrev s_is_whole_number : Stmt := top 13
abbrev N_is_whole_number : List Str := ["thing"]
theorem sc_is_whole_number : FnScope N_is_whole_number ["thing"] (defScope s_is_whole_number) := ⟨rfl, rfl, rfl, by decide +kernel, rfl, by decide +kernel, by decide +kernel⟩

theorem ok_whole {f : Addr} {fd : FuncData} (D : Dn K mg "is_whole_number" s_is_whole_number ["thing"] f fd) (T : Bt mg) : Cal P w K mg base 1 "is_whole_number" (spWhole K) [] := by
  refine cal_of D (D.fn.ok sc_is_whole_number (fun vs H Q E h => ?_) (fun cdv A outer s H vs Q E hr h => ?_))
  · obtain ⟨x, b, rfl, _⟩ := h
    rfl
  · obtain ⟨x, b, rfl, hv, k⟩ := h
    refine ⟨_, (pss_one (ps_ret (pe_and (pe_callB call_isi (by rfl) T.n_isinstance bt_isinstance (pa_cons (pv 0) (pa_cons (pe_bltn (v := .ty "int") (by rfl) T.n_int bt_int rfl) pa_nil))) (pe_one (pe_not (pe_callB call_isi (by rfl) T.n_isinstance bt_isinstance (pa_cons (pv 0) (pa_cons (pe_bltn (v := .ty "bool") (by rfl) T.n_bool bt_bool rfl) pa_nil)))))))), ?_⟩
    walk_at "gg"
    cases hv with
    | int i =>
      refine g_isi (.ty "int") (.base (.int i)) (b := true) (kit_ty (by decide +kernel)) ?_
      walk_at "gg"
      refine g_ifT rfl ?_
      walk_at "gg"
      refine g_isi (.ty "bool") (.base (.int i)) (b := false) (kit_ty (by decide +kernel)) ?_
      walk_at "gg"
      exact k
    | bl c =>
      refine g_isi (.ty "int") (.base (.bl c)) (b := true) (kit_ty (by decide +kernel)) ?_
      walk_at "gg"
      refine g_ifT rfl ?_
      walk_at "gg"
      refine g_isi (.ty "bool") (.base (.bl c)) (b := true) (kit_ty (by decide +kernel)) ?_
      walk_at "gg"
      exact k
    | other ty no =>
      refine g_isi (.ty "int") ty no ?_
      walk_at "gg"
      refine g_ifF rfl ?_
      exact k
abbrev s_Line_is_point : Stmt := inClass (top 15) 3
abbrev N_Line_is_point : List Str := ["self", "thing"]
theorem sc_Line_is_point : FnScope N_Line_is_point ["self", "thing"] (defScope s_Line_is_point) := ⟨rfl, rfl, rfl, by decide +kernel, rfl, by decide +kernel, by decide +kernel⟩

theorem ok_point {f : Addr} {fd : FuncData} (F : Fun K "is_point" "Line.is_point" s_Line_is_point f fd) (c_is_whole_number : Cal P w K mg base 1 "is_whole_number" (spWhole K) []) : FnOk P w K mg base L2.CX0 2 f fd ["self", "thing"] (spPoint K) := by
  refine F.ok sc_Line_is_point (fun vs H Q E h => ?_) (fun cdv A outer s H vs Q E hr h => ?_)
  · obtain ⟨p, x, b, rfl, _⟩ := h
    rfl
  · obtain ⟨p, x, b, rfl, hv, k⟩ := h
    refine ⟨_, (pss_one (ps_ret (pe_c c_is_whole_number hr (by decide) (by rfl) (pa_cons (pv 1) pa_nil)))), ?_⟩
    walk_at "gg"
    exact ⟨x, b, rfl, hv, k⟩
abbrev s_Line_points : Stmt := inClass (top 15) 2
abbrev N_Line_points : List Str := ["self"]
theorem sc_Line_points : FnScope N_Line_points ["self"] (defScope s_Line_points) := ⟨rfl, rfl, rfl, by decide +kernel, rfl, by decide +kernel, by decide +kernel⟩

theorem ok_points {f : Addr} {fd : FuncData} {C : Addr} (F : Fun K "points" "Line.points" s_Line_points f fd) (L : LineC K C) (T : Bt mg) : FnOk P w K mg base L2.CX0 1 f fd ["self"] (spPoints K C) := by
  refine F.ok sc_Line_points (fun vs H Q E h => ?_) (fun cdv A outer s H vs Q E hr h => ?_)
  · obtain ⟨p, xs, rfl, _⟩ := h
    rfl
  · obtain ⟨p, xs, rfl, ⟨dx, q, h1, h2⟩, k⟩ := h
    refine ⟨_, (pss_one (ps_ret (pe_callTy cr_listQ (by rfl) T.n_list bt_list (pa_cons (pe_fld (pv 0) rfl) pa_nil)))), ?_⟩
    walk_at "gg"
    refine g_fld h1 L.cl L.own (lf_own q) ?_
    walk_at "gg"
    refine g_listof (SqL.of h2) fun l H' n S e => ?_
    exact k l H' n S e
abbrev s_Line_init : Stmt := inClass (top 15) 1
abbrev N_Line_init : List Str := ["self", "points", "one", "other"]
theorem sc_Line_init : FnScope N_Line_init ["self", "points"] (defScope s_Line_init) := ⟨rfl, rfl, rfl, by decide +kernel, rfl, by decide +kernel, by decide +kernel⟩

theorem ok_initI {f : Addr} {fd : FuncData} {C CF : Addr} (F : Fun K "__init__" "Line.__init__" s_Line_init f fd) (L : LineC K C) (T : Bt mg) (d_is_point : Met P w K mg base 2 C "is_point" (spPoint K) [])
    (g_Found : ∃ u, mg "Found" = some u ∧ RelV (.ref CF) u) (g_MOST_POINTS : ∃ u, mg "MOST_POINTS" = some u ∧ RelV (.int 500) u) (noF : PySem.W.kitOne K (.type "list") (.ref CF) = some false) : FnOk P w K mg base L2.CX0 3 f fd ["self", "points"] (spInitI K C) := by
  refine F.ok sc_Line_init (fun vs H Q E h => ?_) (fun cdv A outer s H vs Q E hr h => ?_)
  · obtain ⟨p, a, dx, ns, rfl, _⟩ := h
    rfl
  · obtain ⟨p, a, dx, ns, rfl, hp, ha, hl, rise, k⟩ := h
    refine ⟨_, (pss_one (ps_if (pt_val (pe_callB call_isi (by rfl) T.n_isinstance bt_isinstance (pa_cons (pv 1) (pa_cons (pe_gc (by rfl) g_Found) pa_nil)))) (pss_one (ps_fld (pv 0) (pe_fld (pv 1) rfl) rfl)) (pss_cons (ps_if (PW.pt (pw_or (pt_not (pt_val (pe_callB call_isi (by rfl) T.n_isinstance bt_isinstance (pa_cons (pv 1) (pa_cons (pe_bltn (v := .ty "list") (by rfl) T.n_list bt_list rfl) pa_nil))))) (pw_or1 (pt_cmpR op_gt (pe_callB cr_lenQ (by rfl) T.n_len bt_len (pa_cons (pv 1) pa_nil)) (pe_gc (by rfl) g_MOST_POINTS) (nomark _))))) (pss_one ps_never) pss_nil)
    (pss_cons (ps_if (pt_not (pt_val (pe_callB (cr_all rfl) (by rfl) T.n_all bt_all (pa_cons (pe_lc (own := [("one", 2)]) (g := gName 2) (tt := tYes) rfl sc_Line_init.nd (pi_list (pv 1)) (blkOk_by (own := [("one", 2)]) (N := N_Line_init) (sc := defScope s_Line_init) (by decide +kernel)) (fun _ _ _ _ _ => pg_name (i := 2) sc_Line_init.nd rfl (Or.inl rfl)) (fun _ _ _ _ _ => pts_nil) (fun _ _ _ _ _ => (pe_mt d_is_point hr (by decide) (pv 0) (pa_cons (pv 2) pa_nil)))) pa_nil)))) (pss_one ps_never) pss_nil)
    (pss_cons (ps_if (pt_not (pt_val (pe_callB (cr_all rfl) (by rfl) T.n_all bt_all (pa_cons (pe_lc (own := [("one", 2), ("other", 3)]) (g := gTup K 2 (gCons (gName 2) (gCons (gName 3) gNil))) (tt := tYes) rfl sc_Line_init.nd (pi_zip (by rfl) T.n_zip (pa_cons (pv 1) (pa_cons (pe_slice sl_list (pv 1) (po_some pe_int) po_none) pa_nil))) (blkOk_by (own := [("one", 2), ("other", 3)]) (N := N_Line_init) (sc := defScope s_Line_init) (by decide +kernel)) (fun _ _ _ _ _ => (pg_tup (by rfl) (pgs_cons (pg_name (i := 2) sc_Line_init.nd rfl (Or.inl rfl)) (pgs_cons (pg_name (i := 3) sc_Line_init.nd rfl (Or.inl rfl)) pgs_nil)))) (fun _ _ _ _ _ => pts_nil) (fun _ _ _ _ _ => (pe_cmpR op_lt (pv 2) (pv 3) (nomark _)))) pa_nil)))) (pss_one ps_never) pss_nil)
    (pss_one (ps_fld (pv 0) (pe_callTy cr_listQ (by rfl) T.n_list bt_list (pa_cons (pv 1) pa_nil)) rfl))))))), ?_⟩
    walk_at "gg"
    refine g_isi (.own CF) (.base (.lst ha)) noF ?_
    walk_at "gg"
    refine g_ifF rfl ?_
    walk_at "gg"
    refine g_isi (.ty "list") (.base (.lst ha)) (b := true) (kit_ty (by decide +kernel)) ?_
    walk_at "gg"
    refine g_ifF rfl ?_
    walk_at "gg"
    refine g_len (SqL.of ha) ?_
    rw [List.length_map]
    walk_at "gg"
    refine g_ifF (decide_eq_false (by omega)) ?_
    walk_at "gg"
    refine g_exL (SqL.of ha) ?_
    refine lc_map (src_list (SqL.of ha)) (by rw [List.length_map]; omega) (fun _ y => y = V.bl true) (fun i x H' Nx hi S it kx => ?_) fun D1 acc H1 n1 S1 e1 hl1 hacc => ?_
    · obtain ⟨n, hn, rfl⟩ := ints_at it
      walk_at "gg"
      refine ⟨rfl, ?_⟩
      walk_at "gg"
      refine g_meth (S _ _ hp) rfl ?_
      walk_at "gg"
      exact ⟨p, _, true, rfl, .int n, kx _ _ (Same.refl _) rfl⟩
    rw [trues hacc] at e1
    walk_at "gg"
    refine g_all (SqL.of e1) ?_
    rw [all_trues]
    walk_at "gg"
    refine g_ifF rfl ?_
    walk_at "gg"
    refine g_slL (SqL.of (S1 _ _ ha)) fun q2 H2 n2 S2 e2 => ?_
    rw [cut_one, ← List.map_drop] at e2
    have S02 := S1.trans S2
    walk_at "gg"
    refine g_exZ (SqL.of (S02 _ _ ha)) (SqL.of e2) ?_
    refine lc_map (src_zip (SqL.of (S02 _ _ ha)) (SqL.of e2)) (by rw [List.length_map]; omega) (fun _ y => y = V.bl true) (fun i x H' Nx hi S it kx => ?_) fun D3 acc3 H3 n3 S3 e3 hl3 hacc3 => ?_
    · obtain ⟨T, v1, v2, rfl, hT, x1, x2⟩ := it
      obtain ⟨m1, hm1, rfl⟩ := ints_at x1
      obtain ⟨m2, hm2, rfl⟩ := ints_at x2
      refine g_gtup (SqT.of hT) rfl ?_
      walk_at "gg"
      refine ⟨rfl, ?_⟩
      walk_at "gg"
      exact kx _ _ (Same.refl _) (congrArg V.bl (decide_eq_true (rising_zip rise hm1 hm2)))
    rw [trues hacc3] at e3
    walk_at "gg"
    refine g_all (SqL.of e3) ?_
    rw [all_trues]
    walk_at "gg"
    refine g_ifF rfl ?_
    have S03 := S02.trans S3
    walk_at "gg"
    refine g_listof (SqL.of (S03 _ _ ha)) fun l H4 n4 S4 e4 => ?_
    have S04 := S03.trans S4
    have hp4 := S04 _ _ hp
    walk_at "gg"
    refine g_store hp4 L.cl L.own (by decide) ?_
    have npl : l ≠ p := ne_of e4 hp4 (by intro z; cases z)
    refine k _ ⟨dx, l, upd_same, by rw [upd_ne npl]; exact e4⟩ (but_same S04)
end
end Gk

namespace Gk
open PySem L2 Gx
open C8 (Cal Met Mak pe_c pe_mt pe_mt0 pe_mk pe_gc)
local macro_rules | `(tactic| walk_at "g") => `(tactic| (first
  | with_reducible refine g_seq ?_ | with_reducible refine g_asg ?_ | ((with_reducible show tVar _ _ _ _); refine g_var rfl ?_) | with_reducible refine g_c ?_ | with_reducible refine g_name ?_ | with_reducible refine g_op ?_ | with_reducible refine g_I0 ?_
  | with_reducible refine g_cons ?_ | with_reducible refine g_nil ?_ | with_reducible refine g_exbl ?_ | with_reducible refine g_exint ?_ | with_reducible refine g_test ?_ | with_reducible refine g_B ?_ | with_reducible refine g_ifS ?_ | with_reducible refine g_ret ?_ | with_reducible refine g_retN ?_ | with_reducible refine g_next ?_
  | with_reducible refine g_CB ?_ | with_reducible refine g_sub ?_ | with_reducible refine g_drop ?_ | with_reducible refine g_not ?_ | with_reducible refine g_and ?_ | with_reducible refine g_or ?_ | with_reducible refine g_andV ?_ | with_reducible refine g_orV ?_ | with_reducible refine g_notV ?_ | with_reducible refine g_ifE ?_ | with_reducible refine g_isN ?_
  | with_reducible refine g_par ?_ | with_reducible refine g_expar ?_ | with_reducible refine g_chain ?_ | with_reducible refine g_un ?_ | with_reducible refine g_U ?_ | with_reducible refine g_bits ?_ | ((with_reducible show rEq _ _ _ _); refine g_eq rfl ?_) | ((with_reducible show rNe _ _ _ _); refine g_ne rfl ?_)
  | with_reducible refine g_for ?_ | with_reducible refine g_iRng1 ?_ | with_reducible refine g_iRng2 ?_ | with_reducible refine g_iList ?_ | with_reducible refine g_iTup ?_
  | ((with_reducible refine g_Imul ?hc ?_); (case hc => (first | (refine Or.inl ⟨?_, ?_⟩ <;> first | decide | omega) | (refine Or.inr ⟨?_, ?_⟩ <;> first | decide | omega))))
  | ((with_reducible refine g_Idiv ?hc ?_); (case hc => (first | (exact ⟨by decide, by decide⟩) | assumption)))
  | ((with_reducible refine g_Imod ?hc ?_); (case hc => (first | assumption | omega | decide)))
  | ((with_reducible refine g_exR1 ?hlo ?hhi ?_); (case hlo => omega); (case hhi => omega))
  | ((with_reducible refine g_exR2 ?hb ?_); (case hb => omega))
  | with_reducible refine g_lst ?_ | with_reducible refine g_tup ?_ | with_reducible refine g_call ?_ | with_reducible refine g_BM ?_ | with_reducible refine g_BM0 ?_
  | with_reducible refine g_intB ?_ | with_reducible refine g_lc ?_ | with_reducible refine g_yes ?_ | with_reducible refine g_iZip ?_ | with_reducible refine g_sl ?_ | with_reducible refine g_noP ?_ | with_reducible refine g_part ?_ | with_reducible refine g_gcons ?_ | with_reducible refine g_gnil ?_
  | with_reducible refine g_tfld ?_ | with_reducible refine g_tmeth ?_ | with_reducible refine g_tmake ?_ | with_reducible refine g_sfld ?_ | with_reducible refine g_tprop ?_ | with_reducible refine g_tstar ?_ | with_reducible refine g_tmethK ?_ | with_reducible refine g_isN1 ?_ | with_reducible refine g_notN1 ?_))
local macro_rules | `(tactic| walk_at "gs1") => `(tactic| (first
  | with_reducible refine g_seq ?_ | with_reducible refine g_asg ?_ | ((with_reducible show tVar _ _ _ _); refine g_var rfl ?_) | with_reducible refine g_c ?_ | with_reducible refine g_name ?_ | with_reducible refine g_op ?_ | with_reducible refine g_I0 ?_
  | with_reducible refine g_cons ?_ | with_reducible refine g_nil ?_ | with_reducible refine g_exbl ?_ | with_reducible refine g_exint ?_ | with_reducible refine g_test ?_ | with_reducible refine g_B ?_ | with_reducible refine g_ifS ?_ | with_reducible refine g_retN ?_ | with_reducible refine g_next ?_
  | with_reducible refine g_CB ?_ | with_reducible refine g_sub ?_ | with_reducible refine g_drop ?_ | with_reducible refine g_not ?_ | with_reducible refine g_and ?_ | with_reducible refine g_or ?_ | with_reducible refine g_andV ?_ | with_reducible refine g_orV ?_ | with_reducible refine g_notV ?_ | with_reducible refine g_ifE ?_ | with_reducible refine g_isN ?_
  | with_reducible refine g_par ?_ | with_reducible refine g_expar ?_ | with_reducible refine g_chain ?_ | with_reducible refine g_un ?_ | with_reducible refine g_U ?_ | with_reducible refine g_bits ?_ | ((with_reducible show rEq _ _ _ _); refine g_eq rfl ?_) | ((with_reducible show rNe _ _ _ _); refine g_ne rfl ?_)
  | with_reducible refine g_for ?_ | with_reducible refine g_iRng1 ?_ | with_reducible refine g_iRng2 ?_ | with_reducible refine g_iList ?_ | with_reducible refine g_iTup ?_
  | ((with_reducible refine g_Imul ?hc ?_); (case hc => (first | (refine Or.inl ⟨?_, ?_⟩ <;> first | decide | omega) | (refine Or.inr ⟨?_, ?_⟩ <;> first | decide | omega))))
  | ((with_reducible refine g_Idiv ?hc ?_); (case hc => (first | (exact ⟨by decide, by decide⟩) | assumption)))
  | ((with_reducible refine g_Imod ?hc ?_); (case hc => (first | assumption | omega | decide)))
  | ((with_reducible refine g_exR1 ?hlo ?hhi ?_); (case hlo => omega); (case hhi => omega))
  | ((with_reducible refine g_exR2 ?hb ?_); (case hb => omega))
  | with_reducible refine g_lst ?_ | with_reducible refine g_tup ?_ | with_reducible refine g_call ?_ | with_reducible refine g_BM ?_ | with_reducible refine g_BM0 ?_
  | with_reducible refine g_intB ?_ | with_reducible refine g_lc ?_ | with_reducible refine g_yes ?_ | with_reducible refine g_iZip ?_ | with_reducible refine g_sl ?_ | with_reducible refine g_noP ?_ | with_reducible refine g_part ?_ | with_reducible refine g_gcons ?_ | with_reducible refine g_gnil ?_
  | with_reducible refine g_tfld ?_ | with_reducible refine g_tmeth ?_ | with_reducible refine g_tmake ?_ | with_reducible refine g_sfld ?_ | with_reducible refine g_tprop ?_ | with_reducible refine g_tstar ?_ | with_reducible refine g_tmethK ?_ | with_reducible refine g_isN1 ?_ | with_reducible refine g_notN1 ?_))
local macro_rules | `(tactic| walk_at "gx1") => `(tactic| (first
  | with_reducible refine g_seq ?_ | with_reducible refine g_asg ?_ | ((with_reducible show tVar _ _ _ _); refine g_var rfl ?_) | with_reducible refine g_c ?_ | with_reducible refine g_name ?_ | with_reducible refine g_op ?_ | with_reducible refine g_I0 ?_
  | with_reducible refine g_cons ?_ | with_reducible refine g_nil ?_ | with_reducible refine g_exbl ?_ | with_reducible refine g_exint ?_ | with_reducible refine g_test ?_ | with_reducible refine g_B ?_ | with_reducible refine g_ifS ?_ | with_reducible refine g_retN ?_ | with_reducible refine g_next ?_
  | with_reducible refine g_CB ?_ | with_reducible refine g_sub ?_ | with_reducible refine g_drop ?_ | with_reducible refine g_not ?_ | with_reducible refine g_and ?_ | with_reducible refine g_or ?_ | with_reducible refine g_andV ?_ | with_reducible refine g_orV ?_ | with_reducible refine g_notV ?_ | with_reducible refine g_ret ?_ | with_reducible refine g_isN ?_
  | with_reducible refine g_par ?_ | with_reducible refine g_expar ?_ | with_reducible refine g_chain ?_ | with_reducible refine g_un ?_ | with_reducible refine g_U ?_ | with_reducible refine g_bits ?_ | ((with_reducible show rEq _ _ _ _); refine g_eq rfl ?_) | ((with_reducible show rNe _ _ _ _); refine g_ne rfl ?_)
  | with_reducible refine g_for ?_ | with_reducible refine g_iRng1 ?_ | with_reducible refine g_iRng2 ?_ | with_reducible refine g_iList ?_ | with_reducible refine g_iTup ?_
  | ((with_reducible refine g_Imul ?hc ?_); (case hc => (first | (refine Or.inl ⟨?_, ?_⟩ <;> first | decide | omega) | (refine Or.inr ⟨?_, ?_⟩ <;> first | decide | omega))))
  | ((with_reducible refine g_Idiv ?hc ?_); (case hc => (first | (exact ⟨by decide, by decide⟩) | assumption)))
  | ((with_reducible refine g_Imod ?hc ?_); (case hc => (first | assumption | omega | decide)))
  | ((with_reducible refine g_exR1 ?hlo ?hhi ?_); (case hlo => omega); (case hhi => omega))
  | ((with_reducible refine g_exR2 ?hb ?_); (case hb => omega))
  | with_reducible refine g_lst ?_ | with_reducible refine g_tup ?_ | with_reducible refine g_call ?_ | with_reducible refine g_BM ?_ | with_reducible refine g_BM0 ?_
  | with_reducible refine g_intB ?_ | with_reducible refine g_lc ?_ | with_reducible refine g_yes ?_ | with_reducible refine g_iZip ?_ | with_reducible refine g_sl ?_ | with_reducible refine g_noP ?_ | with_reducible refine g_part ?_ | with_reducible refine g_gcons ?_ | with_reducible refine g_gnil ?_
  | with_reducible refine g_tfld ?_ | with_reducible refine g_tmeth ?_ | with_reducible refine g_tmake ?_ | with_reducible refine g_sfld ?_ | with_reducible refine g_tprop ?_ | with_reducible refine g_tstar ?_ | with_reducible refine g_tmethK ?_ | with_reducible refine g_isN1 ?_ | with_reducible refine g_notN1 ?_))
local macro_rules | `(tactic| walk_at "hp") => `(tactic| (first | assumption | exact upd_same | (refine same_get (by assumption) ?_; walk_at "hp")))
local macro_rules | `(tactic| walk_at "sm") => `(tactic| (first | assumption | exact Same.refl _ | (refine Same.trans ?ha (by assumption); walk_at "sm")))
local macro_rules | `(tactic| walk_at "nn") => `(tactic| (first | assumption | (refine same_free (by assumption) ?_; walk_at "nn")))
local macro_rules | `(tactic| walk_at "sb") => `(tactic| (first | decide | (refine small_bits ?_ ?_ <;> omega)))
local macro_rules | `(tactic| walk_at "ln") => `(tactic| (simp only [List.length_cons, List.length_nil]; omega))
local macro_rules | `(tactic| walk_at "gg") => `(tactic| (repeat walk_at "g"))
local macro_rules | `(tactic| walk_at "gs") => `(tactic| (repeat walk_at "gs1"))
local macro_rules | `(tactic| walk_at "gx") => `(tactic| (repeat walk_at "gx1"))

section
variable {P : Program} {w : World} {K : PySem.W.Frag} {mg : Str → Option Value} {base : Heap} {X : Cx}
def spNeed (C : Addr) : Sp := fun vs H Q _ => ∃ (p dx q : Addr) (x : Int), vs = [.ref p, .int x] ∧ H p = some (.ins C dx (lf q)) ∧ Q .non H
def spCount (C : Addr) : Sp := fun vs H Q _ => ∃ (p : Addr) (x : Int) (ns : List Int), vs = [.ref p, .int x] ∧ LineAt C H p (ns.map V.int) ∧ ns.Pairwise (· < ·) ∧ Q (.int (lessN ns x : Nat)) H
def spHas (C : Addr) : Sp := fun vs H Q _ => ∃ (p : Addr) (x : Int) (ns : List Int), vs = [.ref p, .int x] ∧ LineAt C H p (ns.map V.int) ∧ ns.Pairwise (· < ·) ∧ Q (.bl (decide (x ∈ ns))) H
abbrev s_Line_count_less : Stmt := inClass (top 15) 8
abbrev N_Line_count_less : List Str := ["self", "point", "low", "high", "middle"]
theorem sc_Line_count_less : FnScope N_Line_count_less ["self", "point"] (defScope s_Line_count_less) := ⟨rfl, rfl, rfl, by decide +kernel, rfl, by decide +kernel, by decide +kernel⟩

theorem ok_count {f : Addr} {fd : FuncData} {C : Addr} (F : Fun K "count_less" "Line.count_less" s_Line_count_less f fd) (L : LineC K C) (T : Bt mg) : FnOk P w K mg base CX0 1 f fd ["self", "point"] (spCount C) := by
  refine F.ok sc_Line_count_less (fun vs H Q E h => ?_) (fun cdv A outer s H vs Q E hr h => ?_)
  · obtain ⟨p, x, ns, rfl, _⟩ := h
    rfl
  · obtain ⟨p, x, ns, rfl, ⟨dx, q, hp, hq⟩, up, k⟩ := h
    refine ⟨_, (pss_cons (ps_par (i := 2) (j := 3) (by rfl) sc_Line_count_less.nd rfl rfl (by decide) rfl rfl (pa_cons pe_int (pa_cons (pe_callB cr_lenQ (by rfl) T.n_len bt_len (pa_cons (pe_fld (pv 0) rfl) pa_nil)) pa_nil)) (by rfl))
    (pss_cons (ps_while PassesOwn.never (pt_cmpR op_lt (pv 2) (pv 3) (nomark _)) (pss_cons (ps_set (i := 4) sc_Line_count_less.nd rfl (Or.inl rfl) (pe_op op_fdiv (pe_op op_add (pv 2) (pv 3)) pe_int))
    (pss_one (ps_if (pt_cmpR op_lt (pe_ix ix_list (pe_fld (pv 0) rfl) (pv 4) (fun _ _ => rfl)) (pv 1) (nomark _)) (pss_one (ps_set (i := 2) sc_Line_count_less.nd rfl (Or.inl rfl) (pe_op op_add (pv 4) pe_int))) (pss_one (ps_set (i := 3) sc_Line_count_less.nd rfl (Or.inl rfl) (pv 4)))))))
    (pss_one (ps_ret (pv 2))))), ?_⟩
    walk_at "gg"
    refine g_fld hp L.cl L.own (lf_own q) ?_
    walk_at "gg"
    refine g_len (SqL.of hq) ?_
    rw [List.length_map]
    walk_at "gg"
    refine g_while (fun m σ H' => ∃ (lo hi : Nat) (v : Option V), σ = [some (.ref p), some (.int x), some (.int (lo : Nat)), some (.int (hi : Nat)), v] ∧ H' = H ∧ m = hi - lo ∧ lo ≤ lessN ns x ∧ lessN ns x ≤ hi ∧ hi ≤ ns.length) ns.length
      ⟨0, ns.length, none, rfl, rfl, by omega, Nat.zero_le _, lessN_le ns x, Nat.le_refl _⟩ ?_
    rintro m σ H' ⟨lo, hi, v, rfl, rfl, rfl, h1, h2, h3⟩
    walk_at "gg"
    by_cases c : lo < hi
    · refine g_iteT (by omega) ?_
      refine g_turn (fun m σ H'' => ∃ (lo hi : Nat) (v : Option V), σ = [some (.ref p), some (.int x), some (.int (lo : Nat)), some (.int (hi : Nat)), v] ∧ H'' = H' ∧ m = hi - lo ∧ lo ≤ lessN ns x ∧ lessN ns x ≤ hi ∧ hi ≤ ns.length) ?_
      walk_at "gg"
      refine g_I (C := CDiv) ⟨by decide, by decide⟩ ?_
      walk_at "gg"
      have e : ((lo : Int) + (hi : Int)) / 2 = (((lo + hi) / 2 : Nat) : Int) := by omega
      rw [e]
      generalize hm : (lo + hi) / 2 = mid
      have m1 : lo ≤ mid := by omega
      have m2 : mid < hi := by omega
      refine g_fld hp L.cl L.own (lf_own q) ?_
      walk_at "gg"
      refine g_ixN (SqL.of hq) (by omega) (by omega) fun n hn at_ => ?_
      rw [Int.toNat_natCast] at at_
      have lg := less_get (x := x) up at_
      walk_at "gg"
      refine g_ite (fun d => ?_) (fun d => ?_)
      · walk_at "gg"
        have := lg.mpr d
        exact ⟨hi - (mid + 1), by omega, mid + 1, hi, _, rfl, rfl, rfl, by omega, h2, h3⟩
      · walk_at "gg"
        have : ¬ mid < lessN ns x := fun z => d (lg.mp z)
        exact ⟨mid - lo, by omega, lo, mid, _, rfl, rfl, rfl, h1, by omega, by omega⟩
    · refine g_iteF (by omega) ?_
      walk_at "gg"
      have e : lessN ns x = lo := by omega
      rw [e] at k
      exact k
abbrev s_Line_need_point : Stmt := inClass (top 15) 9
abbrev N_Line_need_point : List Str := ["self", "thing"]
theorem sc_Line_need_point : FnScope N_Line_need_point ["self", "thing"] (defScope s_Line_need_point) := ⟨rfl, rfl, rfl, by decide +kernel, rfl, by decide +kernel, by decide +kernel⟩

theorem ok_need {f : Addr} {fd : FuncData} {C : Addr} (F : Fun K "need_point" "Line.need_point" s_Line_need_point f fd) (d_is_point : Met P w K mg base 2 C "is_point" (spPoint K) []) : FnOk P w K mg base CX0 3 f fd ["self", "thing"] (spNeed C) := by
  refine F.ok sc_Line_need_point (fun vs H Q E h => ?_) (fun cdv A outer s H vs Q E hr h => ?_)
  · obtain ⟨p, dx, q, x, rfl, _⟩ := h
    rfl
  · obtain ⟨p, dx, q, x, rfl, hp, k⟩ := h
    refine ⟨_, (pss_one (ps_if (pt_not (pt_val (pe_mt d_is_point hr (by decide) (pv 0) (pa_cons (pv 1) pa_nil)))) (pss_one ps_never) pss_nil)), ?_⟩
    walk_at "gg"
    refine g_meth hp (lf_no q (by decide)) ?_
    walk_at "gg"
    refine ⟨p, .int x, true, rfl, .int x, ?_⟩
    walk_at "gg"
    refine g_ifF rfl ?_
    walk_at "gg"
    exact k
abbrev s_Line_contains : Stmt := inClass (top 15) 11
abbrev N_Line_contains : List Str := ["self", "thing", "spot"]
theorem sc_Line_contains : FnScope N_Line_contains ["self", "thing"] (defScope s_Line_contains) := ⟨rfl, rfl, rfl, by decide +kernel, rfl, by decide +kernel, by decide +kernel⟩

theorem ok_has {f : Addr} {fd : FuncData} {C : Addr} (F : Fun K "__contains__" "Line.__contains__" s_Line_contains f fd) (L : LineC K C) (T : Bt mg) (d_is_point : Met P w K mg base 2 C "is_point" (spPoint K) []) (d_count_less : Met P w K mg base 1 C "count_less" (spCount C) []) : FnOk P w K mg base CX0 3 f fd ["self", "thing"] (spHas C) := by
  refine F.ok sc_Line_contains (fun vs H Q E h => ?_) (fun cdv A outer s H vs Q E hr h => ?_)
  · obtain ⟨p, x, ns, rfl, _⟩ := h
    rfl
  · obtain ⟨p, x, ns, rfl, ⟨dx, q, hp, hq⟩, up, k⟩ := h
    refine ⟨_, (pss_cons (ps_if (pt_not (pt_val (pe_mt d_is_point hr (by decide) (pv 0) (pa_cons (pv 1) pa_nil)))) (pss_one (ps_ret pe_bl)) pss_nil)
    (pss_cons (ps_set (i := 2) sc_Line_contains.nd rfl (Or.inl rfl) (pe_mt d_count_less hr (by decide) (pv 0) (pa_cons (pv 1) pa_nil)))
    (pss_one (ps_ret (pe_and (pe_cmpR op_lt (pv 2) (pe_callB cr_lenQ (by rfl) T.n_len bt_len (pa_cons (pe_fld (pv 0) rfl) pa_nil)) (nomark _)) (pe_one (pe_cmpR op_eq (pe_ix ix_list (pe_fld (pv 0) rfl) (pv 2) (fun _ _ => rfl)) (pv 1) (nomark _)))))))), ?_⟩
    walk_at "gg"
    refine g_meth hp (lf_no q (by decide)) ?_
    walk_at "gg"
    refine ⟨p, .int x, true, rfl, .int x, ?_⟩
    walk_at "gg"
    refine g_ifF rfl ?_
    walk_at "gg"
    refine g_meth hp (lf_no q (by decide)) ?_
    walk_at "gg"
    refine ⟨p, x, ns, rfl, ⟨dx, q, hp, hq⟩, up, ?_⟩
    walk_at "gg"
    refine g_fld hp L.cl L.own (lf_own q) ?_
    walk_at "gg"
    refine g_len (SqL.of hq) ?_
    rw [List.length_map]
    have lh := less_here (x := x) up
    walk_at "gg"
    by_cases c : lessN ns x < ns.length
    · refine g_iteT (by omega) ?_
      walk_at "gg"
      refine g_fld hp L.cl L.own (lf_own q) ?_
      walk_at "gg"
      refine g_ixN (SqL.of hq) (by omega) (by omega) fun n hn at_ => ?_
      rw [Int.toNat_natCast] at at_
      rw [at_] at lh
      walk_at "gg"
      have lh : decide (n = x) = decide (x ∈ ns) := lh
      have e : decide (V.int n = V.int x) = decide (n = x) := decide_eq_decide.mpr ⟨fun z => by injection z, fun z => by rw [z]⟩
      rw [e, lh]
      exact k
    · refine g_iteF (by omega) ?_
      rw [List.getElem?_eq_none (by omega)] at lh
      have lh : false = decide (x ∈ ns) := lh
      rw [lh]
      exact k
end
end Gk

namespace Gk
open PySem L2 Gx
open C8 (Cal Met Mak pe_c pe_mt pe_mt0 pe_mk pe_gc)
local macro_rules | `(tactic| walk_at "g") => `(tactic| (first
  | with_reducible refine g_seq ?_ | with_reducible refine g_asg ?_ | ((with_reducible show tVar _ _ _ _); refine g_var rfl ?_) | with_reducible refine g_c ?_ | with_reducible refine g_name ?_ | with_reducible refine g_op ?_ | with_reducible refine g_I0 ?_
  | with_reducible refine g_cons ?_ | with_reducible refine g_nil ?_ | with_reducible refine g_exbl ?_ | with_reducible refine g_exint ?_ | with_reducible refine g_test ?_ | with_reducible refine g_B ?_ | with_reducible refine g_ifS ?_ | with_reducible refine g_ret ?_ | with_reducible refine g_retN ?_ | with_reducible refine g_next ?_
  | with_reducible refine g_CB ?_ | with_reducible refine g_sub ?_ | with_reducible refine g_drop ?_ | with_reducible refine g_not ?_ | with_reducible refine g_and ?_ | with_reducible refine g_or ?_ | with_reducible refine g_andV ?_ | with_reducible refine g_orV ?_ | with_reducible refine g_notV ?_ | with_reducible refine g_ifE ?_ | with_reducible refine g_isN ?_
  | with_reducible refine g_par ?_ | with_reducible refine g_expar ?_ | with_reducible refine g_chain ?_ | with_reducible refine g_un ?_ | with_reducible refine g_U ?_ | with_reducible refine g_bits ?_ | ((with_reducible show rEq _ _ _ _); refine g_eq rfl ?_) | ((with_reducible show rNe _ _ _ _); refine g_ne rfl ?_)
  | with_reducible refine g_for ?_ | with_reducible refine g_iRng1 ?_ | with_reducible refine g_iRng2 ?_ | with_reducible refine g_iList ?_ | with_reducible refine g_iTup ?_
  | ((with_reducible refine g_Imul ?hc ?_); (case hc => (first | (refine Or.inl ⟨?_, ?_⟩ <;> first | decide | omega) | (refine Or.inr ⟨?_, ?_⟩ <;> first | decide | omega))))
  | ((with_reducible refine g_Idiv ?hc ?_); (case hc => (first | (exact ⟨by decide, by decide⟩) | assumption)))
  | ((with_reducible refine g_Imod ?hc ?_); (case hc => (first | assumption | omega | decide)))
  | ((with_reducible refine g_exR1 ?hlo ?hhi ?_); (case hlo => omega); (case hhi => omega))
  | ((with_reducible refine g_exR2 ?hb ?_); (case hb => omega))
  | with_reducible refine g_lst ?_ | with_reducible refine g_tup ?_ | with_reducible refine g_call ?_ | with_reducible refine g_BM ?_ | with_reducible refine g_BM0 ?_
  | with_reducible refine g_intB ?_ | with_reducible refine g_lc ?_ | with_reducible refine g_yes ?_ | with_reducible refine g_iZip ?_ | with_reducible refine g_sl ?_ | with_reducible refine g_noP ?_ | with_reducible refine g_part ?_ | with_reducible refine g_gcons ?_ | with_reducible refine g_gnil ?_
  | with_reducible refine g_tfld ?_ | with_reducible refine g_tmeth ?_ | with_reducible refine g_tmake ?_ | with_reducible refine g_sfld ?_ | with_reducible refine g_tprop ?_ | with_reducible refine g_tstar ?_ | with_reducible refine g_tmethK ?_ | with_reducible refine g_isN1 ?_ | with_reducible refine g_notN1 ?_))
local macro_rules | `(tactic| walk_at "gs1") => `(tactic| (first
  | with_reducible refine g_seq ?_ | with_reducible refine g_asg ?_ | ((with_reducible show tVar _ _ _ _); refine g_var rfl ?_) | with_reducible refine g_c ?_ | with_reducible refine g_name ?_ | with_reducible refine g_op ?_ | with_reducible refine g_I0 ?_
  | with_reducible refine g_cons ?_ | with_reducible refine g_nil ?_ | with_reducible refine g_exbl ?_ | with_reducible refine g_exint ?_ | with_reducible refine g_test ?_ | with_reducible refine g_B ?_ | with_reducible refine g_ifS ?_ | with_reducible refine g_retN ?_ | with_reducible refine g_next ?_
  | with_reducible refine g_CB ?_ | with_reducible refine g_sub ?_ | with_reducible refine g_drop ?_ | with_reducible refine g_not ?_ | with_reducible refine g_and ?_ | with_reducible refine g_or ?_ | with_reducible refine g_andV ?_ | with_reducible refine g_orV ?_ | with_reducible refine g_notV ?_ | with_reducible refine g_ifE ?_ | with_reducible refine g_isN ?_
  | with_reducible refine g_par ?_ | with_reducible refine g_expar ?_ | with_reducible refine g_chain ?_ | with_reducible refine g_un ?_ | with_reducible refine g_U ?_ | with_reducible refine g_bits ?_ | ((with_reducible show rEq _ _ _ _); refine g_eq rfl ?_) | ((with_reducible show rNe _ _ _ _); refine g_ne rfl ?_)
  | with_reducible refine g_for ?_ | with_reducible refine g_iRng1 ?_ | with_reducible refine g_iRng2 ?_ | with_reducible refine g_iList ?_ | with_reducible refine g_iTup ?_
  | ((with_reducible refine g_Imul ?hc ?_); (case hc => (first | (refine Or.inl ⟨?_, ?_⟩ <;> first | decide | omega) | (refine Or.inr ⟨?_, ?_⟩ <;> first | decide | omega))))
  | ((with_reducible refine g_Idiv ?hc ?_); (case hc => (first | (exact ⟨by decide, by decide⟩) | assumption)))
  | ((with_reducible refine g_Imod ?hc ?_); (case hc => (first | assumption | omega | decide)))
  | ((with_reducible refine g_exR1 ?hlo ?hhi ?_); (case hlo => omega); (case hhi => omega))
  | ((with_reducible refine g_exR2 ?hb ?_); (case hb => omega))
  | with_reducible refine g_lst ?_ | with_reducible refine g_tup ?_ | with_reducible refine g_call ?_ | with_reducible refine g_BM ?_ | with_reducible refine g_BM0 ?_
  | with_reducible refine g_intB ?_ | with_reducible refine g_lc ?_ | with_reducible refine g_yes ?_ | with_reducible refine g_iZip ?_ | with_reducible refine g_sl ?_ | with_reducible refine g_noP ?_ | with_reducible refine g_part ?_ | with_reducible refine g_gcons ?_ | with_reducible refine g_gnil ?_
  | with_reducible refine g_tfld ?_ | with_reducible refine g_tmeth ?_ | with_reducible refine g_tmake ?_ | with_reducible refine g_sfld ?_ | with_reducible refine g_tprop ?_ | with_reducible refine g_tstar ?_ | with_reducible refine g_tmethK ?_ | with_reducible refine g_isN1 ?_ | with_reducible refine g_notN1 ?_))
local macro_rules | `(tactic| walk_at "gx1") => `(tactic| (first
  | with_reducible refine g_seq ?_ | with_reducible refine g_asg ?_ | ((with_reducible show tVar _ _ _ _); refine g_var rfl ?_) | with_reducible refine g_c ?_ | with_reducible refine g_name ?_ | with_reducible refine g_op ?_ | with_reducible refine g_I0 ?_
  | with_reducible refine g_cons ?_ | with_reducible refine g_nil ?_ | with_reducible refine g_exbl ?_ | with_reducible refine g_exint ?_ | with_reducible refine g_test ?_ | with_reducible refine g_B ?_ | with_reducible refine g_ifS ?_ | with_reducible refine g_retN ?_ | with_reducible refine g_next ?_
  | with_reducible refine g_CB ?_ | with_reducible refine g_sub ?_ | with_reducible refine g_drop ?_ | with_reducible refine g_not ?_ | with_reducible refine g_and ?_ | with_reducible refine g_or ?_ | with_reducible refine g_andV ?_ | with_reducible refine g_orV ?_ | with_reducible refine g_notV ?_ | with_reducible refine g_ret ?_ | with_reducible refine g_isN ?_
  | with_reducible refine g_par ?_ | with_reducible refine g_expar ?_ | with_reducible refine g_chain ?_ | with_reducible refine g_un ?_ | with_reducible refine g_U ?_ | with_reducible refine g_bits ?_ | ((with_reducible show rEq _ _ _ _); refine g_eq rfl ?_) | ((with_reducible show rNe _ _ _ _); refine g_ne rfl ?_)
  | with_reducible refine g_for ?_ | with_reducible refine g_iRng1 ?_ | with_reducible refine g_iRng2 ?_ | with_reducible refine g_iList ?_ | with_reducible refine g_iTup ?_
  | ((with_reducible refine g_Imul ?hc ?_); (case hc => (first | (refine Or.inl ⟨?_, ?_⟩ <;> first | decide | omega) | (refine Or.inr ⟨?_, ?_⟩ <;> first | decide | omega))))
  | ((with_reducible refine g_Idiv ?hc ?_); (case hc => (first | (exact ⟨by decide, by decide⟩) | assumption)))
  | ((with_reducible refine g_Imod ?hc ?_); (case hc => (first | assumption | omega | decide)))
  | ((with_reducible refine g_exR1 ?hlo ?hhi ?_); (case hlo => omega); (case hhi => omega))
  | ((with_reducible refine g_exR2 ?hb ?_); (case hb => omega))
  | with_reducible refine g_lst ?_ | with_reducible refine g_tup ?_ | with_reducible refine g_call ?_ | with_reducible refine g_BM ?_ | with_reducible refine g_BM0 ?_
  | with_reducible refine g_intB ?_ | with_reducible refine g_lc ?_ | with_reducible refine g_yes ?_ | with_reducible refine g_iZip ?_ | with_reducible refine g_sl ?_ | with_reducible refine g_noP ?_ | with_reducible refine g_part ?_ | with_reducible refine g_gcons ?_ | with_reducible refine g_gnil ?_
  | with_reducible refine g_tfld ?_ | with_reducible refine g_tmeth ?_ | with_reducible refine g_tmake ?_ | with_reducible refine g_sfld ?_ | with_reducible refine g_tprop ?_ | with_reducible refine g_tstar ?_ | with_reducible refine g_tmethK ?_ | with_reducible refine g_isN1 ?_ | with_reducible refine g_notN1 ?_))
local macro_rules | `(tactic| walk_at "hp") => `(tactic| (first | assumption | exact upd_same | (refine same_get (by assumption) ?_; walk_at "hp")))
local macro_rules | `(tactic| walk_at "sm") => `(tactic| (first | assumption | exact Same.refl _ | (refine Same.trans ?ha (by assumption); walk_at "sm")))
local macro_rules | `(tactic| walk_at "nn") => `(tactic| (first | assumption | (refine same_free (by assumption) ?_; walk_at "nn")))
local macro_rules | `(tactic| walk_at "sb") => `(tactic| (first | decide | (refine small_bits ?_ ?_ <;> omega)))
local macro_rules | `(tactic| walk_at "ln") => `(tactic| (simp only [List.length_cons, List.length_nil]; omega))
local macro_rules | `(tactic| walk_at "gg") => `(tactic| (repeat walk_at "g"))
local macro_rules | `(tactic| walk_at "gs") => `(tactic| (repeat walk_at "gs1"))
local macro_rules | `(tactic| walk_at "gx") => `(tactic| (repeat walk_at "gx1"))

local macro_rules | `(tactic| walk_at "g") => `(tactic| with_reducible refine g_dc ?_)
theorem g_iteNF {c : Prop} [Decidable c] {A B : Prop} (h : c) (q : B) : if (!decide c) = true then A else B := g_ifF (by rw [decide_eq_true h]; rfl) q
theorem g_iteNT {c : Prop} [Decidable c] {A B : Prop} (h : ¬ c) (q : A) : if (!decide c) = true then A else B := g_ifT (by rw [decide_eq_false h]; rfl) q
section
variable {P : Program} {w : World} {K : PySem.W.Frag} {mg : Str → Option Value} {base : Heap} {X : Cx}
def spRange : Sp := fun vs H Q _ => ∃ lo hi : Int, vs = [.int lo, .int hi] ∧ lo ≤ hi ∧ Q .non H
def spInner (C : Addr) : Sp := fun vs H Q _ => ∃ (p a : Addr) (ns ss : List Int), vs = [.ref p, .ref a] ∧ LineAt C H p (ns.map V.int) ∧ ns.Pairwise (· < ·) ∧ ns.length ≤ 500 ∧ H a = some (.lst (ss.map V.int)) ∧ ss.Sublist ns ∧ ∀ H', Same H H' → Q .non H'
def spReach (C : Addr) : Sp := fun vs H Q _ => ∃ (p a : Addr) (ns ss : List Int) (lo hi : Int), vs = [.ref p, .int lo, .int hi, .ref a] ∧ LineAt C H p (ns.map V.int) ∧ ns.Pairwise (· < ·) ∧ ns.length ≤ 500 ∧ H a = some (.lst (ss.map V.int)) ∧ ss.Sublist ns ∧ lo ≤ hi ∧
  ∀ t H', H t = none → Same H H' → H' t = some (.tup (reachV ns ss lo hi)) → Q (.ref t) H'
def spHeld : Sp := fun vs H Q _ => ∃ (t : Addr) (l r : Option Int) (hl hr : Bool) (x : Int), vs = [.ref t, .int x] ∧ H t = some (.tup [oV l, oV r, .bl hl, .bl hr]) ∧ Q (.bl (heldB l r hl hr x)) H
abbrev s_need_range : Stmt := top 6
abbrev N_need_range : List Str := ["low", "high"]
theorem sc_need_range : FnScope N_need_range ["low", "high"] (defScope s_need_range) := ⟨rfl, rfl, rfl, by decide +kernel, rfl, by decide +kernel, by decide +kernel⟩

theorem ok_range {f : Addr} {fd : FuncData} (D : Dn K mg "need_range" s_need_range ["low", "high"] f fd) : Cal P w K mg base 1 "need_range" spRange [] := by
  refine cal_of D (D.fn.ok sc_need_range (fun vs H Q E h => ?_) (fun cdv A outer s H vs Q E hr h => ?_))
  · obtain ⟨lo, hi, rfl, _⟩ := h
    rfl
  · obtain ⟨lo, hi, rfl, le, k⟩ := h
    refine ⟨_, (pss_one (ps_if (pt_cmpR op_gt (pv 0) (pv 1) (nomark _)) (pss_one ps_never) pss_nil)), ?_⟩
    walk_at "gg"
    refine g_iteF (by omega) ?_
    walk_at "gg"
    exact k
abbrev s_need_inner : Stmt := top 7
abbrev N_need_inner : List Str := ["line", "inner", "point", "one", "other"]
theorem sc_need_inner : FnScope N_need_inner ["line", "inner"] (defScope s_need_inner) := ⟨rfl, rfl, rfl, by decide +kernel, rfl, by decide +kernel, by decide +kernel⟩

theorem ok_inner {f : Addr} {fd : FuncData} {C : Addr} (D : Dn K mg "need_inner" s_need_inner ["line", "inner"] f fd) (T : Bt mg) (d_contains : Met P w K mg base 3 C "__contains__" (spHas C) []) : Cal P w K mg base 4 "need_inner" (spInner C) [] := by
  refine cal_of D (D.fn.ok sc_need_inner (fun vs H Q E h => ?_) (fun cdv A outer s H vs Q E hr h => ?_))
  · obtain ⟨p, a, ns, ss, rfl, _⟩ := h
    rfl
  · obtain ⟨p, a, ns, ss, rfl, l, up, hl, ha, sub, k⟩ := h
    obtain ⟨dx, q, hp, hq⟩ := id l
    have sl : ss.length ≤ 500 := Nat.le_trans sub.length_le hl
    refine ⟨_, (pss_cons (ps_if (PW.pt (pw_or (pt_not (pt_val (pe_callB call_isi (by rfl) T.n_isinstance bt_isinstance (pa_cons (pv 1) (pa_cons (pe_bltn (v := .ty "list") (by rfl) T.n_list bt_list rfl) pa_nil))))) (pw_or1 (pt_not (pt_val (pe_callB (cr_all rfl) (by rfl) T.n_all bt_all (pa_cons (pe_lc (own := [("point", 2)]) (g := gName 2) (tt := tYes) rfl sc_need_inner.nd (pi_list (pv 1)) (blkOk_by (own := [("point", 2)]) (N := N_need_inner) (sc := defScope s_need_inner) (by decide +kernel)) (fun _ _ _ _ _ => pg_name (i := 2) sc_need_inner.nd rfl (Or.inl rfl)) (fun _ _ _ _ _ => pts_nil) (fun _ _ _ _ _ => (pe_cmpR (op_ownIn d_contains hr (by decide)) (pv 2) (pv 0) (by rfl)))) pa_nil))))))) (pss_one ps_never) pss_nil)
    (pss_one (ps_if (pt_not (pt_val (pe_callB (cr_all rfl) (by rfl) T.n_all bt_all (pa_cons (pe_lc (own := [("one", 3), ("other", 4)]) (g := gTup K 2 (gCons (gName 3) (gCons (gName 4) gNil))) (tt := tYes) rfl sc_need_inner.nd (pi_zip (by rfl) T.n_zip (pa_cons (pv 1) (pa_cons (pe_slice sl_list (pv 1) (po_some pe_int) po_none) pa_nil))) (blkOk_by (own := [("one", 3), ("other", 4)]) (N := N_need_inner) (sc := defScope s_need_inner) (by decide +kernel)) (fun _ _ _ _ _ => (pg_tup (by rfl) (pgs_cons (pg_name (i := 3) sc_need_inner.nd rfl (Or.inl rfl)) (pgs_cons (pg_name (i := 4) sc_need_inner.nd rfl (Or.inl rfl)) pgs_nil)))) (fun _ _ _ _ _ => pts_nil) (fun _ _ _ _ _ => (pe_cmpR op_lt (pv 3) (pv 4) (nomark _)))) pa_nil)))) (pss_one ps_never) pss_nil))), ?_⟩
    walk_at "gg"
    refine g_isi (.ty "list") (.base (.lst ha)) (b := true) (kit_ty (by decide +kernel)) ?_
    walk_at "gg"
    refine g_ifF rfl ?_
    walk_at "gg"
    refine g_exL (SqL.of ha) ?_
    refine lc_map (src_list (SqL.of ha)) (by rw [List.length_map]; omega) (fun _ y => y = V.bl true) (fun i x H' Nx hi S it kx => ?_) fun D1 acc H1 n1 S1 e1 hl1 hacc => ?_
    · obtain ⟨n, hn, rfl⟩ := ints_at it
      walk_at "gg"
      refine ⟨rfl, ?_⟩
      walk_at "gg"
      refine g_own (S _ _ hp) ?_
      refine ⟨p, n, ns, rfl, l.same S, up, true, ?_, ?_⟩
      · rw [decide_eq_true (sub.subset (List.mem_of_getElem? hn))]
      · exact kx _ _ (Same.refl _) rfl
    rw [trues hacc] at e1
    walk_at "gg"
    refine g_all (SqL.of e1) ?_
    rw [all_trues]
    walk_at "gg"
    refine g_ifF rfl ?_
    walk_at "gg"
    refine g_slL (SqL.of (S1 _ _ ha)) fun q2 H2 n2 S2 e2 => ?_
    rw [cut_one, ← List.map_drop] at e2
    have S02 := S1.trans S2
    walk_at "gg"
    refine g_exZ (SqL.of (S02 _ _ ha)) (SqL.of e2) ?_
    refine lc_map (src_zip (SqL.of (S02 _ _ ha)) (SqL.of e2)) (by rw [List.length_map]; omega) (fun _ y => y = V.bl true) (fun i x H' Nx hi S it kx => ?_) fun D3 acc3 H3 n3 S3 e3 hl3 hacc3 => ?_
    · obtain ⟨T, v1, v2, rfl, hT, x1, x2⟩ := it
      obtain ⟨m1, hm1, rfl⟩ := ints_at x1
      obtain ⟨m2, hm2, rfl⟩ := ints_at x2
      refine g_gtup (SqT.of hT) rfl ?_
      walk_at "gg"
      refine ⟨rfl, ?_⟩
      walk_at "gg"
      exact kx _ _ (Same.refl _) (congrArg V.bl (decide_eq_true (rising_zip (up.sublist sub) hm1 hm2)))
    rw [trues hacc3] at e3
    walk_at "gg"
    refine g_all (SqL.of e3) ?_
    rw [all_trues]
    walk_at "gg"
    refine g_ifF rfl ?_
    walk_at "gg"
    exact k _ (S02.trans S3)
abbrev s_reach : Stmt := top 8
abbrev N_reach : List Str := ["line", "low", "high", "inner", "left_out", "rows", "holds_left", "holds_right", "ahead", "beyond", "left", "right", "point"]
theorem sc_reach : FnScope N_reach ["line", "low", "high", "inner"] (defScope s_reach) := ⟨rfl, rfl, rfl, by decide +kernel, rfl, by decide +kernel, by decide +kernel⟩

theorem ok_reach {f : Addr} {fd : FuncData} {C : Addr} (D : Dn K mg "reach" s_reach ["line", "low", "high", "inner"] f fd) (T : Bt mg) (L : LineC K C) (c_need_range : Cal P w K mg base 1 "need_range" spRange []) (c_need_inner : Cal P w K mg base 4 "need_inner" (spInner C) [])
    (p_points : PropR P w K mg base 1 C "points" (spPoints K C)) (d_is_point : Met P w K mg base 2 C "is_point" (spPoint K) []) (d_is_ahead : Met P w K mg base 1 C "is_ahead" spAhead []) (d_is_beyond : Met P w K mg base 1 C "is_beyond" spBeyond []) : FnOk P w K mg base CX0 5 f fd ["line", "low", "high", "inner"] (spReach C) := by
  refine D.fn.ok sc_reach (fun vs H Q E h => ?_) (fun cdv A outer s H vs Q E hr h => ?_)
  · obtain ⟨p, a, ns, ss, lo, hi, rfl, _⟩ := h
    rfl
  · obtain ⟨p, a, ns, ss, lo, hi, rfl, l, up, hl, ha, sub, le, k⟩ := h
    obtain ⟨dx, q, hp, hq⟩ := id l
    have sl : ss.length ≤ 500 := Nat.le_trans sub.length_le hl
    have hu := hr.units
    refine ⟨_, (pss_cons (ps_expr (pe_c c_need_range hr (by decide) (by rfl) (pa_cons (pv 1) (pa_cons (pv 2) pa_nil))))
    (pss_cons (ps_expr (pe_c c_need_inner hr (by decide) (by rfl) (pa_cons (pv 0) (pa_cons (pv 3) pa_nil))))
    (pss_cons (ps_set (i := 4) sc_reach.nd rfl (Or.inr rfl) (pe_dc (own := [("point", 12)]) (g := gName 12) (tt := tYes) rfl sc_reach.nd (pi_list (pv 3)) (blkOk_by (own := [("point", 12)]) (N := N_reach) (sc := defScope s_reach) (by decide +kernel)) (fun _ _ _ _ _ => pg_name (i := 12) sc_reach.nd rfl (Or.inl rfl)) (fun _ _ _ _ _ => pts_nil) (fun _ _ _ _ _ => (pv 12)) (fun _ _ _ _ _ => pe_bl)))
    (pss_cons (ps_setLc (i := 5) (own := [("point", 12)]) (g := gName 12) rfl sc_reach.nd rfl rfl (sw_true rfl rfl rfl (by decide +kernel)) (pi_list (pe_pr p_points hr (by decide) (pv 0))) (blkOk_by (own := [("point", 12)]) (N := N_reach) (sc := defScope s_reach) (by decide +kernel)) (fun _ _ _ _ _ => pg_name (i := 12) sc_reach.nd rfl (Or.inl rfl)) (fun _ _ _ _ _ => (pts_one (pt_cmpR (op_dictNotIn hr.units) (pv 12) (pv 4) (by rfl)))) (fun _ _ _ _ _ => (pv 12)))
    (pss_cons (ps_set (i := 6) sc_reach.nd rfl (Or.inl rfl) (pe_and (pe_mt d_is_point hr (by decide) (pv 0) (pa_cons (pv 1) pa_nil)) (pe_one (pe_cmpR op_in_seq (pv 1) (pv 5) (by rfl)))))
    (pss_cons (ps_set (i := 7) sc_reach.nd rfl (Or.inl rfl) (pe_and (pe_mt d_is_point hr (by decide) (pv 0) (pa_cons (pv 2) pa_nil)) (pe_one (pe_cmpR op_in_seq (pv 2) (pv 5) (by rfl)))))
    (pss_cons (ps_setLc (i := 8) (own := [("point", 12)]) (g := gName 12) rfl sc_reach.nd rfl rfl (sw_true rfl rfl rfl (by decide +kernel)) (pi_list (pv 5)) (blkOk_by (own := [("point", 12)]) (N := N_reach) (sc := defScope s_reach) (by decide +kernel)) (fun _ _ _ _ _ => pg_name (i := 12) sc_reach.nd rfl (Or.inl rfl)) (fun _ _ _ _ _ => (pts_one (pt_val (pe_mt d_is_ahead hr (by decide) (pv 0) (pa_cons (pv 12) (pa_cons (pv 1) pa_nil)))))) (fun _ _ _ _ _ => (pv 12)))
    (pss_cons (ps_setLc (i := 9) (own := [("point", 12)]) (g := gName 12) rfl sc_reach.nd rfl rfl (sw_true rfl rfl rfl (by decide +kernel)) (pi_list (pv 5)) (blkOk_by (own := [("point", 12)]) (N := N_reach) (sc := defScope s_reach) (by decide +kernel)) (fun _ _ _ _ _ => pg_name (i := 12) sc_reach.nd rfl (Or.inl rfl)) (fun _ _ _ _ _ => (pts_one (pt_val (pe_mt d_is_beyond hr (by decide) (pv 0) (pa_cons (pv 12) (pa_cons (pv 2) pa_nil)))))) (fun _ _ _ _ _ => (pv 12)))
    (pss_cons (ps_set (i := 10) sc_reach.nd rfl (Or.inl rfl) (pe_ifExp (pt_val (pv 6)) (pv 1) (pe_ifExp (pt_cmpR (op_neD hr.units) (pv 8) (pe_lst pa_nil) (nomark _)) (pe_ix ix_list (pv 8) (pe_un un_neg pe_int) (fun _ _ => rfl)) pe_non)))
    (pss_cons (ps_set (i := 11) sc_reach.nd rfl (Or.inl rfl) (pe_ifExp (pt_val (pv 7)) (pv 2) (pe_ifExp (pt_cmpR (op_neD hr.units) (pv 9) (pe_lst pa_nil) (nomark _)) (pe_ix ix_list (pv 9) pe_int (fun _ _ => rfl)) pe_non)))
    (pss_one (ps_ret (pe_tup (pa_cons (pv 10) (pa_cons (pv 11) (pa_cons (pv 6) (pa_cons (pv 7) pa_nil))))))))))))))))), ?_⟩
    walk_at "gg"
    refine ⟨lo, hi, rfl, le, ?_⟩
    walk_at "gg"
    refine ⟨p, a, ns, ss, rfl, l, up, hl, ha, sub, fun H1 S1 => ?_⟩
    walk_at "gg"
    refine g_exL (SqL.of (S1 _ _ ha)) ?_
    refine dc_ints (SqL.of (S1 _ _ ha)) (by omega) (fun m H' Nx hm S kx => ?_) fun D2 H2 n2 S2 e2 => ?_
    · walk_at "gg"
      refine ⟨rfl, ?_⟩
      walk_at "gg"
      exact kx _ _ (Same.refl _)
    walk_at "gg"
    have S02 := S1.trans S2
    refine g_prop (S02 _ _ hp) ⟨p, _, rfl, l.same S02, fun l3 H3 n3 S3 e3 => ?_⟩
    have S03 := S02.trans S3
    refine g_exL (SqL.of e3) ?_
    refine lc_filtI (SqL.of e3) (by omega) (fun m => !decide (m ∈ ss)) (fun m H' Nx No hm S k1 k2 => ?_) fun D4 H4 n4 S4 e4 => ?_
    · walk_at "gg"
      refine ⟨rfl, ?_⟩
      walk_at "gg"
      refine g_keyNot ((e2.same S3).same S) ?_
      walk_at "gg"
      split
      · rename_i c
        walk_at "gg"
        exact k1 _ (Same.refl _) c
      · rename_i c
        exact k2 _ (Same.refl _) (by simpa using c)
    have S04 := S03.trans S4
    have kl := kept_len ns ss
    change H4 D4 = some (.lst ((keptOf ns ss).map V.int)) at e4
    have k' : ∀ t H', H4 t = none → Same H4 H' → H' t = some (.tup (reachV ns ss lo hi)) → Q (.ref t) H' := fun t H' n S e => k t H' (same_free S04 n) (S04.trans S) e
    unfold reachV at k'
    have upk := kept_up ss up
    generalize keptOf ns ss = ks at e4 k' kl upk
    walk_at "gg"
    refine g_meth (S04 _ _ hp) (lf_no q (by decide)) ?_
    walk_at "gg"
    refine ⟨p, .int lo, true, rfl, .int lo, ?_⟩
    walk_at "gg"
    refine g_ifT rfl ?_
    walk_at "gg"
    refine g_inI (SqL.of e4) ?_
    walk_at "gg"
    refine g_meth (S04 _ _ hp) (lf_no q (by decide)) ?_
    walk_at "gg"
    refine ⟨p, .int hi, true, rfl, .int hi, ?_⟩
    walk_at "gg"
    refine g_ifT rfl ?_
    walk_at "gg"
    refine g_inI (SqL.of e4) ?_
    walk_at "gg"
    refine g_exL (SqL.of e4) ?_
    refine lc_filtI (SqL.of e4) (by omega) (fun m => decide (m < lo)) (fun m H' Nx No hm S k1 k2 => ?_) fun D5 H5 n5 S5 e5 => ?_
    · walk_at "gg"
      refine ⟨rfl, ?_⟩
      walk_at "gg"
      refine g_meth (S _ _ (S04 _ _ hp)) (lf_no q (by decide)) ?_
      walk_at "gg"
      refine ⟨p, m, lo, rfl, ?_⟩
      walk_at "gg"
      refine g_ite (fun c => ?_) (fun c => k2 _ (Same.refl _) (decide_eq_false c))
      walk_at "gg"
      exact k1 _ (Same.refl _) (decide_eq_true c)
    walk_at "gg"
    refine g_exL (SqL.of (S5 _ _ e4)) ?_
    refine lc_filtI (SqL.of (S5 _ _ e4)) (by omega) (fun m => decide (hi < m)) (fun m H' Nx No hm S k1 k2 => ?_) fun D6 H6 n6 S6 e6 => ?_
    · walk_at "gg"
      refine ⟨rfl, ?_⟩
      walk_at "gg"
      refine g_meth (S _ _ (S5 _ _ (S04 _ _ hp))) (lf_no q (by decide)) ?_
      walk_at "gg"
      refine ⟨p, m, hi, rfl, ?_⟩
      walk_at "gg"
      refine g_ite (fun c => ?_) (fun c => k2 _ (Same.refl _) (decide_eq_false c))
      walk_at "gg"
      exact k1 _ (Same.refl _) (decide_eq_true c)
    have S46 := S5.trans S6
    have e5 := S6 _ _ e5
    walk_at "gx"
    refine g_cutE (fun v H' => v = oV (leftOf ks lo) ∧ Same H6 H') (fun Q' kq => ?_) ?_
    · walk_at "gg"
      refine g_ite (fun c => ?_) (fun c => ?_)
      · walk_at "gg"
        exact kq _ _ ⟨by unfold leftOf; rw [if_pos c], Same.refl _⟩
      · walk_at "gg"
        refine g_mkL (by walk_at "ln") fun l7 H7 n7 S7 e7 => ?_
        refine g_neI (SqL.of (S7 _ _ e5)) (ms := []) (SqL.of e7) ?_
        walk_at "gg"
        refine g_iteN (fun d => ?_) (fun d => ?_)
        · walk_at "gg"
          refine ⟨_, _, _, _, rfl, rfl, SqL.of (S7 _ _ e5), atI_neg1 (oV_last _ d), ?_⟩
          exact kq _ _ ⟨by unfold leftOf; rw [if_neg c], S7⟩
        · walk_at "gg"
          exact kq _ _ ⟨by unfold leftOf; rw [if_neg c, d]; rfl, S7⟩
    rintro _ H7 ⟨rfl, S7⟩
    walk_at "gx"
    refine g_cutE (fun v H' => v = oV (rightOf ks hi) ∧ Same H7 H') (fun Q' kq => ?_) ?_
    · walk_at "gg"
      refine g_ite (fun c => ?_) (fun c => ?_)
      · walk_at "gg"
        exact kq _ _ ⟨by unfold rightOf; rw [if_pos c], Same.refl _⟩
      · walk_at "gg"
        refine g_mkL (by walk_at "ln") fun l8 H8 n8 S8 e8 => ?_
        refine g_neI (SqL.of (S8 _ _ (S7 _ _ e6))) (ms := []) (SqL.of e8) ?_
        walk_at "gg"
        refine g_iteN (fun d => ?_) (fun d => ?_)
        · walk_at "gg"
          refine ⟨_, _, _, _, rfl, rfl, SqL.of (S8 _ _ (S7 _ _ e6)), atI_head (oV_head _ d), ?_⟩
          exact kq _ _ ⟨by unfold rightOf; rw [if_neg c], S8⟩
        · walk_at "gg"
          exact kq _ _ ⟨by unfold rightOf; rw [if_neg c, d]; rfl, S8⟩
    rintro _ H8 ⟨rfl, S8⟩
    walk_at "gg"
    refine g_mkT (by walk_at "ln") fun t9 H9 n9 S9 e9 => ?_
    exact k' t9 H9 (same_free ((S46.trans S7).trans S8) n9) (((S46.trans S7).trans S8).trans S9) e9
abbrev s_is_held : Stmt := top 9
abbrev N_is_held : List Str := ["found", "point", "left", "right", "holds_left", "holds_right"]
theorem sc_is_held : FnScope N_is_held ["found", "point"] (defScope s_is_held) := ⟨rfl, rfl, rfl, by decide +kernel, rfl, by decide +kernel, by decide +kernel⟩

theorem ok_held {f : Addr} {fd : FuncData} (D : Dn K mg "is_held" s_is_held ["found", "point"] f fd) : Cal P w K mg base 1 "is_held" spHeld [] := by
  refine cal_of D (D.fn.ok sc_is_held (fun vs H Q E h => ?_) (fun cdv A outer s H vs Q E hr h => ?_))
  · obtain ⟨t, l, r, hl, hr, x, rfl, _⟩ := h
    rfl
  · obtain ⟨t, l, r, hl, hr', x, rfl, ht, k⟩ := h
    refine ⟨_, (pss_cons (ps_asg (pv 0) (pg_tup (by rfl) (pgs_cons (pg_name (i := 2) sc_is_held.nd rfl (Or.inl rfl)) (pgs_cons (pg_name (i := 3) sc_is_held.nd rfl (Or.inl rfl)) (pgs_cons (pg_name (i := 4) sc_is_held.nd rfl (Or.inl rfl)) (pgs_cons (pg_name (i := 5) sc_is_held.nd rfl (Or.inl rfl)) pgs_nil))))))
    (pss_cons (ps_if (PW.pt (pw_and (pt_cmpR op_notN1 (pv 2) pe_non (nomark _)) (pw_and1 (PW.pt (pw_or (pt_cmpR op_lt (pv 1) (pv 2) (nomark _)) (pw_or1 (PW.pt (pw_and (pt_cmpR op_eq (pv 1) (pv 2) (nomark _)) (pw_and1 (pt_not (pt_val (pv 4)))))))))))) (pss_one (ps_ret pe_bl)) pss_nil)
    (pss_one (ps_ret (pe_or (pe_cmpR op_isN1 (pv 3) pe_non (nomark _)) (pe_or (pe_cmpR op_lt (pv 1) (pv 3) (nomark _)) (pe_one (pe_and (pe_cmpR op_eq (pv 1) (pv 3) (nomark _)) (pe_one (pv 5)))))))))), ?_⟩
    walk_at "gg"
    have e1 : ∀ a b : Int, decide (V.int a = V.int b) = decide (a = b) := fun a b => decide_eq_decide.mpr ⟨fun z => by injection z, fun z => by rw [z]⟩
    refine g_gtup (SqT.of ht) rfl ?_
    repeat (first | with_reducible refine g_gcons ?_ | with_reducible refine g_name ?_ | with_reducible refine g_gnil ?_ | with_reducible refine g_seq ?_)
    with_reducible refine g_ifS ?_
    refine g_cutT (fun b H' => H' = H ∧ b = !leftOk l hl x) (fun Q' kq => ?_) ?_
    · walk_at "gg"
      cases l with
      | none =>
        refine g_iteNF rfl ?_
        exact kq _ _ ⟨rfl, rfl⟩
      | some a =>
        refine g_iteNT nofun ?_
        walk_at "gg"
        refine g_ite (fun c => ?_) (fun c => ?_)
        · exact kq _ _ ⟨rfl, by simp [leftOk, c]⟩
        · walk_at "gg"
          rw [e1]
          refine g_ite (fun d => ?_) (fun d => ?_)
          · walk_at "gg"
            exact kq _ _ ⟨rfl, by simp [leftOk, c, d]⟩
          · exact kq _ _ ⟨rfl, by simp [leftOk, c, d]⟩
    rintro b H' ⟨rfl, rfl⟩
    unfold heldB at k
    cases lo : leftOk l hl x with
    | false =>
      rw [lo] at k
      refine g_ifT rfl ?_
      walk_at "gg"
      exact k
    | true =>
      rw [lo] at k
      refine g_ifF rfl ?_
      have k : Q (.bl (rightOk r hr' x)) H' := k
      walk_at "gg"
      cases r with
      | none =>
        refine g_iteT rfl ?_
        exact k
      | some b =>
        refine g_iteF nofun ?_
        walk_at "gg"
        refine g_ite (fun c => ?_) (fun c => ?_)
        · have e : rightOk (some b) hr' x = true := by simp [rightOk, c]
          rw [e] at k
          exact k
        · walk_at "gg"
          rw [e1]
          refine g_ite (fun d => ?_) (fun d => ?_)
          · walk_at "gg"
            have e : rightOk (some b) hr' x = hr' := by simp [rightOk, c, d]
            rw [e] at k
            exact k
          · have e : rightOk (some b) hr' x = false := by simp [rightOk, c, d]
            rw [e] at k
            exact k
abbrev s_in_reach : Stmt := top 10
abbrev N_in_reach : List Str := ["line", "low", "high", "inner", "point", "found"]
theorem sc_in_reach : FnScope N_in_reach ["line", "low", "high", "inner", "point"] (defScope s_in_reach) := ⟨rfl, rfl, rfl, by decide +kernel, rfl, by decide +kernel, by decide +kernel⟩

def spInR (C : Addr) : Sp := fun vs H Q _ => ∃ (p a : Addr) (ns ss : List Int) (lo hi x : Int), vs = [.ref p, .int lo, .int hi, .ref a, .int x] ∧ LineAt C H p (ns.map V.int) ∧ ns.Pairwise (· < ·) ∧ ns.length ≤ 500 ∧ H a = some (.lst (ss.map V.int)) ∧ ss.Sublist ns ∧ lo ≤ hi ∧
  ∀ H', Same H H' → Q (.bl (heldB (leftOf (keptOf ns ss) lo) (rightOf (keptOf ns ss) hi) (decide (lo ∈ keptOf ns ss)) (decide (hi ∈ keptOf ns ss)) x)) H'
theorem ok_inReach {f : Addr} {fd : FuncData} {C : Addr} (D : Dn K mg "in_reach" s_in_reach ["line", "low", "high", "inner", "point"] f fd) (c_reach : Cal P w K mg base 5 "reach" (spReach C) []) (d_need_point : Met P w K mg base 3 C "need_point" (spNeed C) []) (c_is_held : Cal P w K mg base 1 "is_held" spHeld []) : FnOk P w K mg base CX0 6 f fd ["line", "low", "high", "inner", "point"] (spInR C) := by
  refine D.fn.ok sc_in_reach (fun vs H Q E h => ?_) (fun cdv A outer s H vs Q E hr h => ?_)
  · obtain ⟨p, a, ns, ss, lo, hi, x, rfl, _⟩ := h
    rfl
  · obtain ⟨p, a, ns, ss, lo, hi, x, rfl, l, up, hl, ha, sub, le, k⟩ := h
    obtain ⟨dx, q, hp, hq⟩ := id l
    refine ⟨_, (pss_cons (ps_set (i := 5) sc_in_reach.nd rfl (Or.inl rfl) (pe_c c_reach hr (by decide) (by rfl) (pa_cons (pv 0) (pa_cons (pv 1) (pa_cons (pv 2) (pa_cons (pv 3) pa_nil))))))
    (pss_cons (ps_expr (pe_mt d_need_point hr (by decide) (pv 0) (pa_cons (pv 4) pa_nil)))
    (pss_one (ps_ret (pe_c c_is_held hr (by decide) (by rfl) (pa_cons (pv 5) (pa_cons (pv 4) pa_nil))))))), ?_⟩
    walk_at "gg"
    refine ⟨p, a, ns, ss, lo, hi, rfl, l, up, hl, ha, sub, le, fun t H1 n1 S1 e1 => ?_⟩
    walk_at "gg"
    refine g_meth (S1 _ _ hp) (lf_no q (by decide)) ?_
    walk_at "gg"
    refine ⟨p, dx, q, x, rfl, S1 _ _ hp, ?_⟩
    walk_at "gg"
    exact ⟨t, _, _, _, _, x, rfl, e1, k _ S1⟩
end
end Gk

namespace Gk
open PySem L2 Gx
open C8 (Cal Met Mak pe_c pe_mt pe_mt0 pe_mk pe_gc)
local macro_rules | `(tactic| walk_at "g") => `(tactic| (first
  | with_reducible refine g_seq ?_ | with_reducible refine g_asg ?_ | ((with_reducible show tVar _ _ _ _); refine g_var rfl ?_) | with_reducible refine g_c ?_ | with_reducible refine g_name ?_ | with_reducible refine g_op ?_ | with_reducible refine g_I0 ?_
  | with_reducible refine g_cons ?_ | with_reducible refine g_nil ?_ | with_reducible refine g_exbl ?_ | with_reducible refine g_exint ?_ | with_reducible refine g_test ?_ | with_reducible refine g_B ?_ | with_reducible refine g_ifS ?_ | with_reducible refine g_ret ?_ | with_reducible refine g_retN ?_ | with_reducible refine g_next ?_
  | with_reducible refine g_CB ?_ | with_reducible refine g_sub ?_ | with_reducible refine g_drop ?_ | with_reducible refine g_not ?_ | with_reducible refine g_and ?_ | with_reducible refine g_or ?_ | with_reducible refine g_andV ?_ | with_reducible refine g_orV ?_ | with_reducible refine g_notV ?_ | with_reducible refine g_ifE ?_ | with_reducible refine g_isN ?_
  | with_reducible refine g_par ?_ | with_reducible refine g_expar ?_ | with_reducible refine g_chain ?_ | with_reducible refine g_un ?_ | with_reducible refine g_U ?_ | with_reducible refine g_bits ?_ | ((with_reducible show rEq _ _ _ _); refine g_eq rfl ?_) | ((with_reducible show rNe _ _ _ _); refine g_ne rfl ?_)
  | with_reducible refine g_for ?_ | with_reducible refine g_iRng1 ?_ | with_reducible refine g_iRng2 ?_ | with_reducible refine g_iList ?_ | with_reducible refine g_iTup ?_
  | ((with_reducible refine g_Imul ?hc ?_); (case hc => (first | (refine Or.inl ⟨?_, ?_⟩ <;> first | decide | omega) | (refine Or.inr ⟨?_, ?_⟩ <;> first | decide | omega))))
  | ((with_reducible refine g_Idiv ?hc ?_); (case hc => (first | (exact ⟨by decide, by decide⟩) | assumption)))
  | ((with_reducible refine g_Imod ?hc ?_); (case hc => (first | assumption | omega | decide)))
  | ((with_reducible refine g_exR1 ?hlo ?hhi ?_); (case hlo => omega); (case hhi => omega))
  | ((with_reducible refine g_exR2 ?hb ?_); (case hb => omega))
  | with_reducible refine g_lst ?_ | with_reducible refine g_tup ?_ | with_reducible refine g_call ?_ | with_reducible refine g_BM ?_ | with_reducible refine g_BM0 ?_
  | with_reducible refine g_intB ?_ | with_reducible refine g_lc ?_ | with_reducible refine g_yes ?_ | with_reducible refine g_iZip ?_ | with_reducible refine g_sl ?_ | with_reducible refine g_noP ?_ | with_reducible refine g_part ?_ | with_reducible refine g_gcons ?_ | with_reducible refine g_gnil ?_
  | with_reducible refine g_tfld ?_ | with_reducible refine g_tmeth ?_ | with_reducible refine g_tmake ?_ | with_reducible refine g_sfld ?_ | with_reducible refine g_tprop ?_ | with_reducible refine g_tstar ?_ | with_reducible refine g_tmethK ?_ | with_reducible refine g_isN1 ?_ | with_reducible refine g_notN1 ?_))
local macro_rules | `(tactic| walk_at "gs1") => `(tactic| (first
  | with_reducible refine g_seq ?_ | with_reducible refine g_asg ?_ | ((with_reducible show tVar _ _ _ _); refine g_var rfl ?_) | with_reducible refine g_c ?_ | with_reducible refine g_name ?_ | with_reducible refine g_op ?_ | with_reducible refine g_I0 ?_
  | with_reducible refine g_cons ?_ | with_reducible refine g_nil ?_ | with_reducible refine g_exbl ?_ | with_reducible refine g_exint ?_ | with_reducible refine g_test ?_ | with_reducible refine g_B ?_ | with_reducible refine g_ifS ?_ | with_reducible refine g_retN ?_ | with_reducible refine g_next ?_
  | with_reducible refine g_CB ?_ | with_reducible refine g_sub ?_ | with_reducible refine g_drop ?_ | with_reducible refine g_not ?_ | with_reducible refine g_and ?_ | with_reducible refine g_or ?_ | with_reducible refine g_andV ?_ | with_reducible refine g_orV ?_ | with_reducible refine g_notV ?_ | with_reducible refine g_ifE ?_ | with_reducible refine g_isN ?_
  | with_reducible refine g_par ?_ | with_reducible refine g_expar ?_ | with_reducible refine g_chain ?_ | with_reducible refine g_un ?_ | with_reducible refine g_U ?_ | with_reducible refine g_bits ?_ | ((with_reducible show rEq _ _ _ _); refine g_eq rfl ?_) | ((with_reducible show rNe _ _ _ _); refine g_ne rfl ?_)
  | with_reducible refine g_for ?_ | with_reducible refine g_iRng1 ?_ | with_reducible refine g_iRng2 ?_ | with_reducible refine g_iList ?_ | with_reducible refine g_iTup ?_
  | ((with_reducible refine g_Imul ?hc ?_); (case hc => (first | (refine Or.inl ⟨?_, ?_⟩ <;> first | decide | omega) | (refine Or.inr ⟨?_, ?_⟩ <;> first | decide | omega))))
  | ((with_reducible refine g_Idiv ?hc ?_); (case hc => (first | (exact ⟨by decide, by decide⟩) | assumption)))
  | ((with_reducible refine g_Imod ?hc ?_); (case hc => (first | assumption | omega | decide)))
  | ((with_reducible refine g_exR1 ?hlo ?hhi ?_); (case hlo => omega); (case hhi => omega))
  | ((with_reducible refine g_exR2 ?hb ?_); (case hb => omega))
  | with_reducible refine g_lst ?_ | with_reducible refine g_tup ?_ | with_reducible refine g_call ?_ | with_reducible refine g_BM ?_ | with_reducible refine g_BM0 ?_
  | with_reducible refine g_intB ?_ | with_reducible refine g_lc ?_ | with_reducible refine g_yes ?_ | with_reducible refine g_iZip ?_ | with_reducible refine g_sl ?_ | with_reducible refine g_noP ?_ | with_reducible refine g_part ?_ | with_reducible refine g_gcons ?_ | with_reducible refine g_gnil ?_
  | with_reducible refine g_tfld ?_ | with_reducible refine g_tmeth ?_ | with_reducible refine g_tmake ?_ | with_reducible refine g_sfld ?_ | with_reducible refine g_tprop ?_ | with_reducible refine g_tstar ?_ | with_reducible refine g_tmethK ?_ | with_reducible refine g_isN1 ?_ | with_reducible refine g_notN1 ?_))
local macro_rules | `(tactic| walk_at "gx1") => `(tactic| (first
  | with_reducible refine g_seq ?_ | with_reducible refine g_asg ?_ | ((with_reducible show tVar _ _ _ _); refine g_var rfl ?_) | with_reducible refine g_c ?_ | with_reducible refine g_name ?_ | with_reducible refine g_op ?_ | with_reducible refine g_I0 ?_
  | with_reducible refine g_cons ?_ | with_reducible refine g_nil ?_ | with_reducible refine g_exbl ?_ | with_reducible refine g_exint ?_ | with_reducible refine g_test ?_ | with_reducible refine g_B ?_ | with_reducible refine g_ifS ?_ | with_reducible refine g_retN ?_ | with_reducible refine g_next ?_
  | with_reducible refine g_CB ?_ | with_reducible refine g_sub ?_ | with_reducible refine g_drop ?_ | with_reducible refine g_not ?_ | with_reducible refine g_and ?_ | with_reducible refine g_or ?_ | with_reducible refine g_andV ?_ | with_reducible refine g_orV ?_ | with_reducible refine g_notV ?_ | with_reducible refine g_ret ?_ | with_reducible refine g_isN ?_
  | with_reducible refine g_par ?_ | with_reducible refine g_expar ?_ | with_reducible refine g_chain ?_ | with_reducible refine g_un ?_ | with_reducible refine g_U ?_ | with_reducible refine g_bits ?_ | ((with_reducible show rEq _ _ _ _); refine g_eq rfl ?_) | ((with_reducible show rNe _ _ _ _); refine g_ne rfl ?_)
  | with_reducible refine g_for ?_ | with_reducible refine g_iRng1 ?_ | with_reducible refine g_iRng2 ?_ | with_reducible refine g_iList ?_ | with_reducible refine g_iTup ?_
  | ((with_reducible refine g_Imul ?hc ?_); (case hc => (first | (refine Or.inl ⟨?_, ?_⟩ <;> first | decide | omega) | (refine Or.inr ⟨?_, ?_⟩ <;> first | decide | omega))))
  | ((with_reducible refine g_Idiv ?hc ?_); (case hc => (first | (exact ⟨by decide, by decide⟩) | assumption)))
  | ((with_reducible refine g_Imod ?hc ?_); (case hc => (first | assumption | omega | decide)))
  | ((with_reducible refine g_exR1 ?hlo ?hhi ?_); (case hlo => omega); (case hhi => omega))
  | ((with_reducible refine g_exR2 ?hb ?_); (case hb => omega))
  | with_reducible refine g_lst ?_ | with_reducible refine g_tup ?_ | with_reducible refine g_call ?_ | with_reducible refine g_BM ?_ | with_reducible refine g_BM0 ?_
  | with_reducible refine g_intB ?_ | with_reducible refine g_lc ?_ | with_reducible refine g_yes ?_ | with_reducible refine g_iZip ?_ | with_reducible refine g_sl ?_ | with_reducible refine g_noP ?_ | with_reducible refine g_part ?_ | with_reducible refine g_gcons ?_ | with_reducible refine g_gnil ?_
  | with_reducible refine g_tfld ?_ | with_reducible refine g_tmeth ?_ | with_reducible refine g_tmake ?_ | with_reducible refine g_sfld ?_ | with_reducible refine g_tprop ?_ | with_reducible refine g_tstar ?_ | with_reducible refine g_tmethK ?_ | with_reducible refine g_isN1 ?_ | with_reducible refine g_notN1 ?_))
local macro_rules | `(tactic| walk_at "hp") => `(tactic| (first | assumption | exact upd_same | (refine same_get (by assumption) ?_; walk_at "hp")))
local macro_rules | `(tactic| walk_at "sm") => `(tactic| (first | assumption | exact Same.refl _ | (refine Same.trans ?ha (by assumption); walk_at "sm")))
local macro_rules | `(tactic| walk_at "nn") => `(tactic| (first | assumption | (refine same_free (by assumption) ?_; walk_at "nn")))
local macro_rules | `(tactic| walk_at "sb") => `(tactic| (first | decide | (refine small_bits ?_ ?_ <;> omega)))
local macro_rules | `(tactic| walk_at "ln") => `(tactic| (simp only [List.length_cons, List.length_nil]; omega))
local macro_rules | `(tactic| walk_at "gg") => `(tactic| (repeat walk_at "g"))
local macro_rules | `(tactic| walk_at "gs") => `(tactic| (repeat walk_at "gs1"))
local macro_rules | `(tactic| walk_at "gx") => `(tactic| (repeat walk_at "gx1"))

section
variable {P : Program} {w : World} {K : PySem.W.Frag} {mg : Str → Option Value} {base : Heap} {X : Cx}
theorem scal_o (o : Option Int) (b : Int) : scal (oV o) (.int b) = true := by cases o <;> rfl
theorem g_eqO {o : Option Int} {b : Int} {H : Hp} {Q : VK} (q : Q (.bl (decide (oV o = V.int b))) H) : rEq (oV o) (.int b) H Q := ⟨scal_o o b, q⟩
def spSome : Sp := fun vs H Q _ => ∃ (f a : Addr) (ns : List Int), vs = [.ref f, .ref a] ∧ H f = some (FlowO f) ∧ H a = some (.lst (ns.map V.int)) ∧ ns.length ≤ 500 ∧
  ∀ (ss : List Int) (p : Addr) (H' : Hp), ss.Sublist ns → H p = none → Same H H' → H' p = some (.lst (ss.map V.int)) → Q (.ref p) H'
abbrev s_inner : Stmt := top 22
abbrev N_inner : List Str := ["_law_flow_here", "_law_rows", "_law_way", "_law_one"]
theorem sc_inner : FnScope N_inner ["_law_flow_here", "_law_rows"] (defScope s_inner) := ⟨rfl, rfl, rfl, by decide +kernel, rfl, by decide +kernel, by decide +kernel⟩

theorem ok_some {f : Addr} {fd : FuncData} (D : Dn K mg "_law_inner" s_inner ["_law_flow_here", "_law_rows"] f fd) (T : Bt mg) (c__law_dip : Cal P w K mg base 1 "_law_dip" spDip []) : Cal P w K mg base 2 "_law_inner" spSome [] := by
  refine cal_of D (D.fn.ok sc_inner (fun vs H Q E h => ?_) (fun cdv A outer s H vs Q E hr h => ?_))
  · obtain ⟨f, a, ns, rfl, _⟩ := h
    rfl
  · obtain ⟨f, a, ns, rfl, hf, ha, hl, k⟩ := h
    refine ⟨_, (pss_cons (ps_set (i := 2) sc_inner.nd rfl (Or.inr rfl) (pe_c c__law_dip hr (by decide) (by rfl) (pa_cons (pv 0) (pa_cons pe_int pa_nil))))
    (pss_one (ps_ret (pe_lc (own := [("_law_one", 3)]) (g := gName 3) rfl sc_inner.nd (pi_list (pv 1)) (blkOk_by (own := [("_law_one", 3)]) (N := N_inner) (sc := defScope s_inner) (by decide +kernel)) (fun _ _ _ _ _ => pg_name (i := 3) sc_inner.nd rfl (Or.inl rfl)) (fun _ _ _ _ _ => (pts_one (PW.pt (pw_and (pt_cmpR op_gt (pv 2) pe_int (nomark _)) (pw_and1 (pt_cmpR op_eq (pe_c c__law_dip hr (by decide) (by rfl) (pa_cons (pv 0) (pa_cons (pe_ix (show IxR _ (rIxL K) from ix_list) (pe_lst (pa_cons pe_int (pa_cons pe_int (pa_cons pe_int (pa_cons pe_int pa_nil))))) (pv 2) (fun _ _ => rfl)) pa_nil))) pe_int (nomark _))))))) (fun _ _ _ _ _ => (pv 3)))))), ?_⟩
    walk_at "gg"
    refine g_dip hf (by decide) (by walk_at "sb") fun r1 H1 a1 b1 S1 => ?_
    walk_at "gg"
    refine g_exL (SqL.of (S1 _ _ ha)) ?_
    refine lc_someI (SqL.of (S1 _ _ ha)) (by omega) (fun m H' Nx No hm S k1 k2 => ?_) fun D ss H2 n2 S2 e2 sub => ?_
    · walk_at "gg"
      refine ⟨rfl, ?_⟩
      walk_at "gg"
      refine g_ite (fun c => ?_) (fun c => k2 _ (Same.refl _))
      walk_at "gg"
      refine g_mkL (by walk_at "ln") fun l3 H3 n3 S3 e3 => ?_
      walk_at "gg"
      refine g_ixI (fun n => 0 < n ∧ n ≤ 5) e3 (by omega) (by simp only [List.length_cons, List.length_nil]; omega) (all_cons ⟨_, rfl, by omega⟩ (all_cons ⟨_, rfl, by omega⟩ (all_cons ⟨_, rfl, by omega⟩ (all_cons ⟨_, rfl, by omega⟩ all_nil)))) fun d ⟨d1, d2⟩ => ?_
      walk_at "gg"
      refine g_dip (S3 _ _ (S _ _ (S1 _ _ hf))) (by omega) (by walk_at "sb") fun r4 H4 a4 b4 S4 => ?_
      walk_at "gg"
      split
      · walk_at "gg"
        exact k1 _ (S3.trans S4)
      · exact k2 _ (S3.trans S4)
    · exact k ss D H2 sub (same_free S1 n2) (S1.trans S2) e2
abbrev s_stepped : Stmt := top 25
abbrev N_stepped : List Str := ["_law_rows", "_law_begin_here", "_law_by", "_law_turn"]
theorem sc_stepped : FnScope N_stepped ["_law_rows", "_law_begin_here", "_law_by"] (defScope s_stepped) := ⟨rfl, rfl, rfl, by decide +kernel, rfl, by decide +kernel, by decide +kernel⟩

def spStep : Sp := fun vs H Q _ => ∃ (a : Addr) (ns : List Int) (b y : Int), vs = [.ref a, .int b, .int y] ∧ H a = some (.lst (ns.map V.int)) ∧ ns.length ≤ 500 ∧ -1 ≤ y ∧ y ≤ 1 ∧
  ∀ (o : Option Int) (z : Bool) (t : Addr) (H' : Hp), StepP ns b y o z → H t = none → Same H H' → H' t = some (.tup [oV o, .bl z]) → Q (.ref t) H'
theorem ok_step {f : Addr} {fd : FuncData} (D : Dn K mg "_law_stepped" s_stepped ["_law_rows", "_law_begin_here", "_law_by"] f fd) (T : Bt mg) : Cal P w K mg base 1 "_law_stepped" spStep [] := by
  refine cal_of D (D.fn.ok sc_stepped (fun vs H Q E h => ?_) (fun cdv A outer s H vs Q E hr h => ?_))
  · obtain ⟨a, ns, b, y, rfl, _⟩ := h
    rfl
  · obtain ⟨a, ns, b, y, rfl, ha, hl, y1, y2, k⟩ := h
    refine ⟨_, (pss_cons (ps_for PassesOwn.never rfl (pi_range1 (by rfl) T.n_range (pa_cons pe_int pa_nil)) (pg_name (i := 3) sc_stepped.nd rfl (Or.inl rfl)) (pss_one (ps_if (pt_cmpR op_in_seq (pe_op op_add (pv 1) (pe_op op_mul (pv 2) (pv 3))) (pv 0) (by rfl)) (pss_one (ps_ret (pe_tup (pa_cons (pe_op op_add (pv 1) (pe_op op_mul (pv 2) (pv 3))) (pa_cons (pe_cmpR op_eq (pv 3) pe_int (nomark _)) pa_nil))))) pss_nil)))
    (pss_one (ps_ret (pe_tup (pa_cons pe_non (pa_cons pe_bl pa_nil)))))), ?_⟩
    walk_at "gg"
    refine fw_range (fun i σ H' => ∃ v : Option V, σ = [some (.ref a), some (.int b), some (.int y), v] ∧ H' = H ∧ ∀ s : Nat, s < i → ¬ b + y * (s : Int) ∈ ns) ⟨none, rfl, rfl, fun s h => absurd h (Nat.not_lt_zero s)⟩ ?_ ?_
    · rintro i σ H' hi ⟨v, rfl, rfl, no⟩
      rw [show (0 : Int) + (i : Int) = (i : Int) by omega]
      walk_at "gg"
      refine g_inI (SqL.of ha) ?_
      walk_at "gg"
      refine g_ite (fun c => ?_) (fun c => ?_)
      · walk_at "gg"
        refine g_mkT (by walk_at "ln") fun t1 H1 n1 S1 e1 => ?_
        refine k (some (b + y * (i : Int))) (decide (i = 0)) t1 H1 (.inl ⟨i, by omega, rfl, c, no, rfl⟩) n1 S1 ?_
        rw [e1]
        have : decide (V.int (i : Int) = V.int 0) = decide (i = 0) := decide_eq_decide.mpr ⟨fun z => by injection z with z; omega, fun z => by rw [z]; rfl⟩
        rw [this]
      · walk_at "gg"
        refine ⟨_, rfl, rfl, fun s h => ?_⟩
        rcases Nat.lt_or_ge s i with l | l
        · exact no s l
        · rw [show s = i by omega]
          exact c
    · rintro σ H' ⟨v, rfl, rfl, no⟩
      walk_at "gg"
      refine g_mkT (by walk_at "ln") fun t1 H1 n1 S1 e1 => ?_
      exact k none false t1 H1 (.inr ⟨rfl, rfl, no⟩) n1 S1 e1
abbrev s_nearest : Stmt := top 26
abbrev N_nearest : List Str := ["_law_rows", "_law_first", "_law_last", "_law_less", "_law_more", "_law_left", "_law_right", "_law_one"]
theorem sc_nearest : FnScope N_nearest ["_law_rows", "_law_first", "_law_last"] (defScope s_nearest) := ⟨rfl, rfl, rfl, by decide +kernel, rfl, by decide +kernel, by decide +kernel⟩

def spNearest : Sp := fun vs H Q _ => ∃ (a : Addr) (ns : List Int) (lo hi : Int), vs = [.ref a, .int lo, .int hi] ∧ H a = some (.lst (ns.map V.int)) ∧ ns.length ≤ 500 ∧ ns.Pairwise (· < ·) ∧
  ∀ (t : Addr) (H' : Hp), H t = none → Same H H' → H' t = some (.tup [oV (leftOf ns lo), oV (rightOf ns hi), .bl (decide (lo ∈ ns)), .bl (decide (hi ∈ ns))]) → Q (.ref t) H'
theorem ok_nearest {f : Addr} {fd : FuncData} (D : Dn K mg "_law_nearest" s_nearest ["_law_rows", "_law_first", "_law_last"] f fd) (T : Bt mg) : Cal P w K mg base 1 "_law_nearest" spNearest [] := by
  refine cal_of D (D.fn.ok sc_nearest (fun vs H Q E h => ?_) (fun cdv A outer s H vs Q E hr h => ?_))
  · obtain ⟨a, ns, lo, hi, rfl, _⟩ := h
    rfl
  · obtain ⟨a, ns, lo, hi, rfl, ha, hl, up, k⟩ := h
    refine ⟨_, (pss_cons (ps_par (i := 3) (j := 4) (by rfl) sc_nearest.nd rfl rfl (by decide) rfl rfl (pa_cons (pe_lc (own := [("_law_one", 7)]) (g := gName 7) rfl sc_nearest.nd (pi_list (pv 0)) (blkOk_by (own := [("_law_one", 7)]) (N := N_nearest) (sc := defScope s_nearest) (by decide +kernel)) (fun _ _ _ _ _ => pg_name (i := 7) sc_nearest.nd rfl (Or.inl rfl)) (fun _ _ _ _ _ => (pts_one (pt_cmpR op_le (pv 7) (pv 1) (nomark _)))) (fun _ _ _ _ _ => (pv 7))) (pa_cons (pe_lc (own := [("_law_one", 7)]) (g := gName 7) rfl sc_nearest.nd (pi_list (pv 0)) (blkOk_by (own := [("_law_one", 7)]) (N := N_nearest) (sc := defScope s_nearest) (by decide +kernel)) (fun _ _ _ _ _ => pg_name (i := 7) sc_nearest.nd rfl (Or.inl rfl)) (fun _ _ _ _ _ => (pts_one (pt_cmpR op_ge (pv 7) (pv 2) (nomark _)))) (fun _ _ _ _ _ => (pv 7))) pa_nil)) (by rfl))
    (pss_cons (ps_par (i := 5) (j := 6) (by rfl) sc_nearest.nd rfl rfl (by decide) rfl rfl (pa_cons (pe_ifExp (pt_cmpR (op_neD hr.units) (pv 3) (pe_lst pa_nil) (nomark _)) (pe_ix ix_list (pv 3) (pe_un un_neg pe_int) (fun _ _ => rfl)) pe_non) (pa_cons (pe_ifExp (pt_cmpR (op_neD hr.units) (pv 4) (pe_lst pa_nil) (nomark _)) (pe_ix ix_list (pv 4) pe_int (fun _ _ => rfl)) pe_non) pa_nil)) (by rfl))
    (pss_one (ps_ret (pe_tup (pa_cons (pv 5) (pa_cons (pv 6) (pa_cons (pe_and (pe_cmpR op_eq (pv 5) (pv 1) (nomark _)) (pe_one (pe_cmpR (op_neD hr.units) (pv 3) (pe_lst pa_nil) (nomark _)))) (pa_cons (pe_and (pe_cmpR op_eq (pv 6) (pv 2) (nomark _)) (pe_one (pe_cmpR (op_neD hr.units) (pv 4) (pe_lst pa_nil) (nomark _)))) pa_nil))))))))), ?_⟩
    walk_at "gg"
    refine g_exL (SqL.of ha) ?_
    refine lc_filtI (SqL.of ha) (by omega) (fun n => decide (n ≤ lo)) (fun m H' Nx No hm S k1 k2 => ?_) fun D1 H1 n1 S1 e1 => ?_
    · walk_at "gg"
      refine ⟨rfl, ?_⟩
      walk_at "gg"
      refine g_ite (fun c => ?_) (fun c => k2 _ (Same.refl _) (decide_eq_false c))
      walk_at "gg"
      exact k1 _ (Same.refl _) (decide_eq_true c)
    walk_at "gg"
    refine g_exL (SqL.of (S1 _ _ ha)) ?_
    refine lc_filtI (SqL.of (S1 _ _ ha)) (by omega) (fun n => decide (hi ≤ n)) (fun m H' Nx No hm S k1 k2 => ?_) fun D2 H2 n2 S2 e2 => ?_
    · walk_at "gg"
      refine ⟨rfl, ?_⟩
      walk_at "gg"
      refine g_ite (fun c => ?_) (fun c => k2 _ (Same.refl _) (decide_eq_false c))
      walk_at "gg"
      exact k1 _ (Same.refl _) (decide_eq_true c)
    have e1 := S2 _ _ e1
    obtain ⟨nl, nl2⟩ := near_left up lo
    obtain ⟨nr, nr2⟩ := near_right up hi
    change H2 D1 = some (.lst ((lessOf ns lo).map V.int)) at e1
    change H2 D2 = some (.lst ((moreOf ns hi).map V.int)) at e2
    rw [← nl] at k
    rw [← nr] at k
    have k : ∀ (t : Addr) (H' : Hp), H2 t = none → Same H2 H' → H' t = some (.tup [oV (lessOf ns lo).getLast?, oV (moreOf ns hi).head?, .bl (decide (lo ∈ ns)), .bl (decide (hi ∈ ns))]) → Q (.ref t) H' := fun t H' n S e => k t H' (same_free (S1.trans S2) n) ((S1.trans S2).trans S) e
    generalize lessOf ns lo = ls at k nl2 e1
    generalize moreOf ns hi = ms at k nr2 e2
    rw [← nl2, ← nr2] at k
    walk_at "gx"
    refine g_cutE (fun v H' => v = oV ls.getLast? ∧ Same H2 H') (fun Q' kq => ?_) ?_
    · walk_at "gg"
      refine g_mkL (by walk_at "ln") fun l7 H7 n7 S7 e7 => ?_
      refine g_neI (SqL.of (S7 _ _ e1)) (ms := []) (SqL.of e7) ?_
      walk_at "gg"
      refine g_iteN (fun d => ?_) (fun d => ?_)
      · walk_at "gg"
        refine ⟨_, _, _, _, rfl, rfl, SqL.of (S7 _ _ e1), atI_neg1 (oV_last _ d), ?_⟩
        exact kq _ _ ⟨rfl, S7⟩
      · walk_at "gg"
        exact kq _ _ ⟨by rw [d]; rfl, S7⟩
    rintro _ H7 ⟨rfl, S7⟩
    walk_at "gx"
    refine g_cutE (fun v H' => v = oV ms.head? ∧ Same H7 H') (fun Q' kq => ?_) ?_
    · walk_at "gg"
      refine g_mkL (by walk_at "ln") fun l8 H8 n8 S8 e8 => ?_
      refine g_neI (SqL.of (S8 _ _ (S7 _ _ e2))) (ms := []) (SqL.of e8) ?_
      walk_at "gg"
      refine g_iteN (fun d => ?_) (fun d => ?_)
      · walk_at "gg"
        refine ⟨_, _, _, _, rfl, rfl, SqL.of (S8 _ _ (S7 _ _ e2)), atI_head (oV_head _ d), ?_⟩
        exact kq _ _ ⟨rfl, S8⟩
      · walk_at "gg"
        exact kq _ _ ⟨by rw [d]; rfl, S8⟩
    rintro _ H8 ⟨rfl, S8⟩
    have S28 := S7.trans S8
    have fin : ∀ (b1 b2 : Bool) (H' : Hp), Same H2 H' → b1 = (decide (oV ls.getLast? = V.int lo) && decide (ls ≠ [])) → b2 = (decide (oV ms.head? = V.int hi) && decide (ms ≠ [])) → MkT [oV ls.getLast?, oV ms.head?, .bl b1, .bl b2] H' Q := by
      intro b1 b2 H' S eb1 eb2
      refine g_mkT (by walk_at "ln") fun t9 H9 n9 S9 e9 => ?_
      rw [eb1, eb2] at e9
      exact k t9 H9 (same_free S n9) (S.trans S9) e9
    walk_at "gg"
    refine g_eqO ?_
    walk_at "gg"
    refine g_ite (fun c1 => ?_) (fun c1 => ?_)
    · walk_at "gg"
      refine g_mkL (by walk_at "ln") fun l9 H9 n9 S9 e9 => ?_
      refine g_neI (SqL.of (S9 _ _ (S28 _ _ e1))) (ms := []) (SqL.of e9) ?_
      walk_at "gg"
      refine g_eqO ?_
      walk_at "gg"
      refine g_ite (fun c2 => ?_) (fun c2 => ?_)
      · walk_at "gg"
        refine g_mkL (by walk_at "ln") fun l10 H10 n10 S10 e10 => ?_
        refine g_neI (SqL.of (S10 _ _ (S9 _ _ (S28 _ _ e2)))) (ms := []) (SqL.of e10) ?_
        exact fin _ _ H10 ((S28.trans S9).trans S10) (by simp [c1]) (by simp [c2])
      · exact fin _ _ H9 (S28.trans S9) (by simp [c1]) (by simp [c2])
    · walk_at "gg"
      refine g_eqO ?_
      walk_at "gg"
      refine g_ite (fun c2 => ?_) (fun c2 => ?_)
      · walk_at "gg"
        refine g_mkL (by walk_at "ln") fun l10 H10 n10 S10 e10 => ?_
        refine g_neI (SqL.of (S10 _ _ (S28 _ _ e2))) (ms := []) (SqL.of e10) ?_
        exact fin _ _ H10 (S28.trans S10) (by simp [c1]) (by simp [c2])
      · exact fin _ _ H8 S28 (by simp [c1]) (by simp [c2])
end
end Gk

namespace Gk
open PySem L2 Gx
open C8 (Cal Met Mak pe_c pe_mt pe_mt0 pe_mk pe_gc)
local macro_rules | `(tactic| walk_at "g") => `(tactic| (first
  | with_reducible refine g_seq ?_ | with_reducible refine g_asg ?_ | ((with_reducible show tVar _ _ _ _); refine g_var rfl ?_) | with_reducible refine g_c ?_ | with_reducible refine g_name ?_ | with_reducible refine g_op ?_ | with_reducible refine g_I0 ?_
  | with_reducible refine g_cons ?_ | with_reducible refine g_nil ?_ | with_reducible refine g_exbl ?_ | with_reducible refine g_exint ?_ | with_reducible refine g_test ?_ | with_reducible refine g_B ?_ | with_reducible refine g_ifS ?_ | with_reducible refine g_ret ?_ | with_reducible refine g_retN ?_ | with_reducible refine g_next ?_
  | with_reducible refine g_CB ?_ | with_reducible refine g_sub ?_ | with_reducible refine g_drop ?_ | with_reducible refine g_not ?_ | with_reducible refine g_and ?_ | with_reducible refine g_or ?_ | with_reducible refine g_andV ?_ | with_reducible refine g_orV ?_ | with_reducible refine g_notV ?_ | with_reducible refine g_ifE ?_ | with_reducible refine g_isN ?_
  | with_reducible refine g_par ?_ | with_reducible refine g_expar ?_ | with_reducible refine g_chain ?_ | with_reducible refine g_un ?_ | with_reducible refine g_U ?_ | with_reducible refine g_bits ?_ | ((with_reducible show rEq _ _ _ _); refine g_eq rfl ?_) | ((with_reducible show rNe _ _ _ _); refine g_ne rfl ?_)
  | with_reducible refine g_for ?_ | with_reducible refine g_iRng1 ?_ | with_reducible refine g_iRng2 ?_ | with_reducible refine g_iList ?_ | with_reducible refine g_iTup ?_
  | ((with_reducible refine g_Imul ?hc ?_); (case hc => (first | (refine Or.inl ⟨?_, ?_⟩ <;> first | decide | omega) | (refine Or.inr ⟨?_, ?_⟩ <;> first | decide | omega))))
  | ((with_reducible refine g_Idiv ?hc ?_); (case hc => (first | (exact ⟨by decide, by decide⟩) | assumption)))
  | ((with_reducible refine g_Imod ?hc ?_); (case hc => (first | assumption | omega | decide)))
  | ((with_reducible refine g_exR1 ?hlo ?hhi ?_); (case hlo => omega); (case hhi => omega))
  | ((with_reducible refine g_exR2 ?hb ?_); (case hb => omega))
  | with_reducible refine g_lst ?_ | with_reducible refine g_tup ?_ | with_reducible refine g_call ?_ | with_reducible refine g_BM ?_ | with_reducible refine g_BM0 ?_
  | with_reducible refine g_intB ?_ | with_reducible refine g_lc ?_ | with_reducible refine g_yes ?_ | with_reducible refine g_iZip ?_ | with_reducible refine g_sl ?_ | with_reducible refine g_noP ?_ | with_reducible refine g_part ?_ | with_reducible refine g_gcons ?_ | with_reducible refine g_gnil ?_
  | with_reducible refine g_tfld ?_ | with_reducible refine g_tmeth ?_ | with_reducible refine g_tmake ?_ | with_reducible refine g_sfld ?_ | with_reducible refine g_tprop ?_ | with_reducible refine g_tstar ?_ | with_reducible refine g_tmethK ?_ | with_reducible refine g_isN1 ?_ | with_reducible refine g_notN1 ?_))
local macro_rules | `(tactic| walk_at "gs1") => `(tactic| (first
  | with_reducible refine g_seq ?_ | with_reducible refine g_asg ?_ | ((with_reducible show tVar _ _ _ _); refine g_var rfl ?_) | with_reducible refine g_c ?_ | with_reducible refine g_name ?_ | with_reducible refine g_op ?_ | with_reducible refine g_I0 ?_
  | with_reducible refine g_cons ?_ | with_reducible refine g_nil ?_ | with_reducible refine g_exbl ?_ | with_reducible refine g_exint ?_ | with_reducible refine g_test ?_ | with_reducible refine g_B ?_ | with_reducible refine g_ifS ?_ | with_reducible refine g_retN ?_ | with_reducible refine g_next ?_
  | with_reducible refine g_CB ?_ | with_reducible refine g_sub ?_ | with_reducible refine g_drop ?_ | with_reducible refine g_not ?_ | with_reducible refine g_and ?_ | with_reducible refine g_or ?_ | with_reducible refine g_andV ?_ | with_reducible refine g_orV ?_ | with_reducible refine g_notV ?_ | with_reducible refine g_ifE ?_ | with_reducible refine g_isN ?_
  | with_reducible refine g_par ?_ | with_reducible refine g_expar ?_ | with_reducible refine g_chain ?_ | with_reducible refine g_un ?_ | with_reducible refine g_U ?_ | with_reducible refine g_bits ?_ | ((with_reducible show rEq _ _ _ _); refine g_eq rfl ?_) | ((with_reducible show rNe _ _ _ _); refine g_ne rfl ?_)
  | with_reducible refine g_for ?_ | with_reducible refine g_iRng1 ?_ | with_reducible refine g_iRng2 ?_ | with_reducible refine g_iList ?_ | with_reducible refine g_iTup ?_
  | ((with_reducible refine g_Imul ?hc ?_); (case hc => (first | (refine Or.inl ⟨?_, ?_⟩ <;> first | decide | omega) | (refine Or.inr ⟨?_, ?_⟩ <;> first | decide | omega))))
  | ((with_reducible refine g_Idiv ?hc ?_); (case hc => (first | (exact ⟨by decide, by decide⟩) | assumption)))
  | ((with_reducible refine g_Imod ?hc ?_); (case hc => (first | assumption | omega | decide)))
  | ((with_reducible refine g_exR1 ?hlo ?hhi ?_); (case hlo => omega); (case hhi => omega))
  | ((with_reducible refine g_exR2 ?hb ?_); (case hb => omega))
  | with_reducible refine g_lst ?_ | with_reducible refine g_tup ?_ | with_reducible refine g_call ?_ | with_reducible refine g_BM ?_ | with_reducible refine g_BM0 ?_
  | with_reducible refine g_intB ?_ | with_reducible refine g_lc ?_ | with_reducible refine g_yes ?_ | with_reducible refine g_iZip ?_ | with_reducible refine g_sl ?_ | with_reducible refine g_noP ?_ | with_reducible refine g_part ?_ | with_reducible refine g_gcons ?_ | with_reducible refine g_gnil ?_
  | with_reducible refine g_tfld ?_ | with_reducible refine g_tmeth ?_ | with_reducible refine g_tmake ?_ | with_reducible refine g_sfld ?_ | with_reducible refine g_tprop ?_ | with_reducible refine g_tstar ?_ | with_reducible refine g_tmethK ?_ | with_reducible refine g_isN1 ?_ | with_reducible refine g_notN1 ?_))
local macro_rules | `(tactic| walk_at "gx1") => `(tactic| (first
  | with_reducible refine g_seq ?_ | with_reducible refine g_asg ?_ | ((with_reducible show tVar _ _ _ _); refine g_var rfl ?_) | with_reducible refine g_c ?_ | with_reducible refine g_name ?_ | with_reducible refine g_op ?_ | with_reducible refine g_I0 ?_
  | with_reducible refine g_cons ?_ | with_reducible refine g_nil ?_ | with_reducible refine g_exbl ?_ | with_reducible refine g_exint ?_ | with_reducible refine g_test ?_ | with_reducible refine g_B ?_ | with_reducible refine g_ifS ?_ | with_reducible refine g_retN ?_ | with_reducible refine g_next ?_
  | with_reducible refine g_CB ?_ | with_reducible refine g_sub ?_ | with_reducible refine g_drop ?_ | with_reducible refine g_not ?_ | with_reducible refine g_and ?_ | with_reducible refine g_or ?_ | with_reducible refine g_andV ?_ | with_reducible refine g_orV ?_ | with_reducible refine g_notV ?_ | with_reducible refine g_ret ?_ | with_reducible refine g_isN ?_
  | with_reducible refine g_par ?_ | with_reducible refine g_expar ?_ | with_reducible refine g_chain ?_ | with_reducible refine g_un ?_ | with_reducible refine g_U ?_ | with_reducible refine g_bits ?_ | ((with_reducible show rEq _ _ _ _); refine g_eq rfl ?_) | ((with_reducible show rNe _ _ _ _); refine g_ne rfl ?_)
  | with_reducible refine g_for ?_ | with_reducible refine g_iRng1 ?_ | with_reducible refine g_iRng2 ?_ | with_reducible refine g_iList ?_ | with_reducible refine g_iTup ?_
  | ((with_reducible refine g_Imul ?hc ?_); (case hc => (first | (refine Or.inl ⟨?_, ?_⟩ <;> first | decide | omega) | (refine Or.inr ⟨?_, ?_⟩ <;> first | decide | omega))))
  | ((with_reducible refine g_Idiv ?hc ?_); (case hc => (first | (exact ⟨by decide, by decide⟩) | assumption)))
  | ((with_reducible refine g_Imod ?hc ?_); (case hc => (first | assumption | omega | decide)))
  | ((with_reducible refine g_exR1 ?hlo ?hhi ?_); (case hlo => omega); (case hhi => omega))
  | ((with_reducible refine g_exR2 ?hb ?_); (case hb => omega))
  | with_reducible refine g_lst ?_ | with_reducible refine g_tup ?_ | with_reducible refine g_call ?_ | with_reducible refine g_BM ?_ | with_reducible refine g_BM0 ?_
  | with_reducible refine g_intB ?_ | with_reducible refine g_lc ?_ | with_reducible refine g_yes ?_ | with_reducible refine g_iZip ?_ | with_reducible refine g_sl ?_ | with_reducible refine g_noP ?_ | with_reducible refine g_part ?_ | with_reducible refine g_gcons ?_ | with_reducible refine g_gnil ?_
  | with_reducible refine g_tfld ?_ | with_reducible refine g_tmeth ?_ | with_reducible refine g_tmake ?_ | with_reducible refine g_sfld ?_ | with_reducible refine g_tprop ?_ | with_reducible refine g_tstar ?_ | with_reducible refine g_tmethK ?_ | with_reducible refine g_isN1 ?_ | with_reducible refine g_notN1 ?_))
local macro_rules | `(tactic| walk_at "hp") => `(tactic| (first | assumption | exact upd_same | (refine same_get (by assumption) ?_; walk_at "hp")))
local macro_rules | `(tactic| walk_at "sm") => `(tactic| (first | assumption | exact Same.refl _ | (refine Same.trans ?ha (by assumption); walk_at "sm")))
local macro_rules | `(tactic| walk_at "nn") => `(tactic| (first | assumption | (refine same_free (by assumption) ?_; walk_at "nn")))
local macro_rules | `(tactic| walk_at "sb") => `(tactic| (first | decide | (refine small_bits ?_ ?_ <;> omega)))
local macro_rules | `(tactic| walk_at "ln") => `(tactic| (simp only [List.length_cons, List.length_nil]; omega))
local macro_rules | `(tactic| walk_at "gg") => `(tactic| (repeat walk_at "g"))
local macro_rules | `(tactic| walk_at "gs") => `(tactic| (repeat walk_at "gs1"))
local macro_rules | `(tactic| walk_at "gx") => `(tactic| (repeat walk_at "gx1"))

section
variable {P : Program} {w : World} {K : PySem.W.Frag} {mg : Str → Option Value} {base : Heap} {X : Cx}
/-- a line of each of both classes -/
def spLines (CL CK : Addr) : Sp := fun vs H Q _ => ∃ (a : Addr) (ns : List Int), vs = [.ref a] ∧ H a = some (.lst (ns.map V.int)) ∧ ns.length ≤ 500 ∧ ns.Pairwise (· < ·) ∧
  ∀ (l p1 p2 : Addr) (H' : Hp), H l = none → Same H H' → H' l = some (.lst [.ref p1, .ref p2]) → LineAt CL H' p1 (ns.map V.int) → LineAt CK H' p2 (ns.map V.int) → Q (.ref l) H'
abbrev s_lines : Stmt := top 23
abbrev N_lines : List Str := ["_law_rows"]
theorem sc_lines : FnScope N_lines ["_law_rows"] (defScope s_lines) := ⟨rfl, rfl, rfl, by decide +kernel, rfl, by decide +kernel, by decide +kernel⟩

theorem ok_lines {f CL CK : Addr} {fd : FuncData} (D : Dn K mg "_law_lines" s_lines ["_law_rows"] f fd) (T : Bt mg) (m_Line : Mak P w K mg base 3 "Line" CL (spInitI K CL) []) (m_KeyLine : Mak P w K mg base 3 "KeyLine" CK (spInitI K CK) []) :
    Cal P w K mg base 5 "_law_lines" (spLines CL CK) [] := by
  refine cal_of D (D.fn.ok sc_lines (fun vs H Q E h => ?_) (fun cdv A outer s H vs Q E hr h => ?_))
  · obtain ⟨a, ns, rfl, _⟩ := h
    rfl
  · obtain ⟨a, ns, rfl, ha, hl, rise, k⟩ := h
    refine ⟨_, (pss_one (ps_ret (pe_lst (pa_cons (pe_mk m_Line hr (by decide) (by rfl) (pa_cons (pe_callTy cr_listQ (by rfl) T.n_list bt_list (pa_cons (pv 0) pa_nil)) pa_nil)) (pa_cons (pe_mk m_KeyLine hr (by decide) (by rfl) (pa_cons (pe_callTy cr_listQ (by rfl) T.n_list bt_list (pa_cons (pv 0) pa_nil)) pa_nil)) pa_nil))))), ?_⟩
    walk_at "gg"
    refine g_listof (SqL.of ha) fun l1 H1 n1 S1 e1 => ?_
    walk_at "gg"
    refine g_make fun x1 d1 H2 n2 S2 e2 => ?_
    refine ⟨x1, l1, d1, ns, rfl, e2, S2 _ _ e1, hl, rise, fun H3 L3 B3 => ⟨rfl, ?_⟩⟩
    have S13 : Same H1 H3 := same_but S2 n2 B3
    have S03 := S1.trans S13
    walk_at "gg"
    refine g_listof (SqL.of (S03 _ _ ha)) fun l4 H4 n4 S4 e4 => ?_
    walk_at "gg"
    refine g_make fun x5 d5 H5 n5 S5 e5 => ?_
    refine ⟨x5, l4, d5, ns, rfl, e5, S5 _ _ e4, hl, rise, fun H6 L6 B6 => ⟨rfl, ?_⟩⟩
    have S46 : Same H4 H6 := same_but S5 n5 B6
    walk_at "gg"
    refine g_mkL (by walk_at "ln") fun l H7 n7 S7 e7 => ?_
    have S37 := (S4.trans S46).trans S7
    exact k l x1 x5 H7 (same_free ((S03.trans S4).trans S46) n7) (S03.trans S37) e7 (L3.same S37) (L6.same S7)
end
end Gk

namespace Gk
open PySem L2 Gx
open C8 (Cal Met Mak pe_c pe_mt pe_mt0 pe_mk pe_gc)
local macro_rules | `(tactic| walk_at "g") => `(tactic| (first
  | with_reducible refine g_seq ?_ | with_reducible refine g_asg ?_ | ((with_reducible show tVar _ _ _ _); refine g_var rfl ?_) | with_reducible refine g_c ?_ | with_reducible refine g_name ?_ | with_reducible refine g_op ?_ | with_reducible refine g_I0 ?_
  | with_reducible refine g_cons ?_ | with_reducible refine g_nil ?_ | with_reducible refine g_exbl ?_ | with_reducible refine g_exint ?_ | with_reducible refine g_test ?_ | with_reducible refine g_B ?_ | with_reducible refine g_ifS ?_ | with_reducible refine g_ret ?_ | with_reducible refine g_retN ?_ | with_reducible refine g_next ?_
  | with_reducible refine g_CB ?_ | with_reducible refine g_sub ?_ | with_reducible refine g_drop ?_ | with_reducible refine g_not ?_ | with_reducible refine g_and ?_ | with_reducible refine g_or ?_ | with_reducible refine g_andV ?_ | with_reducible refine g_orV ?_ | with_reducible refine g_notV ?_ | with_reducible refine g_ifE ?_ | with_reducible refine g_isN ?_
  | with_reducible refine g_par ?_ | with_reducible refine g_expar ?_ | with_reducible refine g_chain ?_ | with_reducible refine g_un ?_ | with_reducible refine g_U ?_ | with_reducible refine g_bits ?_ | ((with_reducible show rEq _ _ _ _); refine g_eq rfl ?_) | ((with_reducible show rNe _ _ _ _); refine g_ne rfl ?_)
  | with_reducible refine g_for ?_ | with_reducible refine g_iRng1 ?_ | with_reducible refine g_iRng2 ?_ | with_reducible refine g_iList ?_ | with_reducible refine g_iTup ?_
  | ((with_reducible refine g_Imul ?hc ?_); (case hc => (first | (refine Or.inl ⟨?_, ?_⟩ <;> first | decide | omega) | (refine Or.inr ⟨?_, ?_⟩ <;> first | decide | omega))))
  | ((with_reducible refine g_Idiv ?hc ?_); (case hc => (first | (exact ⟨by decide, by decide⟩) | assumption)))
  | ((with_reducible refine g_Imod ?hc ?_); (case hc => (first | assumption | omega | decide)))
  | ((with_reducible refine g_exR1 ?hlo ?hhi ?_); (case hlo => omega); (case hhi => omega))
  | ((with_reducible refine g_exR2 ?hb ?_); (case hb => omega))
  | with_reducible refine g_lst ?_ | with_reducible refine g_tup ?_ | with_reducible refine g_call ?_ | with_reducible refine g_BM ?_ | with_reducible refine g_BM0 ?_
  | with_reducible refine g_intB ?_ | with_reducible refine g_lc ?_ | with_reducible refine g_yes ?_ | with_reducible refine g_iZip ?_ | with_reducible refine g_sl ?_ | with_reducible refine g_noP ?_ | with_reducible refine g_part ?_ | with_reducible refine g_gcons ?_ | with_reducible refine g_gnil ?_
  | with_reducible refine g_tfld ?_ | with_reducible refine g_tmeth ?_ | with_reducible refine g_tmake ?_ | with_reducible refine g_sfld ?_ | with_reducible refine g_tprop ?_ | with_reducible refine g_tstar ?_ | with_reducible refine g_tmethK ?_ | with_reducible refine g_isN1 ?_ | with_reducible refine g_notN1 ?_))
local macro_rules | `(tactic| walk_at "gs1") => `(tactic| (first
  | with_reducible refine g_seq ?_ | with_reducible refine g_asg ?_ | ((with_reducible show tVar _ _ _ _); refine g_var rfl ?_) | with_reducible refine g_c ?_ | with_reducible refine g_name ?_ | with_reducible refine g_op ?_ | with_reducible refine g_I0 ?_
  | with_reducible refine g_cons ?_ | with_reducible refine g_nil ?_ | with_reducible refine g_exbl ?_ | with_reducible refine g_exint ?_ | with_reducible refine g_test ?_ | with_reducible refine g_B ?_ | with_reducible refine g_ifS ?_ | with_reducible refine g_retN ?_ | with_reducible refine g_next ?_
  | with_reducible refine g_CB ?_ | with_reducible refine g_sub ?_ | with_reducible refine g_drop ?_ | with_reducible refine g_not ?_ | with_reducible refine g_and ?_ | with_reducible refine g_or ?_ | with_reducible refine g_andV ?_ | with_reducible refine g_orV ?_ | with_reducible refine g_notV ?_ | with_reducible refine g_ifE ?_ | with_reducible refine g_isN ?_
  | with_reducible refine g_par ?_ | with_reducible refine g_expar ?_ | with_reducible refine g_chain ?_ | with_reducible refine g_un ?_ | with_reducible refine g_U ?_ | with_reducible refine g_bits ?_ | ((with_reducible show rEq _ _ _ _); refine g_eq rfl ?_) | ((with_reducible show rNe _ _ _ _); refine g_ne rfl ?_)
  | with_reducible refine g_for ?_ | with_reducible refine g_iRng1 ?_ | with_reducible refine g_iRng2 ?_ | with_reducible refine g_iList ?_ | with_reducible refine g_iTup ?_
  | ((with_reducible refine g_Imul ?hc ?_); (case hc => (first | (refine Or.inl ⟨?_, ?_⟩ <;> first | decide | omega) | (refine Or.inr ⟨?_, ?_⟩ <;> first | decide | omega))))
  | ((with_reducible refine g_Idiv ?hc ?_); (case hc => (first | (exact ⟨by decide, by decide⟩) | assumption)))
  | ((with_reducible refine g_Imod ?hc ?_); (case hc => (first | assumption | omega | decide)))
  | ((with_reducible refine g_exR1 ?hlo ?hhi ?_); (case hlo => omega); (case hhi => omega))
  | ((with_reducible refine g_exR2 ?hb ?_); (case hb => omega))
  | with_reducible refine g_lst ?_ | with_reducible refine g_tup ?_ | with_reducible refine g_call ?_ | with_reducible refine g_BM ?_ | with_reducible refine g_BM0 ?_
  | with_reducible refine g_intB ?_ | with_reducible refine g_lc ?_ | with_reducible refine g_yes ?_ | with_reducible refine g_iZip ?_ | with_reducible refine g_sl ?_ | with_reducible refine g_noP ?_ | with_reducible refine g_part ?_ | with_reducible refine g_gcons ?_ | with_reducible refine g_gnil ?_
  | with_reducible refine g_tfld ?_ | with_reducible refine g_tmeth ?_ | with_reducible refine g_tmake ?_ | with_reducible refine g_sfld ?_ | with_reducible refine g_tprop ?_ | with_reducible refine g_tstar ?_ | with_reducible refine g_tmethK ?_ | with_reducible refine g_isN1 ?_ | with_reducible refine g_notN1 ?_))
local macro_rules | `(tactic| walk_at "gx1") => `(tactic| (first
  | with_reducible refine g_seq ?_ | with_reducible refine g_asg ?_ | ((with_reducible show tVar _ _ _ _); refine g_var rfl ?_) | with_reducible refine g_c ?_ | with_reducible refine g_name ?_ | with_reducible refine g_op ?_ | with_reducible refine g_I0 ?_
  | with_reducible refine g_cons ?_ | with_reducible refine g_nil ?_ | with_reducible refine g_exbl ?_ | with_reducible refine g_exint ?_ | with_reducible refine g_test ?_ | with_reducible refine g_B ?_ | with_reducible refine g_ifS ?_ | with_reducible refine g_retN ?_ | with_reducible refine g_next ?_
  | with_reducible refine g_CB ?_ | with_reducible refine g_sub ?_ | with_reducible refine g_drop ?_ | with_reducible refine g_not ?_ | with_reducible refine g_and ?_ | with_reducible refine g_or ?_ | with_reducible refine g_andV ?_ | with_reducible refine g_orV ?_ | with_reducible refine g_notV ?_ | with_reducible refine g_ret ?_ | with_reducible refine g_isN ?_
  | with_reducible refine g_par ?_ | with_reducible refine g_expar ?_ | with_reducible refine g_chain ?_ | with_reducible refine g_un ?_ | with_reducible refine g_U ?_ | with_reducible refine g_bits ?_ | ((with_reducible show rEq _ _ _ _); refine g_eq rfl ?_) | ((with_reducible show rNe _ _ _ _); refine g_ne rfl ?_)
  | with_reducible refine g_for ?_ | with_reducible refine g_iRng1 ?_ | with_reducible refine g_iRng2 ?_ | with_reducible refine g_iList ?_ | with_reducible refine g_iTup ?_
  | ((with_reducible refine g_Imul ?hc ?_); (case hc => (first | (refine Or.inl ⟨?_, ?_⟩ <;> first | decide | omega) | (refine Or.inr ⟨?_, ?_⟩ <;> first | decide | omega))))
  | ((with_reducible refine g_Idiv ?hc ?_); (case hc => (first | (exact ⟨by decide, by decide⟩) | assumption)))
  | ((with_reducible refine g_Imod ?hc ?_); (case hc => (first | assumption | omega | decide)))
  | ((with_reducible refine g_exR1 ?hlo ?hhi ?_); (case hlo => omega); (case hhi => omega))
  | ((with_reducible refine g_exR2 ?hb ?_); (case hb => omega))
  | with_reducible refine g_lst ?_ | with_reducible refine g_tup ?_ | with_reducible refine g_call ?_ | with_reducible refine g_BM ?_ | with_reducible refine g_BM0 ?_
  | with_reducible refine g_intB ?_ | with_reducible refine g_lc ?_ | with_reducible refine g_yes ?_ | with_reducible refine g_iZip ?_ | with_reducible refine g_sl ?_ | with_reducible refine g_noP ?_ | with_reducible refine g_part ?_ | with_reducible refine g_gcons ?_ | with_reducible refine g_gnil ?_
  | with_reducible refine g_tfld ?_ | with_reducible refine g_tmeth ?_ | with_reducible refine g_tmake ?_ | with_reducible refine g_sfld ?_ | with_reducible refine g_tprop ?_ | with_reducible refine g_tstar ?_ | with_reducible refine g_tmethK ?_ | with_reducible refine g_isN1 ?_ | with_reducible refine g_notN1 ?_))
local macro_rules | `(tactic| walk_at "hp") => `(tactic| (first | assumption | exact upd_same | (refine same_get (by assumption) ?_; walk_at "hp")))
local macro_rules | `(tactic| walk_at "sm") => `(tactic| (first | assumption | exact Same.refl _ | (refine Same.trans ?ha (by assumption); walk_at "sm")))
local macro_rules | `(tactic| walk_at "nn") => `(tactic| (first | assumption | (refine same_free (by assumption) ?_; walk_at "nn")))
local macro_rules | `(tactic| walk_at "sb") => `(tactic| (first | decide | (refine small_bits ?_ ?_ <;> omega)))
local macro_rules | `(tactic| walk_at "ln") => `(tactic| (simp only [List.length_cons, List.length_nil]; omega))
local macro_rules | `(tactic| walk_at "gg") => `(tactic| (repeat walk_at "g"))
local macro_rules | `(tactic| walk_at "gs") => `(tactic| (repeat walk_at "gs1"))
local macro_rules | `(tactic| walk_at "gx") => `(tactic| (repeat walk_at "gx1"))

local macro_rules | `(tactic| walk_at "g") => `(tactic| (first | with_reducible refine g_tpropS ?_ | with_reducible refine g_callK0 ?_))
section
variable {P : Program} {w : World} {K : PySem.W.Frag} {mg : Str → Option Value} {base : Heap} {X : Cx}
theorem notSelf {α : Type} [DecidableEq α] (x : α) : (!decide (x = x)) = false := by rw [decide_eq_true rfl]; rfl
theorem left_in {ns : List Int} {lo x : Int} (h : leftOf ns lo = some x) : x = lo ∨ x ∈ ns := by
  unfold leftOf at h
  split at h
  · exact .inl (Option.some.inj h).symm
  · exact .inr (List.mem_filter.mp (List.mem_of_getLast? h)).1
theorem right_in {ns : List Int} {hi x : Int} (h : rightOf ns hi = some x) : x = hi ∨ x ∈ ns := by
  unfold rightOf at h
  split at h
  · exact .inl (Option.some.inj h).symm
  · exact .inr (List.mem_filter.mp (List.mem_of_head? h)).1
theorem fine_reach {ns ss : List Int} {lo hi : Int} (h : ∀ n ∈ ns, In80 n) (h1 : In80 lo) (h2 : In80 hi) : Fine 1 5 (reachD ns ss lo hi) := by
  refine fine_tuple (n := 0) (m := 1) (xs := [_, _, _, _]) fun x hx => ?_
  rcases List.mem_cons.mp hx with rfl | hx
  · refine fine_o fun i hi => ?_
    rcases left_in hi with rfl | hm
    · exact h1
    · exact h i (kept_sub hm)
  rcases List.mem_cons.mp hx with rfl | hx
  · refine fine_o fun i hi => ?_
    rcases right_in hi with rfl | hm
    · exact h2
    · exact h i (kept_sub hm)
  rcases List.mem_cons.mp hx with rfl | hx
  · exact fine_bool _
  rcases List.mem_cons.mp hx with rfl | hx
  · exact fine_bool _
  · cases hx
theorem noLst_reach (ns ss : List Int) (lo hi : Int) : noLst (reachD ns ss lo hi) = true := by
  have h : ∀ o, noLst (oD o) = true := fun o => by cases o <;> simp [oD, noLst]
  simp [reachD, tupD, noLst, noLstAll, h]
theorem dp_reach {K : PySem.W.Frag} {H : Hp} {t : Addr} {ns ss : List Int} {lo hi : Int} (e : H t = some (.tup (reachV ns ss lo hi))) : Dp K H (.ref t) (reachD ns ss lo hi) := .tup (SqT.of e) (.cons (dp_o _) (.cons (dp_o _) (.cons (.bl _) (.cons (.bl _) .nil))))
def spSmall : Sp := fun vs H Q _ => ∃ (f a : Addr) (ns : List Int), vs = [.ref f, .ref a] ∧ H f = some (FlowO f) ∧ H a = some (.lst (ns.map V.int)) ∧ ns.length ≤ 500 ∧ ns.Pairwise (· < ·) ∧ (∀ n ∈ ns, -12 ≤ n ∧ n ≤ 12) ∧ ∀ H', Same H H' → Q (.bl true) H'
abbrev s_small_right : Stmt := top 27
abbrev N_small_right : List Str := ["_law_flow_here", "_law_rows", "_law_turn", "_law_skipped", "_law_kept", "_law_first", "_law_last", "_law_left", "_law_right", "_law_due", "_law_handed", "_law_line_here", "_law_told", "_law_one"]
theorem sc_small_right : FnScope N_small_right ["_law_flow_here", "_law_rows"] (defScope s_small_right) := ⟨rfl, rfl, rfl, by decide +kernel, rfl, by decide +kernel, by decide +kernel⟩

theorem ok_small {f CL CK : Addr} {fd : FuncData} (D : Dn K mg "_law_small_right" s_small_right ["_law_flow_here", "_law_rows"] f fd) (T : Bt mg) (c__law_dip : Cal P w K mg base 1 "_law_dip" spDip []) (c__law_inner : Cal P w K mg base 2 "_law_inner" spSome []) (c__law_stepped : Cal P w K mg base 1 "_law_stepped" spStep []) (c__law_lines : Cal P w K mg base 5 "_law_lines" (spLines CL CK) [])
    (c_reach : Cal P w K mg base 5 "reach" (spAny (two CL CK) spReach) []) (k_reach : CalK P w K mg base 5 "reach" ["inner", "low", "line", "high"] rotV (spAny (two CL CK) spReach)) (p_points : PropS P w K mg base 1 (two CL CK) "points" (spAny (two CL CK) (spPoints K))) : FnG P w K mg base 6 f fd ["_law_flow_here", "_law_rows"] spSmall := by
  refine fnG_of D.fn sc_small_right (fun vs H Q E h => ?_) (fun cdv A outer s H vs Q E gd hr h => ?_)
  · obtain ⟨p, a, ns, rfl, _⟩ := h
    rfl
  · obtain ⟨f, a, ns, rfl, hf, ha, hl, up, hb, k⟩ := h
    refine ⟨_, (pss_cons (ps_for PassesOwn.never rfl (pi_range1 (by rfl) T.n_range (pa_cons pe_int pa_nil)) (pg_name (i := 2) sc_small_right.nd rfl (Or.inl rfl)) (pss_cons (ps_set (i := 3) sc_small_right.nd rfl (Or.inr rfl) (pe_c c__law_inner hr (by decide) (by rfl) (pa_cons (pv 0) (pa_cons (pv 1) pa_nil))))
    (pss_cons (ps_setLc (i := 4) (own := [("_law_one", 13)]) (g := gName 13) rfl sc_small_right.nd rfl rfl (sw_true rfl rfl rfl (by decide +kernel)) (pi_list (pv 1)) (blkOk_by (own := [("_law_one", 13)]) (N := N_small_right) (sc := defScope s_small_right) (by decide +kernel)) (fun _ _ _ _ _ => pg_name (i := 13) sc_small_right.nd rfl (Or.inl rfl)) (fun _ _ _ _ _ => (pts_one (pt_cmpR (show OpR _ (compareOp .NotIn) (rIn K true) from op_notIn_seq) (pv 13) (pv 3) (by rfl)))) (fun _ _ _ _ _ => (pv 13)))
    (pss_one (ps_for PassesOwn.never rfl (pi_range2 (by rfl) T.n_range (pa_cons (pe_un un_neg pe_int) (pa_cons pe_int pa_nil))) (pg_name (i := 5) sc_small_right.nd rfl (Or.inl rfl)) (pss_cons (ps_set (i := 6) sc_small_right.nd rfl (Or.inl rfl) (pe_op op_add (pv 5) (pe_c c__law_dip hr (by decide) (by rfl) (pa_cons (pv 0) (pa_cons (pe_op op_sub pe_int (pv 5)) pa_nil)))))
    (pss_cons (ps_par (i := 7) (j := 8) (by rfl) sc_small_right.nd rfl rfl (by decide) rfl rfl (pa_cons (pe_c c__law_stepped hr (by decide) (by rfl) (pa_cons (pv 4) (pa_cons (pv 5) (pa_cons (pe_un un_neg pe_int) pa_nil)))) (pa_cons (pe_c c__law_stepped hr (by decide) (by rfl) (pa_cons (pv 4) (pa_cons (pv 6) (pa_cons pe_int pa_nil)))) pa_nil)) (by rfl))
    (pss_cons (ps_par (i := 9) (j := 10) (by rfl) sc_small_right.nd rfl rfl (by decide) rfl rfl (pa_cons (pe_tup (pa_cons (pe_ix ix_tup (pv 7) pe_int (fun _ _ => rfl)) (pa_cons (pe_ix ix_tup (pv 8) pe_int (fun _ _ => rfl)) (pa_cons (pe_ix ix_tup (pv 7) pe_int (fun _ _ => rfl)) (pa_cons (pe_ix ix_tup (pv 8) pe_int (fun _ _ => rfl)) pa_nil))))) (pa_cons (pe_callTy cr_listQ (by rfl) T.n_list bt_list (pa_cons (pv 3) pa_nil)) pa_nil)) (by rfl))
    (pss_one (ps_for PassesOwn.never rfl (pi_list (pe_c c__law_lines hr (by decide) (by rfl) (pa_cons (pv 1) pa_nil))) (pg_name (i := 11) sc_small_right.nd rfl (Or.inl rfl)) (pss_cons (ps_set (i := 12) sc_small_right.nd rfl (Or.inl rfl) (pe_lst (pa_cons (pe_c c_reach hr (by decide) (by rfl) (pa_cons (pv 11) (pa_cons (pv 5) (pa_cons (pv 6) (pa_cons (pv 10) pa_nil))))) pa_nil)))
    (pss_cons (ps_expr (pe_bm PySem.F.plainAttrs_list PySem.F.slot_list_append PySem.F.type_list_append mt_append (pv 12) (pa_cons (pe_cK k_reach hr (by decide) (by rfl) (pk_cons (pv 10) (pk_cons (pv 5) (pk_cons (pv 11) (pk_cons (pv 6) pk_nil))))) pa_nil)))
    (pss_one (ps_if (PW.pt (pw_or (pt_cmpR op_ne (pe_callB (cr_repr gd hr) (by rfl) T.n_repr bt_repr (pa_cons (pv 12) pa_nil)) (pe_callB (cr_repr gd hr) (by rfl) T.n_repr bt_repr (pa_cons (pe_lst (pa_cons (pv 9) (pa_cons (pv 9) pa_nil))) pa_nil)) (nomark _)) (pw_or (pt_cmpR (op_neD hr.units) (pv 10) (pv 3) (nomark _)) (pw_or1 (pt_cmpR (op_neD hr.units) (pe_prS p_points hr (by decide) (pv 11)) (pv 1) (nomark _)))))) (pss_one (ps_ret pe_bl)) pss_nil))))))))))))))
    (pss_one (ps_ret pe_bl))), ?_⟩
    have inb : ∀ n ∈ ns, In80 n := fun n hn => ⟨by have := (hb n hn).1; omega, by have := (hb n hn).2; omega⟩
    walk_at "gg"
    refine fw_range (fun i σ H' => ∃ v1 v2 v3 v4 v5 v6 v7 v8 v9 v10 v11 v12 : Option V, σ = [some (.ref f), some (.ref a), v1, v2, v3, v4, v5, v6, v7, v8, v9, v10, v11, v12] ∧ Same H H') ⟨_, _, _, _, _, _, _, _, _, _, _, _, rfl, Same.refl _⟩ ?_ ?_
    · rintro i σ H1 hi ⟨v1, v2, v3, v4, v5, v6, v7, v8, v9, v10, v11, v12, rfl, S1⟩
      walk_at "gg"
      refine ⟨f, a, ns, rfl, S1 _ _ hf, S1 _ _ ha, hl, fun ss p2 H2 sub n2 S2 e2 => ?_⟩
      have S02 := S1.trans S2
      walk_at "gg"
      refine g_exL (SqL.of (S02 _ _ ha)) ?_
      refine lc_filtI (SqL.of (S02 _ _ ha)) (by omega) (fun m => !decide (m ∈ ss)) (fun m H' Nx No hm S k1 k2 => ?_) fun p3 H3 n3 S3 e3 => ?_
      · walk_at "gg"
        refine ⟨rfl, ?_⟩
        walk_at "gg"
        refine g_notInI (SqL.of (S _ _ e2)) ?_
        walk_at "gg"
        refine g_iteN (fun c => ?_) (fun c => ?_)
        · walk_at "gg"
          exact k1 _ (Same.refl _) (by simp [c])
        · exact k2 _ (Same.refl _) (by simp [c])
      change H3 p3 = some (.lst ((keptOf ns ss).map V.int)) at e3
      have S03 := S02.trans S3
      have upk := kept_up ss up
      have bk : ∀ n ∈ keptOf ns ss, -12 ≤ n ∧ n ≤ 12 := fun n hn => hb n (kept_sub hn)
      have lk := kept_len ns ss
      walk_at "gg"
      refine fw_range (fun i σ H' => ∃ v1 v4 v5 v6 v7 v8 v9 v10 v11 v12 : Option V, σ = [some (.ref f), some (.ref a), v1, some (.ref p2), some (.ref p3), v4, v5, v6, v7, v8, v9, v10, v11, v12] ∧ Same H3 H') ⟨_, _, _, _, _, _, _, _, _, _, rfl, Same.refl _⟩ ?_ ?_
      · rintro i2 σ H4 hi2 ⟨w1, w4, w5, w6, w7, w8, w9, w10, w11, w12, rfl, S4⟩
        generalize hj : (-13 + (i2 : Int)) = j
        have j1 : -13 ≤ j ∧ j ≤ 13 := by omega
        have S04 := S03.trans S4
        walk_at "gg"
        refine g_dip (S04 _ _ hf) (by omega) (by walk_at "sb") fun r H5 r1 r2 S5 => ?_
        have S35 := S4.trans S5
        walk_at "gg"
        refine ⟨p3, keptOf ns ss, j, -1, rfl, S35 _ _ e3, by omega, by decide, by decide, fun o1 z1 t6 H6 st1 n6 S6 e6 => ?_⟩
        obtain ⟨rfl, rfl⟩ := step_left upk bk j1.1 j1.2 st1
        walk_at "gg"
        refine ⟨p3, keptOf ns ss, j + r, 1, rfl, S6 _ _ (S35 _ _ e3), by omega, by decide, by decide, fun o2 z2 t7 H7 st2 n7 S7 e7 => ?_⟩
        obtain ⟨rfl, rfl⟩ := step_right upk bk (by omega) (by omega) st2
        walk_at "gg"
        refine ⟨t6, _, 0, _, rfl, rfl, SqT.of (S7 _ _ e6), rfl, ?_⟩
        walk_at "gg"
        refine ⟨t7, _, 0, _, rfl, rfl, SqT.of e7, rfl, ?_⟩
        walk_at "gg"
        refine ⟨t6, _, 1, _, rfl, rfl, SqT.of (S7 _ _ e6), rfl, ?_⟩
        walk_at "gg"
        refine ⟨t7, _, 1, _, rfl, rfl, SqT.of e7, rfl, ?_⟩
        walk_at "gg"
        refine g_mkT (by walk_at "ln") fun t8 H8 n8 S8 e8 => ?_
        have S38 := ((S35.trans S6).trans S7).trans S8
        have S28 := S3.trans S38
        walk_at "gg"
        refine g_listof (SqL.of (S28 _ _ e2)) fun p9 H9 n9 S9 e9 => ?_
        have S09 := (S03.trans S38).trans S9
        walk_at "gg"
        refine ⟨a, ns, rfl, S09 _ _ ha, hl, up, fun l q1 q2 H10 n10 S10 e10 A1 A2 => ?_⟩
        walk_at "gg"
        refine g_exL (SqL.of e10) ?_
        have S310 := (S38.trans S9).trans S10
        have e8 : H10 t8 = some (.tup (reachV ns ss j (j + r))) := S10 _ _ (S9 _ _ e8)
        refine fw_list (xs := [.ref q1, .ref q2]) (fun i σ H' => ∃ v1 w10 w11 w12 : Option V, σ = [some (.ref f), some (.ref a), v1, some (.ref p2), some (.ref p3), some (.int j), some (.int (j + r)), some (.ref t6), some (.ref t7), some (.ref t8), some (.ref p9), w10, w11, w12] ∧ Same H10 H') ⟨_, _, _, _, rfl, Same.refl _⟩ (fun i σ H' _ ⟨_, _, _, _, _, S⟩ => SqL.of (S _ _ e10)) ?_ ?_
        · rintro i3 x σ H11 hx ⟨x1, x10, x11, x12, rfl, S11⟩
          obtain ⟨q, C, rfl, hC, l11⟩ : ∃ q C, x = .ref q ∧ two CL CK C ∧ LineAt C H11 q (ns.map V.int) := by
            match i3, hx with
            | 0, hx => exact ⟨q1, CL, (Option.some.inj hx).symm, .inl rfl, A1.same S11⟩
            | 1, hx => exact ⟨q2, CK, (Option.some.inj hx).symm, .inr rfl, A2.same S11⟩
            | n + 2, hx => simp at hx
          have S9b := S10.trans S11
          walk_at "gg"
          refine ⟨C, hC, q, p9, ns, ss, j, j + r, rfl, l11, up, hl, S9b _ _ e9, sub, by omega, fun t12 H12 n12 S12 e12 => ?_⟩
          walk_at "gg"
          refine g_mkL (by walk_at "ln") fun l13 H13 n13 S13 e13 => ?_
          have S1113 := S12.trans S13
          walk_at "gg"
          refine g_tyL e13 ?_
          walk_at "gg"
          refine ⟨C, hC, q, p9, ns, ss, j, j + r, rfl, l11.same S1113, up, hl, S1113 _ _ (S9b _ _ e9), sub, by omega, fun t14 H14 n14 S14 e14 => ?_⟩
          walk_at "gg"
          refine g_appB (S14 _ _ e13) (by walk_at "ln") fun H15 B15 e15 => ?_
          have dd : DpAll K H15 [.ref t12, .ref t14] [reachD ns ss j (j + r), reachD ns ss j (j + r)] := by
            refine dp_butAll (S14 _ _ e13) B15 _ _ (by simp [noLstAll, noLst_reach]) ?_
            exact .cons (dp_reach ((S13.trans S14) _ _ e12)) (.cons (dp_reach e14) .nil)
          have S1115 : Same H11 H15 := same_but (S1113.trans S14) (same_free S12 n13) B15
          have S1015 := S11.trans S1115
          have ff : Fine 2 11 (.list [reachD ns ss j (j + r), reachD ns ss j (j + r)]) := by
            refine fine_list (n := 1) (m := 5) (xs := [_, _]) fun x hx => ?_
            have z : Fine 1 5 (reachD ns ss j (j + r)) := fine_reach inb ⟨by omega, by omega⟩ ⟨by omega, by omega⟩
            rcases List.mem_cons.mp hx with rfl | hx
            · exact z
            rcases List.mem_cons.mp hx with rfl | hx
            · exact z
            · cases hx
          walk_at "gg"
          refine g_repr (.lst (SqL.of e15) dd) ff (by decide) (by decide) ?_
          walk_at "gg"
          refine g_mkL (by walk_at "ln") fun l16 H16 n16 S16 e16 => ?_
          walk_at "gg"
          have e8' := S16 _ _ (S1015 _ _ e8)
          refine g_repr (.lst (SqL.of e16) (.cons (dp_reach e8') (.cons (dp_reach e8') .nil))) ff (by decide) (by decide) ?_
          generalize (PyData.list [reachD ns ss j (j + r), reachD ns ss j (j + r)]).shown = z
          walk_at "gg"
          refine g_ifF (by simp) ?_
          walk_at "gg"
          have S1016 := S1015.trans S16
          refine g_neI (SqL.of (S1016 _ _ (S10 _ _ e9))) (SqL.of ((S310.trans S1016) _ _ (S3 _ _ e2))) ?_
          walk_at "gg"
          refine g_ifF (notSelf _) ?_
          walk_at "gg"
          obtain ⟨dx, qq, hp, hq⟩ := l11.same (S1115.trans S16)
          refine g_propS hp hC ⟨C, hC, q, _, rfl, ⟨dx, qq, hp, hq⟩, fun l17 H17 n17 S17 e17 => ?_⟩
          walk_at "gg"
          refine g_neI (SqL.of e17) (SqL.of (((S03.trans S310).trans (S1016.trans S17)) _ _ ha)) ?_
          walk_at "gg"
          refine g_ifF (notSelf _) ?_
          walk_at "gg"
          exact ⟨_, _, _, _, rfl, S1016.trans S17⟩
        · rintro σ H11 ⟨x1, x10, x11, x12, rfl, S11⟩
          walk_at "gg"
          exact ⟨_, _, _, _, _, _, _, _, _, _, rfl, S310.trans S11⟩
      · rintro σ H4 ⟨w1, w4, w5, w6, w7, w8, w9, w10, w11, w12, rfl, S4⟩
        walk_at "gg"
        exact ⟨_, _, _, _, _, _, _, _, _, _, _, _, rfl, S03.trans S4⟩
    · rintro σ H1 ⟨v1, v2, v3, v4, v5, v6, v7, v8, v9, v10, v11, v12, rfl, S1⟩
      walk_at "gg"
      exact k H1 S1
end
end Gk

namespace Gk
open PySem L2 Gx
open C8 (Cal Met Mak pe_c pe_mt pe_mt0 pe_mk pe_gc)
local macro_rules | `(tactic| walk_at "g") => `(tactic| (first
  | with_reducible refine g_seq ?_ | with_reducible refine g_asg ?_ | ((with_reducible show tVar _ _ _ _); refine g_var rfl ?_) | with_reducible refine g_c ?_ | with_reducible refine g_name ?_ | with_reducible refine g_op ?_ | with_reducible refine g_I0 ?_
  | with_reducible refine g_cons ?_ | with_reducible refine g_nil ?_ | with_reducible refine g_exbl ?_ | with_reducible refine g_exint ?_ | with_reducible refine g_test ?_ | with_reducible refine g_B ?_ | with_reducible refine g_ifS ?_ | with_reducible refine g_ret ?_ | with_reducible refine g_retN ?_ | with_reducible refine g_next ?_
  | with_reducible refine g_CB ?_ | with_reducible refine g_sub ?_ | with_reducible refine g_drop ?_ | with_reducible refine g_not ?_ | with_reducible refine g_and ?_ | with_reducible refine g_or ?_ | with_reducible refine g_andV ?_ | with_reducible refine g_orV ?_ | with_reducible refine g_notV ?_ | with_reducible refine g_ifE ?_ | with_reducible refine g_isN ?_
  | with_reducible refine g_par ?_ | with_reducible refine g_expar ?_ | with_reducible refine g_chain ?_ | with_reducible refine g_un ?_ | with_reducible refine g_U ?_ | with_reducible refine g_bits ?_ | ((with_reducible show rEq _ _ _ _); refine g_eq rfl ?_) | ((with_reducible show rNe _ _ _ _); refine g_ne rfl ?_)
  | with_reducible refine g_for ?_ | with_reducible refine g_iRng1 ?_ | with_reducible refine g_iRng2 ?_ | with_reducible refine g_iList ?_ | with_reducible refine g_iTup ?_
  | ((with_reducible refine g_Imul ?hc ?_); (case hc => (first | (refine Or.inl ⟨?_, ?_⟩ <;> first | decide | omega) | (refine Or.inr ⟨?_, ?_⟩ <;> first | decide | omega))))
  | ((with_reducible refine g_Idiv ?hc ?_); (case hc => (first | (exact ⟨by decide, by decide⟩) | assumption)))
  | ((with_reducible refine g_Imod ?hc ?_); (case hc => (first | assumption | omega | decide)))
  | ((with_reducible refine g_exR1 ?hlo ?hhi ?_); (case hlo => omega); (case hhi => omega))
  | ((with_reducible refine g_exR2 ?hb ?_); (case hb => omega))
  | with_reducible refine g_lst ?_ | with_reducible refine g_tup ?_ | with_reducible refine g_call ?_ | with_reducible refine g_BM ?_ | with_reducible refine g_BM0 ?_
  | with_reducible refine g_intB ?_ | with_reducible refine g_lc ?_ | with_reducible refine g_yes ?_ | with_reducible refine g_iZip ?_ | with_reducible refine g_sl ?_ | with_reducible refine g_noP ?_ | with_reducible refine g_part ?_ | with_reducible refine g_gcons ?_ | with_reducible refine g_gnil ?_
  | with_reducible refine g_tfld ?_ | with_reducible refine g_tmeth ?_ | with_reducible refine g_tmake ?_ | with_reducible refine g_sfld ?_ | with_reducible refine g_tprop ?_ | with_reducible refine g_tstar ?_ | with_reducible refine g_tmethK ?_ | with_reducible refine g_isN1 ?_ | with_reducible refine g_notN1 ?_))
local macro_rules | `(tactic| walk_at "gs1") => `(tactic| (first
  | with_reducible refine g_seq ?_ | with_reducible refine g_asg ?_ | ((with_reducible show tVar _ _ _ _); refine g_var rfl ?_) | with_reducible refine g_c ?_ | with_reducible refine g_name ?_ | with_reducible refine g_op ?_ | with_reducible refine g_I0 ?_
  | with_reducible refine g_cons ?_ | with_reducible refine g_nil ?_ | with_reducible refine g_exbl ?_ | with_reducible refine g_exint ?_ | with_reducible refine g_test ?_ | with_reducible refine g_B ?_ | with_reducible refine g_ifS ?_ | with_reducible refine g_retN ?_ | with_reducible refine g_next ?_
  | with_reducible refine g_CB ?_ | with_reducible refine g_sub ?_ | with_reducible refine g_drop ?_ | with_reducible refine g_not ?_ | with_reducible refine g_and ?_ | with_reducible refine g_or ?_ | with_reducible refine g_andV ?_ | with_reducible refine g_orV ?_ | with_reducible refine g_notV ?_ | with_reducible refine g_ifE ?_ | with_reducible refine g_isN ?_
  | with_reducible refine g_par ?_ | with_reducible refine g_expar ?_ | with_reducible refine g_chain ?_ | with_reducible refine g_un ?_ | with_reducible refine g_U ?_ | with_reducible refine g_bits ?_ | ((with_reducible show rEq _ _ _ _); refine g_eq rfl ?_) | ((with_reducible show rNe _ _ _ _); refine g_ne rfl ?_)
  | with_reducible refine g_for ?_ | with_reducible refine g_iRng1 ?_ | with_reducible refine g_iRng2 ?_ | with_reducible refine g_iList ?_ | with_reducible refine g_iTup ?_
  | ((with_reducible refine g_Imul ?hc ?_); (case hc => (first | (refine Or.inl ⟨?_, ?_⟩ <;> first | decide | omega) | (refine Or.inr ⟨?_, ?_⟩ <;> first | decide | omega))))
  | ((with_reducible refine g_Idiv ?hc ?_); (case hc => (first | (exact ⟨by decide, by decide⟩) | assumption)))
  | ((with_reducible refine g_Imod ?hc ?_); (case hc => (first | assumption | omega | decide)))
  | ((with_reducible refine g_exR1 ?hlo ?hhi ?_); (case hlo => omega); (case hhi => omega))
  | ((with_reducible refine g_exR2 ?hb ?_); (case hb => omega))
  | with_reducible refine g_lst ?_ | with_reducible refine g_tup ?_ | with_reducible refine g_call ?_ | with_reducible refine g_BM ?_ | with_reducible refine g_BM0 ?_
  | with_reducible refine g_intB ?_ | with_reducible refine g_lc ?_ | with_reducible refine g_yes ?_ | with_reducible refine g_iZip ?_ | with_reducible refine g_sl ?_ | with_reducible refine g_noP ?_ | with_reducible refine g_part ?_ | with_reducible refine g_gcons ?_ | with_reducible refine g_gnil ?_
  | with_reducible refine g_tfld ?_ | with_reducible refine g_tmeth ?_ | with_reducible refine g_tmake ?_ | with_reducible refine g_sfld ?_ | with_reducible refine g_tprop ?_ | with_reducible refine g_tstar ?_ | with_reducible refine g_tmethK ?_ | with_reducible refine g_isN1 ?_ | with_reducible refine g_notN1 ?_))
local macro_rules | `(tactic| walk_at "gx1") => `(tactic| (first
  | with_reducible refine g_seq ?_ | with_reducible refine g_asg ?_ | ((with_reducible show tVar _ _ _ _); refine g_var rfl ?_) | with_reducible refine g_c ?_ | with_reducible refine g_name ?_ | with_reducible refine g_op ?_ | with_reducible refine g_I0 ?_
  | with_reducible refine g_cons ?_ | with_reducible refine g_nil ?_ | with_reducible refine g_exbl ?_ | with_reducible refine g_exint ?_ | with_reducible refine g_test ?_ | with_reducible refine g_B ?_ | with_reducible refine g_ifS ?_ | with_reducible refine g_retN ?_ | with_reducible refine g_next ?_
  | with_reducible refine g_CB ?_ | with_reducible refine g_sub ?_ | with_reducible refine g_drop ?_ | with_reducible refine g_not ?_ | with_reducible refine g_and ?_ | with_reducible refine g_or ?_ | with_reducible refine g_andV ?_ | with_reducible refine g_orV ?_ | with_reducible refine g_notV ?_ | with_reducible refine g_ret ?_ | with_reducible refine g_isN ?_
  | with_reducible refine g_par ?_ | with_reducible refine g_expar ?_ | with_reducible refine g_chain ?_ | with_reducible refine g_un ?_ | with_reducible refine g_U ?_ | with_reducible refine g_bits ?_ | ((with_reducible show rEq _ _ _ _); refine g_eq rfl ?_) | ((with_reducible show rNe _ _ _ _); refine g_ne rfl ?_)
  | with_reducible refine g_for ?_ | with_reducible refine g_iRng1 ?_ | with_reducible refine g_iRng2 ?_ | with_reducible refine g_iList ?_ | with_reducible refine g_iTup ?_
  | ((with_reducible refine g_Imul ?hc ?_); (case hc => (first | (refine Or.inl ⟨?_, ?_⟩ <;> first | decide | omega) | (refine Or.inr ⟨?_, ?_⟩ <;> first | decide | omega))))
  | ((with_reducible refine g_Idiv ?hc ?_); (case hc => (first | (exact ⟨by decide, by decide⟩) | assumption)))
  | ((with_reducible refine g_Imod ?hc ?_); (case hc => (first | assumption | omega | decide)))
  | ((with_reducible refine g_exR1 ?hlo ?hhi ?_); (case hlo => omega); (case hhi => omega))
  | ((with_reducible refine g_exR2 ?hb ?_); (case hb => omega))
  | with_reducible refine g_lst ?_ | with_reducible refine g_tup ?_ | with_reducible refine g_call ?_ | with_reducible refine g_BM ?_ | with_reducible refine g_BM0 ?_
  | with_reducible refine g_intB ?_ | with_reducible refine g_lc ?_ | with_reducible refine g_yes ?_ | with_reducible refine g_iZip ?_ | with_reducible refine g_sl ?_ | with_reducible refine g_noP ?_ | with_reducible refine g_part ?_ | with_reducible refine g_gcons ?_ | with_reducible refine g_gnil ?_
  | with_reducible refine g_tfld ?_ | with_reducible refine g_tmeth ?_ | with_reducible refine g_tmake ?_ | with_reducible refine g_sfld ?_ | with_reducible refine g_tprop ?_ | with_reducible refine g_tstar ?_ | with_reducible refine g_tmethK ?_ | with_reducible refine g_isN1 ?_ | with_reducible refine g_notN1 ?_))
local macro_rules | `(tactic| walk_at "hp") => `(tactic| (first | assumption | exact upd_same | (refine same_get (by assumption) ?_; walk_at "hp")))
local macro_rules | `(tactic| walk_at "sm") => `(tactic| (first | assumption | exact Same.refl _ | (refine Same.trans ?ha (by assumption); walk_at "sm")))
local macro_rules | `(tactic| walk_at "nn") => `(tactic| (first | assumption | (refine same_free (by assumption) ?_; walk_at "nn")))
local macro_rules | `(tactic| walk_at "sb") => `(tactic| (first | decide | (refine small_bits ?_ ?_ <;> omega)))
local macro_rules | `(tactic| walk_at "ln") => `(tactic| (simp only [List.length_cons, List.length_nil]; omega))
local macro_rules | `(tactic| walk_at "gg") => `(tactic| (repeat walk_at "g"))
local macro_rules | `(tactic| walk_at "gs") => `(tactic| (repeat walk_at "gs1"))
local macro_rules | `(tactic| walk_at "gx") => `(tactic| (repeat walk_at "gx1"))

section
variable {P : Program} {w : World} {K : PySem.W.Frag} {mg : Str → Option Value} {base : Heap} {X : Cx}
/-- ascending ints of at most sixty digits, at most as many as asked -/
def spSpots : Sp := fun vs H Q _ => ∃ (f : Addr) (most : Int), vs = [.ref f, .int most] ∧ H f = some (FlowO f) ∧ 0 ≤ most ∧ most ≤ 1000 ∧
  ∀ (ns : List Int) (p : Addr) (H' : Hp), (ns.length : Int) ≤ most → ns.Pairwise (· < ·) → (∀ n ∈ ns, -1000000000000000000000000000000000000000000000000000000000000 ≤ n ∧ n ≤ 1000000000000000000000000000000000000000000000000000000000000) → H p = none → Same H H' → H' p = some (.lst (ns.map V.int)) → Q (.ref p) H'
abbrev s_spots : Stmt := top 20
abbrev N_spots : List Str := ["_law_flow_here", "_law_most", "_law_many", "_law_here", "_law_wide", "_law_found", "_law_turn"]
theorem sc_spots : FnScope N_spots ["_law_flow_here", "_law_most"] (defScope s_spots) := ⟨rfl, rfl, rfl, by decide +kernel, rfl, by decide +kernel, by decide +kernel⟩

theorem ok_spots {f : Addr} {fd : FuncData} (D : Dn K mg "_law_spots" s_spots ["_law_flow_here", "_law_most"] f fd) (T : Bt mg) (c__law_dip : Cal P w K mg base 1 "_law_dip" spDip []) : Cal P w K mg base 2 "_law_spots" spSpots [] := by
  refine cal_of D (D.fn.ok sc_spots (fun vs H Q E h => ?_) (fun cdv A outer s H vs Q E hr h => ?_))
  · obtain ⟨f, m, rfl, _⟩ := h
    rfl
  · obtain ⟨f, m, rfl, hf, h0, h1, k⟩ := h
    refine ⟨_, (pss_cons (ps_set (i := 2) sc_spots.nd rfl (Or.inl rfl) (pe_ix ix_list (pe_lst (pa_cons (pe_c c__law_dip hr (by decide) (by rfl) (pa_cons (pv 0) (pa_cons (pe_op op_add (pv 1) pe_int) pa_nil))) (pa_cons (pv 1) (pa_cons (pe_c c__law_dip hr (by decide) (by rfl) (pa_cons (pv 0) (pa_cons (pe_callB (cr_minQ rfl) (by rfl) T.n_min bt_min (pa_cons pe_int (pa_cons (pe_op op_add (pv 1) pe_int) pa_nil))) pa_nil))) pa_nil)))) (pe_c c__law_dip hr (by decide) (by rfl) (pa_cons (pv 0) (pa_cons pe_int pa_nil))) (fun _ _ => rfl)))
    (pss_cons (ps_set (i := 3) sc_spots.nd rfl (Or.inl rfl) (pe_ix ix_list (pe_lst (pa_cons pe_int (pa_cons (pe_op op_sub pe_int (pe_c c__law_dip hr (by decide) (by rfl) (pa_cons (pv 0) (pa_cons pe_int pa_nil)))) (pa_cons (pe_op op_sub (pe_c c__law_dip hr (by decide) (by rfl) (pa_cons (pv 0) (pa_cons (pe_op op_pow pe_int pe_int) pa_nil))) (pe_op op_mul pe_int (pe_op op_pow pe_int pe_int))) pa_nil)))) (pe_c c__law_dip hr (by decide) (by rfl) (pa_cons (pv 0) (pa_cons pe_int pa_nil))) (fun _ _ => rfl)))
    (pss_cons (ps_set (i := 4) sc_spots.nd rfl (Or.inl rfl) (pe_ix ix_list (pe_lst (pa_cons pe_int (pa_cons pe_int (pa_cons pe_int (pa_cons (pe_op op_pow pe_int pe_int) pa_nil))))) (pe_c c__law_dip hr (by decide) (by rfl) (pa_cons (pv 0) (pa_cons pe_int pa_nil))) (fun _ _ => rfl)))
    (pss_cons (ps_set (i := 5) sc_spots.nd rfl (Or.inl rfl) (pe_lst pa_nil))
    (pss_cons (ps_for PassesOwn.never rfl (pi_range1 (by rfl) T.n_range (pa_cons (pv 2) pa_nil)) (pg_name (i := 6) sc_spots.nd rfl (Or.inl rfl)) (pss_cons (ps_set (i := 3) sc_spots.nd rfl (Or.inl rfl) (pe_op op_add (pe_op op_add (pv 3) pe_int) (pe_c c__law_dip hr (by decide) (by rfl) (pa_cons (pv 0) (pa_cons (pv 4) pa_nil)))))
    (pss_one (ps_expr (pe_bm PySem.F.plainAttrs_list PySem.F.slot_list_append PySem.F.type_list_append mt_append (pv 5) (pa_cons (pv 3) pa_nil))))))
    (pss_one (ps_ret (pv 5)))))))), ?_⟩
    walk_at "gg"
    refine g_dip (by walk_at "hp") (by omega) (by walk_at "sb") fun r1 H1 a1 b1 S1 => ?_
    walk_at "gg"
    refine g_min2 fun c1 c2 c3 c4 => ?_
    walk_at "gg"
    refine g_dip (by walk_at "hp") (by omega) (by walk_at "sb") fun r2 H2 a2 b2 S2 => ?_
    walk_at "gg"
    refine g_mkL (by walk_at "ln") fun p3 H3 n3 S3 e3 => ?_
    walk_at "gg"
    refine g_dip (by walk_at "hp") (by omega) (by walk_at "sb") fun r4 H4 a4 b4 S4 => ?_
    refine g_ixI (fun n => 0 ≤ n ∧ n ≤ m) (S4 _ _ e3) a4 b4 (all_cons ⟨_, rfl, by omega⟩ (all_cons ⟨_, rfl, by omega⟩ (all_cons ⟨_, rfl, by omega⟩ all_nil))) fun many ⟨m1, m2⟩ => ?_
    walk_at "gg"
    -- the first number
    refine g_dip (by walk_at "hp") (by omega) (by walk_at "sb") fun r5 H5 a5 b5 S5 => ?_
    walk_at "gg"
    refine g_pow (c := 10000000000000000000000000000000000000000000000000000000000) ⟨by decide, by decide, by decide⟩ (by decide) ?_
    walk_at "gg"
    refine g_dip (by walk_at "hp") (by omega) (by walk_at "sb") fun r6 H6 a6 b6 S6 => ?_
    walk_at "gg"
    refine g_pow (c := 1000000000000000000000000000000000000000000000000000000000) ⟨by decide, by decide, by decide⟩ (by decide) ?_
    walk_at "gg"
    refine g_mkL (by walk_at "ln") fun p7 H7 n7 S7 e7 => ?_
    walk_at "gg"
    refine g_dip (by walk_at "hp") (by omega) (by walk_at "sb") fun r8 H8 a8 b8 S8 => ?_
    refine g_ixI (fun n => -10000000000000000000000000000000000000000000000000000000000 ≤ n ∧ n ≤ 10000000000000000000000000000000000000000000000000000000000) (S8 _ _ e7) a8 b8 (all_cons ⟨_, rfl, by omega⟩ (all_cons ⟨_, rfl, by omega⟩ (all_cons ⟨_, rfl, by omega⟩ all_nil))) fun here ⟨h1, h2⟩ => ?_
    walk_at "gg"
    -- how far apart
    refine g_pow (c := 10000000000000000000000000000000000000000000000000000000) ⟨by decide, by decide, by decide⟩ (by decide) ?_
    walk_at "gg"
    refine g_mkL (by walk_at "ln") fun p9 H9 n9 S9 e9 => ?_
    walk_at "gg"
    refine g_dip (by walk_at "hp") (by omega) (by walk_at "sb") fun r10 H10 a10 b10 S10 => ?_
    refine g_ixI (fun n => 1 ≤ n ∧ n ≤ 10000000000000000000000000000000000000000000000000000000) (S10 _ _ e9) a10 b10 (all_cons ⟨_, rfl, by omega⟩ (all_cons ⟨_, rfl, by omega⟩ (all_cons ⟨_, rfl, by omega⟩ (all_cons ⟨_, rfl, by omega⟩ all_nil)))) fun wide ⟨w1, w2⟩ => ?_
    walk_at "gg"
    refine g_mkL (by walk_at "ln") fun p H11 np S11 e11 => ?_
    walk_at "gg"
    have SH : Same H H10 := by walk_at "sm"
    have hf10 := SH _ _ hf
    refine fw_range (fun i σ H' => ∃ (hr : Int) (ns : List Int) (v : Option V), σ = [some (.ref f), some (.int m), some (.int many), some (.int hr), some (.int wide), some (.ref p), v] ∧ Same H10 H' ∧ H' p = some (.lst (ns.map V.int)) ∧
        ns.length = i ∧ ns.Pairwise (· < ·) ∧ (∀ n ∈ ns, -10000000000000000000000000000000000000000000000000000000000 ≤ n ∧ n ≤ hr) ∧ -10000000000000000000000000000000000000000000000000000000000 ≤ hr ∧ hr ≤ 10000000000000000000000000000000000000000000000000000000000 + i * 10000000000000000000000000000000000000000000000000000000)
      ⟨here, [], none, rfl, S11, e11, rfl, .nil, (fun n hn => nomatch hn), h1, by omega⟩ ?_ ?_
    · rintro i σ H' hi ⟨hr, ns, v, rfl, S, e, hl, pw, bd, b1, b2⟩
      walk_at "gg"
      refine g_dip (S _ _ hf10) (by omega) (by walk_at "sb") fun r H2 a b S2 => ?_
      walk_at "gg"
      refine g_tyL (S2 _ _ e) ?_
      walk_at "gg"
      refine g_app (S.trans S2) np (S2 _ _ e) (by rw [List.length_map]; omega) fun H3 S3 e3 => ?_
      walk_at "gg"
      refine ⟨hr + 1 + r, ns ++ [hr + 1 + r], _, rfl, S3, by rw [e3, List.map_append]; rfl, by rw [List.length_append, hl]; rfl, ?_, ?_, by omega, by omega⟩
      · refine List.pairwise_append.mpr ⟨pw, List.pairwise_singleton _ _, fun x hx y hy => ?_⟩
        rw [List.mem_singleton.mp hy]
        have := (bd x hx).2
        omega
      · intro n hn
        rcases List.mem_append.mp hn with hn | hn
        · have := bd n hn
          omega
        · rw [List.mem_singleton.mp hn]
          omega
    · rintro σ H' ⟨hr, ns, v, rfl, S, e, hl, pw, bd, b1, b2⟩
      walk_at "gg"
      refine k ns p H' (by omega) pw (fun n hn => ?_) (same_free SH np) (SH.trans S) e
      have := bd n hn
      omega
end
end Gk

namespace Gk
open PySem L2 Gx
open C8 (Cal Met Mak pe_c pe_mt pe_mt0 pe_mk pe_gc)
local macro_rules | `(tactic| walk_at "g") => `(tactic| (first
  | with_reducible refine g_seq ?_ | with_reducible refine g_asg ?_ | ((with_reducible show tVar _ _ _ _); refine g_var rfl ?_) | with_reducible refine g_c ?_ | with_reducible refine g_name ?_ | with_reducible refine g_op ?_ | with_reducible refine g_I0 ?_
  | with_reducible refine g_cons ?_ | with_reducible refine g_nil ?_ | with_reducible refine g_exbl ?_ | with_reducible refine g_exint ?_ | with_reducible refine g_test ?_ | with_reducible refine g_B ?_ | with_reducible refine g_ifS ?_ | with_reducible refine g_ret ?_ | with_reducible refine g_retN ?_ | with_reducible refine g_next ?_
  | with_reducible refine g_CB ?_ | with_reducible refine g_sub ?_ | with_reducible refine g_drop ?_ | with_reducible refine g_not ?_ | with_reducible refine g_and ?_ | with_reducible refine g_or ?_ | with_reducible refine g_andV ?_ | with_reducible refine g_orV ?_ | with_reducible refine g_notV ?_ | with_reducible refine g_ifE ?_ | with_reducible refine g_isN ?_
  | with_reducible refine g_par ?_ | with_reducible refine g_expar ?_ | with_reducible refine g_chain ?_ | with_reducible refine g_un ?_ | with_reducible refine g_U ?_ | with_reducible refine g_bits ?_ | ((with_reducible show rEq _ _ _ _); refine g_eq rfl ?_) | ((with_reducible show rNe _ _ _ _); refine g_ne rfl ?_)
  | with_reducible refine g_for ?_ | with_reducible refine g_iRng1 ?_ | with_reducible refine g_iRng2 ?_ | with_reducible refine g_iList ?_ | with_reducible refine g_iTup ?_
  | ((with_reducible refine g_Imul ?hc ?_); (case hc => (first | (refine Or.inl ⟨?_, ?_⟩ <;> first | decide | omega) | (refine Or.inr ⟨?_, ?_⟩ <;> first | decide | omega))))
  | ((with_reducible refine g_Idiv ?hc ?_); (case hc => (first | (exact ⟨by decide, by decide⟩) | assumption)))
  | ((with_reducible refine g_Imod ?hc ?_); (case hc => (first | assumption | omega | decide)))
  | ((with_reducible refine g_exR1 ?hlo ?hhi ?_); (case hlo => omega); (case hhi => omega))
  | ((with_reducible refine g_exR2 ?hb ?_); (case hb => omega))
  | with_reducible refine g_lst ?_ | with_reducible refine g_tup ?_ | with_reducible refine g_call ?_ | with_reducible refine g_BM ?_ | with_reducible refine g_BM0 ?_
  | with_reducible refine g_intB ?_ | with_reducible refine g_lc ?_ | with_reducible refine g_yes ?_ | with_reducible refine g_iZip ?_ | with_reducible refine g_sl ?_ | with_reducible refine g_noP ?_ | with_reducible refine g_part ?_ | with_reducible refine g_gcons ?_ | with_reducible refine g_gnil ?_
  | with_reducible refine g_tfld ?_ | with_reducible refine g_tmeth ?_ | with_reducible refine g_tmake ?_ | with_reducible refine g_sfld ?_ | with_reducible refine g_tprop ?_ | with_reducible refine g_tstar ?_ | with_reducible refine g_tmethK ?_ | with_reducible refine g_isN1 ?_ | with_reducible refine g_notN1 ?_))
local macro_rules | `(tactic| walk_at "gs1") => `(tactic| (first
  | with_reducible refine g_seq ?_ | with_reducible refine g_asg ?_ | ((with_reducible show tVar _ _ _ _); refine g_var rfl ?_) | with_reducible refine g_c ?_ | with_reducible refine g_name ?_ | with_reducible refine g_op ?_ | with_reducible refine g_I0 ?_
  | with_reducible refine g_cons ?_ | with_reducible refine g_nil ?_ | with_reducible refine g_exbl ?_ | with_reducible refine g_exint ?_ | with_reducible refine g_test ?_ | with_reducible refine g_B ?_ | with_reducible refine g_ifS ?_ | with_reducible refine g_retN ?_ | with_reducible refine g_next ?_
  | with_reducible refine g_CB ?_ | with_reducible refine g_sub ?_ | with_reducible refine g_drop ?_ | with_reducible refine g_not ?_ | with_reducible refine g_and ?_ | with_reducible refine g_or ?_ | with_reducible refine g_andV ?_ | with_reducible refine g_orV ?_ | with_reducible refine g_notV ?_ | with_reducible refine g_ifE ?_ | with_reducible refine g_isN ?_
  | with_reducible refine g_par ?_ | with_reducible refine g_expar ?_ | with_reducible refine g_chain ?_ | with_reducible refine g_un ?_ | with_reducible refine g_U ?_ | with_reducible refine g_bits ?_ | ((with_reducible show rEq _ _ _ _); refine g_eq rfl ?_) | ((with_reducible show rNe _ _ _ _); refine g_ne rfl ?_)
  | with_reducible refine g_for ?_ | with_reducible refine g_iRng1 ?_ | with_reducible refine g_iRng2 ?_ | with_reducible refine g_iList ?_ | with_reducible refine g_iTup ?_
  | ((with_reducible refine g_Imul ?hc ?_); (case hc => (first | (refine Or.inl ⟨?_, ?_⟩ <;> first | decide | omega) | (refine Or.inr ⟨?_, ?_⟩ <;> first | decide | omega))))
  | ((with_reducible refine g_Idiv ?hc ?_); (case hc => (first | (exact ⟨by decide, by decide⟩) | assumption)))
  | ((with_reducible refine g_Imod ?hc ?_); (case hc => (first | assumption | omega | decide)))
  | ((with_reducible refine g_exR1 ?hlo ?hhi ?_); (case hlo => omega); (case hhi => omega))
  | ((with_reducible refine g_exR2 ?hb ?_); (case hb => omega))
  | with_reducible refine g_lst ?_ | with_reducible refine g_tup ?_ | with_reducible refine g_call ?_ | with_reducible refine g_BM ?_ | with_reducible refine g_BM0 ?_
  | with_reducible refine g_intB ?_ | with_reducible refine g_lc ?_ | with_reducible refine g_yes ?_ | with_reducible refine g_iZip ?_ | with_reducible refine g_sl ?_ | with_reducible refine g_noP ?_ | with_reducible refine g_part ?_ | with_reducible refine g_gcons ?_ | with_reducible refine g_gnil ?_
  | with_reducible refine g_tfld ?_ | with_reducible refine g_tmeth ?_ | with_reducible refine g_tmake ?_ | with_reducible refine g_sfld ?_ | with_reducible refine g_tprop ?_ | with_reducible refine g_tstar ?_ | with_reducible refine g_tmethK ?_ | with_reducible refine g_isN1 ?_ | with_reducible refine g_notN1 ?_))
local macro_rules | `(tactic| walk_at "gx1") => `(tactic| (first
  | with_reducible refine g_seq ?_ | with_reducible refine g_asg ?_ | ((with_reducible show tVar _ _ _ _); refine g_var rfl ?_) | with_reducible refine g_c ?_ | with_reducible refine g_name ?_ | with_reducible refine g_op ?_ | with_reducible refine g_I0 ?_
  | with_reducible refine g_cons ?_ | with_reducible refine g_nil ?_ | with_reducible refine g_exbl ?_ | with_reducible refine g_exint ?_ | with_reducible refine g_test ?_ | with_reducible refine g_B ?_ | with_reducible refine g_ifS ?_ | with_reducible refine g_retN ?_ | with_reducible refine g_next ?_
  | with_reducible refine g_CB ?_ | with_reducible refine g_sub ?_ | with_reducible refine g_drop ?_ | with_reducible refine g_not ?_ | with_reducible refine g_and ?_ | with_reducible refine g_or ?_ | with_reducible refine g_andV ?_ | with_reducible refine g_orV ?_ | with_reducible refine g_notV ?_ | with_reducible refine g_ret ?_ | with_reducible refine g_isN ?_
  | with_reducible refine g_par ?_ | with_reducible refine g_expar ?_ | with_reducible refine g_chain ?_ | with_reducible refine g_un ?_ | with_reducible refine g_U ?_ | with_reducible refine g_bits ?_ | ((with_reducible show rEq _ _ _ _); refine g_eq rfl ?_) | ((with_reducible show rNe _ _ _ _); refine g_ne rfl ?_)
  | with_reducible refine g_for ?_ | with_reducible refine g_iRng1 ?_ | with_reducible refine g_iRng2 ?_ | with_reducible refine g_iList ?_ | with_reducible refine g_iTup ?_
  | ((with_reducible refine g_Imul ?hc ?_); (case hc => (first | (refine Or.inl ⟨?_, ?_⟩ <;> first | decide | omega) | (refine Or.inr ⟨?_, ?_⟩ <;> first | decide | omega))))
  | ((with_reducible refine g_Idiv ?hc ?_); (case hc => (first | (exact ⟨by decide, by decide⟩) | assumption)))
  | ((with_reducible refine g_Imod ?hc ?_); (case hc => (first | assumption | omega | decide)))
  | ((with_reducible refine g_exR1 ?hlo ?hhi ?_); (case hlo => omega); (case hhi => omega))
  | ((with_reducible refine g_exR2 ?hb ?_); (case hb => omega))
  | with_reducible refine g_lst ?_ | with_reducible refine g_tup ?_ | with_reducible refine g_call ?_ | with_reducible refine g_BM ?_ | with_reducible refine g_BM0 ?_
  | with_reducible refine g_intB ?_ | with_reducible refine g_lc ?_ | with_reducible refine g_yes ?_ | with_reducible refine g_iZip ?_ | with_reducible refine g_sl ?_ | with_reducible refine g_noP ?_ | with_reducible refine g_part ?_ | with_reducible refine g_gcons ?_ | with_reducible refine g_gnil ?_
  | with_reducible refine g_tfld ?_ | with_reducible refine g_tmeth ?_ | with_reducible refine g_tmake ?_ | with_reducible refine g_sfld ?_ | with_reducible refine g_tprop ?_ | with_reducible refine g_tstar ?_ | with_reducible refine g_tmethK ?_ | with_reducible refine g_isN1 ?_ | with_reducible refine g_notN1 ?_))
local macro_rules | `(tactic| walk_at "hp") => `(tactic| (first | assumption | exact upd_same | (refine same_get (by assumption) ?_; walk_at "hp")))
local macro_rules | `(tactic| walk_at "sm") => `(tactic| (first | assumption | exact Same.refl _ | (refine Same.trans ?ha (by assumption); walk_at "sm")))
local macro_rules | `(tactic| walk_at "nn") => `(tactic| (first | assumption | (refine same_free (by assumption) ?_; walk_at "nn")))
local macro_rules | `(tactic| walk_at "sb") => `(tactic| (first | decide | (refine small_bits ?_ ?_ <;> omega)))
local macro_rules | `(tactic| walk_at "ln") => `(tactic| (simp only [List.length_cons, List.length_nil]; omega))
local macro_rules | `(tactic| walk_at "gg") => `(tactic| (repeat walk_at "g"))
local macro_rules | `(tactic| walk_at "gs") => `(tactic| (repeat walk_at "gs1"))
local macro_rules | `(tactic| walk_at "gx") => `(tactic| (repeat walk_at "gx1"))

section
variable {P : Program} {w : World} {K : PySem.W.Frag} {mg : Str → Option Value} {base : Heap} {X : Cx}
/-- a number at or beside one of a list of ints of at most sixty digits -/
def spNear (K : PySem.W.Frag) : Sp := fun vs H Q _ => ∃ (f a : Addr) (ns : List Int), vs = [.ref f, .ref a] ∧ H f = some (FlowO f) ∧ SqL K H a (ns.map V.int) ∧ ns.length ≤ 100000 ∧ (∀ n ∈ ns, -1000000000000000000000000000000000000000000000000000000000000 ≤ n ∧ n ≤ 1000000000000000000000000000000000000000000000000000000000000) ∧
  ∀ (n : Int) (H' : Hp), -2000000000000000000000000000000000000000000000000000000000000 ≤ n → n ≤ 2000000000000000000000000000000000000000000000000000000000000 → Same H H' → Q (.int n) H'
abbrev s_near : Stmt := top 21
abbrev N_near : List Str := ["_law_flow_here", "_law_spots_here", "_law_spot"]
theorem sc_near : FnScope N_near ["_law_flow_here", "_law_spots_here"] (defScope s_near) := ⟨rfl, rfl, rfl, by decide +kernel, rfl, by decide +kernel, by decide +kernel⟩

theorem ok_near {f : Addr} {fd : FuncData} (D : Dn K mg "_law_near" s_near ["_law_flow_here", "_law_spots_here"] f fd) (T : Bt mg) (c__law_dip : Cal P w K mg base 1 "_law_dip" spDip []) : Cal P w K mg base 2 "_law_near" (spNear K) [] := by
  refine cal_of D (D.fn.ok sc_near (fun vs H Q E h => ?_) (fun cdv A outer s H vs Q E hr h => ?_))
  · obtain ⟨f, a, ns, rfl, _⟩ := h
    rfl
  · obtain ⟨f, a, ns, rfl, hf, ha, hl, hb, k⟩ := h
    refine ⟨_, (pss_cons (ps_if (pt_cmpR (op_eqD hr.units) (pv 1) (pe_lst pa_nil) (nomark _)) (pss_one (ps_ret (pe_op op_sub (pe_c c__law_dip hr (by decide) (by rfl) (pa_cons (pv 0) (pa_cons pe_int pa_nil))) pe_int))) pss_nil)
    (pss_cons (ps_set (i := 2) sc_near.nd rfl (Or.inl rfl) (pe_ix ix_list (pv 1) (pe_c c__law_dip hr (by decide) (by rfl) (pa_cons (pv 0) (pa_cons (pe_callB cr_lenQ (by rfl) T.n_len bt_len (pa_cons (pv 1) pa_nil)) pa_nil))) (fun _ _ => rfl)))
    (pss_one (ps_ret (pe_op op_add (pv 2) (pe_ix ix_list (pe_lst (pa_cons pe_int (pa_cons pe_int (pa_cons (pe_un un_neg pe_int) (pa_cons pe_int (pa_cons (pe_un un_neg pe_int) (pa_cons (pe_op op_sub (pe_c c__law_dip hr (by decide) (by rfl) (pa_cons (pv 0) (pa_cons pe_int pa_nil))) pe_int) (pa_cons (pe_c c__law_dip hr (by decide) (by rfl) (pa_cons (pv 0) (pa_cons (pe_op op_pow pe_int pe_int) pa_nil))) pa_nil)))))))) (pe_c c__law_dip hr (by decide) (by rfl) (pa_cons (pv 0) (pa_cons pe_int pa_nil))) (fun _ _ => rfl))))))), ?_⟩
    walk_at "gg"
    refine g_mkL (by walk_at "ln") fun p1 H1 n1 S1 e1 => ?_
    refine g_eqI (same_sq S1 ha) (ms := []) (SqL.of e1) ?_
    walk_at "gg"
    refine g_ite (fun c => ?_) (fun c => ?_)
    · walk_at "gg"
      refine g_dip (by walk_at "hp") (by omega) (by walk_at "sb") fun r H2 a2 b2 S2 => ?_
      walk_at "gg"
      exact k _ _ (by omega) (by omega) (S1.trans S2)
    · have hpos : 0 < ns.length := List.length_pos_iff.mpr c
      walk_at "gg"
      refine g_len (same_sq S1 ha) ?_
      walk_at "gg"
      rw [List.length_map]
      refine g_dip (by walk_at "hp") (by omega) (by walk_at "sb") fun r H2 a2 b2 S2 => ?_
      refine g_ixN (same_sq S2 (same_sq S1 ha)) a2 b2 fun n hn _ => ?_
      have hb1 := hb n hn
      walk_at "gg"
      refine g_dip (by walk_at "hp") (by omega) (by walk_at "sb") fun r3 H3 a3 b3 S3 => ?_
      walk_at "gg"
      refine g_pow (c := 100000000000000000000000000000000000000000000000000) ⟨by decide, by decide, by decide⟩ (by decide) ?_
      walk_at "gg"
      refine g_dip (by walk_at "hp") (by omega) (by walk_at "sb") fun r4 H4 a4 b4 S4 => ?_
      walk_at "gg"
      refine g_mkL (by walk_at "ln") fun p5 H5 n5 S5 e5 => ?_
      walk_at "gg"
      refine g_dip (by walk_at "hp") (by omega) (by walk_at "sb") fun r6 H6 a6 b6 S6 => ?_
      refine g_ixI (fun n => -100 ≤ n ∧ n ≤ 100000000000000000000000000000000000000000000000000) (S6 _ _ e5) a6 b6 (all_cons ⟨_, rfl, by omega⟩ (all_cons ⟨_, rfl, by omega⟩ (all_cons ⟨_, rfl, by omega⟩ (all_cons ⟨_, rfl, by omega⟩ (all_cons ⟨_, rfl, by omega⟩ (all_cons ⟨_, rfl, by omega⟩ (all_cons ⟨_, rfl, by omega⟩ all_nil))))))) fun d ⟨d1, d2⟩ => ?_
      walk_at "gg"
      exact k _ _ (by omega) (by omega) (by walk_at "sm")
end
end Gk

namespace Gk
open PySem L2 Gx
open C8 (Cal Met Mak pe_c pe_mt pe_mt0 pe_mk pe_gc)
local macro_rules | `(tactic| walk_at "g") => `(tactic| (first
  | with_reducible refine g_seq ?_ | with_reducible refine g_asg ?_ | ((with_reducible show tVar _ _ _ _); refine g_var rfl ?_) | with_reducible refine g_c ?_ | with_reducible refine g_name ?_ | with_reducible refine g_op ?_ | with_reducible refine g_I0 ?_
  | with_reducible refine g_cons ?_ | with_reducible refine g_nil ?_ | with_reducible refine g_exbl ?_ | with_reducible refine g_exint ?_ | with_reducible refine g_test ?_ | with_reducible refine g_B ?_ | with_reducible refine g_ifS ?_ | with_reducible refine g_ret ?_ | with_reducible refine g_retN ?_ | with_reducible refine g_next ?_
  | with_reducible refine g_CB ?_ | with_reducible refine g_sub ?_ | with_reducible refine g_drop ?_ | with_reducible refine g_not ?_ | with_reducible refine g_and ?_ | with_reducible refine g_or ?_ | with_reducible refine g_andV ?_ | with_reducible refine g_orV ?_ | with_reducible refine g_notV ?_ | with_reducible refine g_ifE ?_ | with_reducible refine g_isN ?_
  | with_reducible refine g_par ?_ | with_reducible refine g_expar ?_ | with_reducible refine g_chain ?_ | with_reducible refine g_un ?_ | with_reducible refine g_U ?_ | with_reducible refine g_bits ?_ | ((with_reducible show rEq _ _ _ _); refine g_eq rfl ?_) | ((with_reducible show rNe _ _ _ _); refine g_ne rfl ?_)
  | with_reducible refine g_for ?_ | with_reducible refine g_iRng1 ?_ | with_reducible refine g_iRng2 ?_ | with_reducible refine g_iList ?_ | with_reducible refine g_iTup ?_
  | ((with_reducible refine g_Imul ?hc ?_); (case hc => (first | (refine Or.inl ⟨?_, ?_⟩ <;> first | decide | omega) | (refine Or.inr ⟨?_, ?_⟩ <;> first | decide | omega))))
  | ((with_reducible refine g_Idiv ?hc ?_); (case hc => (first | (exact ⟨by decide, by decide⟩) | assumption)))
  | ((with_reducible refine g_Imod ?hc ?_); (case hc => (first | assumption | omega | decide)))
  | ((with_reducible refine g_exR1 ?hlo ?hhi ?_); (case hlo => omega); (case hhi => omega))
  | ((with_reducible refine g_exR2 ?hb ?_); (case hb => omega))
  | with_reducible refine g_lst ?_ | with_reducible refine g_tup ?_ | with_reducible refine g_call ?_ | with_reducible refine g_BM ?_ | with_reducible refine g_BM0 ?_
  | with_reducible refine g_intB ?_ | with_reducible refine g_lc ?_ | with_reducible refine g_yes ?_ | with_reducible refine g_iZip ?_ | with_reducible refine g_sl ?_ | with_reducible refine g_noP ?_ | with_reducible refine g_part ?_ | with_reducible refine g_gcons ?_ | with_reducible refine g_gnil ?_
  | with_reducible refine g_tfld ?_ | with_reducible refine g_tmeth ?_ | with_reducible refine g_tmake ?_ | with_reducible refine g_sfld ?_ | with_reducible refine g_tprop ?_ | with_reducible refine g_tstar ?_ | with_reducible refine g_tmethK ?_ | with_reducible refine g_isN1 ?_ | with_reducible refine g_notN1 ?_))
local macro_rules | `(tactic| walk_at "gs1") => `(tactic| (first
  | with_reducible refine g_seq ?_ | with_reducible refine g_asg ?_ | ((with_reducible show tVar _ _ _ _); refine g_var rfl ?_) | with_reducible refine g_c ?_ | with_reducible refine g_name ?_ | with_reducible refine g_op ?_ | with_reducible refine g_I0 ?_
  | with_reducible refine g_cons ?_ | with_reducible refine g_nil ?_ | with_reducible refine g_exbl ?_ | with_reducible refine g_exint ?_ | with_reducible refine g_test ?_ | with_reducible refine g_B ?_ | with_reducible refine g_ifS ?_ | with_reducible refine g_retN ?_ | with_reducible refine g_next ?_
  | with_reducible refine g_CB ?_ | with_reducible refine g_sub ?_ | with_reducible refine g_drop ?_ | with_reducible refine g_not ?_ | with_reducible refine g_and ?_ | with_reducible refine g_or ?_ | with_reducible refine g_andV ?_ | with_reducible refine g_orV ?_ | with_reducible refine g_notV ?_ | with_reducible refine g_ifE ?_ | with_reducible refine g_isN ?_
  | with_reducible refine g_par ?_ | with_reducible refine g_expar ?_ | with_reducible refine g_chain ?_ | with_reducible refine g_un ?_ | with_reducible refine g_U ?_ | with_reducible refine g_bits ?_ | ((with_reducible show rEq _ _ _ _); refine g_eq rfl ?_) | ((with_reducible show rNe _ _ _ _); refine g_ne rfl ?_)
  | with_reducible refine g_for ?_ | with_reducible refine g_iRng1 ?_ | with_reducible refine g_iRng2 ?_ | with_reducible refine g_iList ?_ | with_reducible refine g_iTup ?_
  | ((with_reducible refine g_Imul ?hc ?_); (case hc => (first | (refine Or.inl ⟨?_, ?_⟩ <;> first | decide | omega) | (refine Or.inr ⟨?_, ?_⟩ <;> first | decide | omega))))
  | ((with_reducible refine g_Idiv ?hc ?_); (case hc => (first | (exact ⟨by decide, by decide⟩) | assumption)))
  | ((with_reducible refine g_Imod ?hc ?_); (case hc => (first | assumption | omega | decide)))
  | ((with_reducible refine g_exR1 ?hlo ?hhi ?_); (case hlo => omega); (case hhi => omega))
  | ((with_reducible refine g_exR2 ?hb ?_); (case hb => omega))
  | with_reducible refine g_lst ?_ | with_reducible refine g_tup ?_ | with_reducible refine g_call ?_ | with_reducible refine g_BM ?_ | with_reducible refine g_BM0 ?_
  | with_reducible refine g_intB ?_ | with_reducible refine g_lc ?_ | with_reducible refine g_yes ?_ | with_reducible refine g_iZip ?_ | with_reducible refine g_sl ?_ | with_reducible refine g_noP ?_ | with_reducible refine g_part ?_ | with_reducible refine g_gcons ?_ | with_reducible refine g_gnil ?_
  | with_reducible refine g_tfld ?_ | with_reducible refine g_tmeth ?_ | with_reducible refine g_tmake ?_ | with_reducible refine g_sfld ?_ | with_reducible refine g_tprop ?_ | with_reducible refine g_tstar ?_ | with_reducible refine g_tmethK ?_ | with_reducible refine g_isN1 ?_ | with_reducible refine g_notN1 ?_))
local macro_rules | `(tactic| walk_at "gx1") => `(tactic| (first
  | with_reducible refine g_seq ?_ | with_reducible refine g_asg ?_ | ((with_reducible show tVar _ _ _ _); refine g_var rfl ?_) | with_reducible refine g_c ?_ | with_reducible refine g_name ?_ | with_reducible refine g_op ?_ | with_reducible refine g_I0 ?_
  | with_reducible refine g_cons ?_ | with_reducible refine g_nil ?_ | with_reducible refine g_exbl ?_ | with_reducible refine g_exint ?_ | with_reducible refine g_test ?_ | with_reducible refine g_B ?_ | with_reducible refine g_ifS ?_ | with_reducible refine g_retN ?_ | with_reducible refine g_next ?_
  | with_reducible refine g_CB ?_ | with_reducible refine g_sub ?_ | with_reducible refine g_drop ?_ | with_reducible refine g_not ?_ | with_reducible refine g_and ?_ | with_reducible refine g_or ?_ | with_reducible refine g_andV ?_ | with_reducible refine g_orV ?_ | with_reducible refine g_notV ?_ | with_reducible refine g_ret ?_ | with_reducible refine g_isN ?_
  | with_reducible refine g_par ?_ | with_reducible refine g_expar ?_ | with_reducible refine g_chain ?_ | with_reducible refine g_un ?_ | with_reducible refine g_U ?_ | with_reducible refine g_bits ?_ | ((with_reducible show rEq _ _ _ _); refine g_eq rfl ?_) | ((with_reducible show rNe _ _ _ _); refine g_ne rfl ?_)
  | with_reducible refine g_for ?_ | with_reducible refine g_iRng1 ?_ | with_reducible refine g_iRng2 ?_ | with_reducible refine g_iList ?_ | with_reducible refine g_iTup ?_
  | ((with_reducible refine g_Imul ?hc ?_); (case hc => (first | (refine Or.inl ⟨?_, ?_⟩ <;> first | decide | omega) | (refine Or.inr ⟨?_, ?_⟩ <;> first | decide | omega))))
  | ((with_reducible refine g_Idiv ?hc ?_); (case hc => (first | (exact ⟨by decide, by decide⟩) | assumption)))
  | ((with_reducible refine g_Imod ?hc ?_); (case hc => (first | assumption | omega | decide)))
  | ((with_reducible refine g_exR1 ?hlo ?hhi ?_); (case hlo => omega); (case hhi => omega))
  | ((with_reducible refine g_exR2 ?hb ?_); (case hb => omega))
  | with_reducible refine g_lst ?_ | with_reducible refine g_tup ?_ | with_reducible refine g_call ?_ | with_reducible refine g_BM ?_ | with_reducible refine g_BM0 ?_
  | with_reducible refine g_intB ?_ | with_reducible refine g_lc ?_ | with_reducible refine g_yes ?_ | with_reducible refine g_iZip ?_ | with_reducible refine g_sl ?_ | with_reducible refine g_noP ?_ | with_reducible refine g_part ?_ | with_reducible refine g_gcons ?_ | with_reducible refine g_gnil ?_
  | with_reducible refine g_tfld ?_ | with_reducible refine g_tmeth ?_ | with_reducible refine g_tmake ?_ | with_reducible refine g_sfld ?_ | with_reducible refine g_tprop ?_ | with_reducible refine g_tstar ?_ | with_reducible refine g_tmethK ?_ | with_reducible refine g_isN1 ?_ | with_reducible refine g_notN1 ?_))
local macro_rules | `(tactic| walk_at "hp") => `(tactic| (first | assumption | exact upd_same | (refine same_get (by assumption) ?_; walk_at "hp")))
local macro_rules | `(tactic| walk_at "sm") => `(tactic| (first | assumption | exact Same.refl _ | (refine Same.trans ?ha (by assumption); walk_at "sm")))
local macro_rules | `(tactic| walk_at "nn") => `(tactic| (first | assumption | (refine same_free (by assumption) ?_; walk_at "nn")))
local macro_rules | `(tactic| walk_at "sb") => `(tactic| (first | decide | (refine small_bits ?_ ?_ <;> omega)))
local macro_rules | `(tactic| walk_at "ln") => `(tactic| (simp only [List.length_cons, List.length_nil]; omega))
local macro_rules | `(tactic| walk_at "gg") => `(tactic| (repeat walk_at "g"))
local macro_rules | `(tactic| walk_at "gs") => `(tactic| (repeat walk_at "gs1"))
local macro_rules | `(tactic| walk_at "gx") => `(tactic| (repeat walk_at "gx1"))

local macro_rules | `(tactic| walk_at "gw") => `(tactic| (repeat (first | with_reducible refine g_name ?_ | with_reducible refine g_next ?_ | with_reducible refine g_seq ?_ | with_reducible refine g_asg ?_)))
section
variable {P : Program} {w : World} {K : PySem.W.Frag} {mg : Str → Option Value} {base : Heap} {X : Cx}
theorem leftOk_some (a : Int) (hl : Bool) (x : Int) : leftOk (some a) hl x = (decide (a < x) || (decide (x = a) && hl)) := by
  show (!(decide (x < a) || (decide (x = a) && !hl))) = _
  rcases Int.lt_trichotomy x a with h | h | h
  · simp [h, show ¬ a < x by omega, show ¬ x = a by omega]
  · subst h
    simp
  · simp [h, show ¬ x < a by omega, show ¬ x = a by omega]
theorem noLst_bool (b : Bool) : noLst (.bool b) = true := by simp [noLst]
def spGreat9 : Sp := fun vs H Q _ => ∃ (f a : Addr) (ns : List Int), vs = [.ref f, .ref a] ∧ H f = some (FlowO f) ∧ H a = some (.lst (ns.map V.int)) ∧ ns.length ≤ 500 ∧ ns.Pairwise (· < ·) ∧ (∀ n ∈ ns, -1000000000000000000000000000000000000000000000000000000000000 ≤ n ∧ n ≤ 1000000000000000000000000000000000000000000000000000000000000) ∧ ∀ H', Same H H' → Q (.bl true) H'
abbrev s_great_right : Stmt := top 28
abbrev N_great_right : List Str := ["_law_flow_here", "_law_rows", "_law_line_here", "_law_turn", "_law_skipped", "_law_ends", "_law_one", "_law_due", "_law_is_due", "_law_told"]
theorem sc_great_right : FnScope N_great_right ["_law_flow_here", "_law_rows"] (defScope s_great_right) := ⟨rfl, rfl, rfl, by decide +kernel, rfl, by decide +kernel, by decide +kernel⟩

theorem ok_great9 {f CK : Addr} {fd : FuncData} (D : Dn K mg "_law_great_right" s_great_right ["_law_flow_here", "_law_rows"] f fd) (T : Bt mg) (m_KeyLine : Mak P w K mg base 3 "KeyLine" CK (spInitI K CK) []) (p_points : PropR P w K mg base 1 CK "points" (spPoints K CK)) (c__law_near : Cal P w K mg base 2 "_law_near" (spNear K) []) (c__law_inner : Cal P w K mg base 2 "_law_inner" spSome [])
    (c__law_nearest : Cal P w K mg base 1 "_law_nearest" spNearest []) (c_reach : Cal P w K mg base 5 "reach" (spReach CK) []) (c_in_reach : Cal P w K mg base 6 "in_reach" (spInR CK) []) : FnG P w K mg base 7 f fd ["_law_flow_here", "_law_rows"] spGreat9 := by
  refine fnG_of D.fn sc_great_right (fun vs H Q E h => ?_) (fun cdv A outer s H vs Q E gd hr h => ?_)
  · obtain ⟨p, a, ns, rfl, _⟩ := h
    rfl
  · obtain ⟨f, a, ns, rfl, hf, ha, hl, up, hb, k⟩ := h
    refine ⟨_, (pss_cons (ps_set (i := 2) sc_great_right.nd rfl (Or.inl rfl) (pe_mk m_KeyLine hr (by decide) (by rfl) (pa_cons (pe_callTy cr_listQ (by rfl) T.n_list bt_list (pa_cons (pv 1) pa_nil)) pa_nil)))
    (pss_cons (ps_for PassesOwn.never rfl (pi_range1 (by rfl) T.n_range (pa_cons pe_int pa_nil)) (pg_name (i := 3) sc_great_right.nd rfl (Or.inl rfl)) (pss_cons (ps_set (i := 4) sc_great_right.nd rfl (Or.inr rfl) (pe_c c__law_inner hr (by decide) (by rfl) (pa_cons (pv 0) (pa_cons (pv 1) pa_nil))))
    (pss_cons (ps_set (i := 5) sc_great_right.nd rfl (Or.inl rfl) (pe_callB cr_sorted (by rfl) T.n_sorted bt_sorted (pa_cons (pe_lst (pa_cons (pe_c c__law_near hr (by decide) (by rfl) (pa_cons (pv 0) (pa_cons (pv 1) pa_nil))) (pa_cons (pe_c c__law_near hr (by decide) (by rfl) (pa_cons (pv 0) (pa_cons (pv 1) pa_nil))) pa_nil))) pa_nil)))
    (pss_cons (ps_set (i := 7) sc_great_right.nd rfl (Or.inl rfl) (pe_c c__law_nearest hr (by decide) (by rfl) (pa_cons (pe_lc (own := [("_law_one", 6)]) (g := gName 6) rfl sc_great_right.nd (pi_list (pv 1)) (blkOk_by (own := [("_law_one", 6)]) (N := N_great_right) (sc := defScope s_great_right) (by decide +kernel)) (fun _ _ _ _ _ => pg_name (i := 6) sc_great_right.nd rfl (Or.inl rfl)) (fun _ _ _ _ _ => (pts_one (pt_cmpR (show OpR _ (compareOp .NotIn) (rIn K true) from op_notIn_seq) (pv 6) (pv 4) (by rfl)))) (fun _ _ _ _ _ => (pv 6))) (pa_cons (pe_ix ix_list (pv 5) pe_int (fun _ _ => rfl)) (pa_cons (pe_ix ix_list (pv 5) pe_int (fun _ _ => rfl)) pa_nil)))))
    (pss_cons (ps_set (i := 6) sc_great_right.nd rfl (Or.inl rfl) (pe_c c__law_near hr (by decide) (by rfl) (pa_cons (pv 0) (pa_cons (pv 1) pa_nil))))
    (pss_cons (ps_set (i := 8) sc_great_right.nd rfl (Or.inl rfl) (pe_or (pe_cmpR op_isN1 (pe_ix ix_tup (pv 7) pe_int (fun _ _ => rfl)) pe_non (nomark _)) (pe_or (pe_cmpR op_gt (pv 6) (pe_ix ix_tup (pv 7) pe_int (fun _ _ => rfl)) (nomark _)) (pe_one (pe_and (pe_cmpR op_eq (pv 6) (pe_ix ix_tup (pv 7) pe_int (fun _ _ => rfl)) (nomark _)) (pe_one (pe_ix ix_tup (pv 7) pe_int (fun _ _ => rfl))))))))
    (pss_cons (ps_set (i := 8) sc_great_right.nd rfl (Or.inl rfl) (pe_and (pv 8) (pe_one (pe_or (pe_cmpR op_isN1 (pe_ix ix_tup (pv 7) pe_int (fun _ _ => rfl)) pe_non (nomark _)) (pe_or (pe_cmpR op_lt (pv 6) (pe_ix ix_tup (pv 7) pe_int (fun _ _ => rfl)) (nomark _)) (pe_one (pe_and (pe_cmpR op_eq (pv 6) (pe_ix ix_tup (pv 7) pe_int (fun _ _ => rfl)) (nomark _)) (pe_one (pe_ix ix_tup (pv 7) pe_int (fun _ _ => rfl))))))))))
    (pss_cons (ps_set (i := 9) sc_great_right.nd rfl (Or.inl rfl) (pe_lst (pa_cons (pe_c c_reach hr (by decide) (by rfl) (pa_cons (pv 2) (pa_cons (pe_ix ix_list (pv 5) pe_int (fun _ _ => rfl)) (pa_cons (pe_ix ix_list (pv 5) pe_int (fun _ _ => rfl)) (pa_cons (pv 4) pa_nil))))) (pa_cons (pe_c c_in_reach hr (by decide) (by rfl) (pa_cons (pv 2) (pa_cons (pe_ix ix_list (pv 5) pe_int (fun _ _ => rfl)) (pa_cons (pe_ix ix_list (pv 5) pe_int (fun _ _ => rfl)) (pa_cons (pv 4) (pa_cons (pv 6) pa_nil)))))) pa_nil))))
    (pss_one (ps_if (pt_cmpR op_ne (pe_callB (cr_repr gd hr) (by rfl) T.n_repr bt_repr (pa_cons (pv 9) pa_nil)) (pe_callB (cr_repr gd hr) (by rfl) T.n_repr bt_repr (pa_cons (pe_lst (pa_cons (pv 7) (pa_cons (pv 8) pa_nil))) pa_nil)) (nomark _)) (pss_one (ps_ret pe_bl)) pss_nil))))))))))
    (pss_one (ps_ret (pe_cmpR (op_eqD hr.units) (pe_pr p_points hr (by decide) (pv 2)) (pv 1) (nomark _)))))), ?_⟩
    have inb : ∀ n ∈ ns, In80 n := fun n hn => ⟨by have := (hb n hn).1; omega, by have := (hb n hn).2; omega⟩
    have e1 : ∀ a b : Int, decide (V.int a = V.int b) = decide (a = b) := fun a b => decide_eq_decide.mpr ⟨fun z => by injection z, fun z => by rw [z]⟩
    walk_at "gg"
    refine g_listof (SqL.of ha) fun l1 H1 n1 S1 e1' => ?_
    walk_at "gg"
    refine g_make fun x2 d2 H2 n2 S2 e2 => ?_
    refine ⟨x2, l1, d2, ns, rfl, e2, S2 _ _ e1', hl, up, fun H3 L3 B3 => ⟨rfl, ?_⟩⟩
    have S03 : Same H H3 := S1.trans (same_but S2 n2 B3)
    walk_at "gg"
    refine fw_range (fun i σ H' => ∃ v1 v2 v3 v4 v5 v6 v7 : Option V, σ = [some (.ref f), some (.ref a), some (.ref x2), v1, v2, v3, v4, v5, v6, v7] ∧ Same H3 H') ⟨_, _, _, _, _, _, _, rfl, Same.refl _⟩ ?_ ?_
    · rintro i σ H4 hi ⟨v1, v2, v3, v4, v5, v6, v7, rfl, S4⟩
      have S04 := S03.trans S4
      walk_at "gg"
      refine ⟨f, a, ns, rfl, S04 _ _ hf, S04 _ _ ha, hl, fun ss p5 H5 sub n5 S5 e5 => ?_⟩
      have S05 := S04.trans S5
      walk_at "gg"
      refine ⟨f, a, ns, rfl, S05 _ _ hf, SqL.of (S05 _ _ ha), by omega, hb, fun b1 H6 lo1 hi1 S6 => ?_⟩
      walk_at "gg"
      refine ⟨f, a, ns, rfl, (S05.trans S6) _ _ hf, SqL.of ((S05.trans S6) _ _ ha), by omega, hb, fun b2 H7 lo2 hi2 S7 => ?_⟩
      walk_at "gg"
      refine g_mkL (by walk_at "ln") fun l8 H8 n8 S8 e8 => ?_
      walk_at "gg"
      refine g_sorted (ns := [b1, b2]) (SqL.of e8) (by simp) fun ms l9 H9 pm um n9 S9 e9 => ?_
      obtain ⟨lo, hi, rfl, le, lo3, hi3⟩ := two_sorted pm um
      have inlo : In80 lo := ⟨by omega, by omega⟩
      have inhi : In80 hi := ⟨by omega, by omega⟩
      have S59 := ((S6.trans S7).trans S8).trans S9
      have S09 := S05.trans S59
      walk_at "gg"
      refine g_exL (SqL.of (S09 _ _ ha)) ?_
      refine lc_filtI (SqL.of (S09 _ _ ha)) (by omega) (fun m => !decide (m ∈ ss)) (fun m H' Nx No hm S k1 k2 => ?_) fun p10 H10 n10 S10 e10 => ?_
      · walk_at "gg"
        refine ⟨rfl, ?_⟩
        walk_at "gg"
        refine g_notInI (SqL.of (S _ _ (S59 _ _ e5))) ?_
        walk_at "gg"
        refine g_iteN (fun c => ?_) (fun c => ?_)
        · walk_at "gg"
          exact k1 _ (Same.refl _) (by simp [c])
        · exact k2 _ (Same.refl _) (by simp [c])
      change H10 p10 = some (.lst ((keptOf ns ss).map V.int)) at e10
      have upk := kept_up ss up
      have lk := kept_len ns ss
      have e9' := S10 _ _ e9
      walk_at "gg"
      refine ⟨l9, _, 0, _, rfl, rfl, SqL.of e9', rfl, ?_⟩
      walk_at "gg"
      refine ⟨l9, _, 1, _, rfl, rfl, SqL.of e9', rfl, ?_⟩
      walk_at "gg"
      refine ⟨p10, keptOf ns ss, lo, hi, rfl, e10, by omega, upk, fun t11 H11 n11 S11 e11 => ?_⟩
      have S011 := (S09.trans S10).trans S11
      walk_at "gg"
      refine ⟨f, a, ns, rfl, S011 _ _ hf, SqL.of (S011 _ _ ha), by omega, hb, fun x H12 x1 x2' S12 => ?_⟩
      have e12 := S12 _ _ e11
      have S012 := S011.trans S12
      have S312 : Same H3 H12 := (((S4.trans S5).trans S59).trans (S10.trans S11)).trans S12
      walk_at "gw"
      refine g_cutE (fun v H' => v = .bl (leftOk (leftOf (keptOf ns ss) lo) (decide (lo ∈ keptOf ns ss)) x) ∧ H12 = H') (fun Q' kq => ?_) ?_
      · walk_at "gg"
        refine ⟨t11, _, 0, _, rfl, rfl, SqT.of e12, rfl, ?_⟩
        walk_at "gg"
        cases ql : leftOf (keptOf ns ss) lo with
        | none =>
          refine g_iteT rfl ?_
          exact kq _ _ ⟨by rw [ql]; rfl, rfl⟩
        | some z =>
          rw [ql] at e12
          refine g_iteF nofun ?_
          walk_at "gg"
          refine ⟨t11, _, 0, _, rfl, rfl, SqT.of e12, rfl, ?_⟩
          walk_at "gg"
          refine g_ite (fun c => ?_) (fun c => ?_)
          · exact kq _ _ ⟨by rw [ql, leftOk_some, decide_eq_true c]; rfl, rfl⟩
          · walk_at "gg"
            refine ⟨t11, _, 0, _, rfl, rfl, SqT.of e12, rfl, ?_⟩
            walk_at "gg"
            rw [e1]
            refine g_ite (fun d => ?_) (fun d => ?_)
            · walk_at "gg"
              refine ⟨t11, _, 2, _, rfl, rfl, SqT.of e12, rfl, ?_⟩
              exact kq _ _ ⟨by rw [ql, leftOk_some, decide_eq_false c, decide_eq_true d]; rfl, rfl⟩
            · exact kq _ _ ⟨by rw [ql, leftOk_some, decide_eq_false c, decide_eq_false d]; rfl, rfl⟩
      rintro _ _ ⟨rfl, rfl⟩
      walk_at "gw"
      refine g_cutE (fun v H' => v = .bl (heldB (leftOf (keptOf ns ss) lo) (rightOf (keptOf ns ss) hi) (decide (lo ∈ keptOf ns ss)) (decide (hi ∈ keptOf ns ss)) x) ∧ H12 = H') (fun Q' kq => ?_) ?_
      · unfold heldB at kq
        walk_at "gg"
        cases lk : leftOk (leftOf (keptOf ns ss) lo) (decide (lo ∈ keptOf ns ss)) x with
        | false =>
          refine g_ifF rfl ?_
          exact kq _ _ ⟨by rw [lk]; rfl, rfl⟩
        | true =>
          rw [lk] at kq
          refine g_ifT rfl ?_
          walk_at "gg"
          refine ⟨t11, _, 1, _, rfl, rfl, SqT.of e12, rfl, ?_⟩
          walk_at "gg"
          cases qr : rightOf (keptOf ns ss) hi with
          | none =>
            rw [qr] at kq
            refine g_iteT rfl ?_
            exact kq _ _ ⟨rfl, rfl⟩
          | some z =>
            rw [qr] at e12 kq
            refine g_iteF nofun ?_
            walk_at "gg"
            refine ⟨t11, _, 1, _, rfl, rfl, SqT.of e12, rfl, ?_⟩
            walk_at "gg"
            refine g_ite (fun c => ?_) (fun c => ?_)
            · exact kq _ _ ⟨by simp [rightOk, c], rfl⟩
            · walk_at "gg"
              refine ⟨t11, _, 1, _, rfl, rfl, SqT.of e12, rfl, ?_⟩
              walk_at "gg"
              rw [e1]
              refine g_ite (fun d => ?_) (fun d => ?_)
              · walk_at "gg"
                refine ⟨t11, _, 3, _, rfl, rfl, SqT.of e12, rfl, ?_⟩
                exact kq _ _ ⟨by simp [rightOk, c, d], rfl⟩
              · exact kq _ _ ⟨by simp [rightOk, c, d], rfl⟩
      rintro _ _ ⟨rfl, rfl⟩
      generalize hhb : heldB (leftOf (keptOf ns ss) lo) (rightOf (keptOf ns ss) hi) (decide (lo ∈ keptOf ns ss)) (decide (hi ∈ keptOf ns ss)) x = hb'
      have e12 : H12 t11 = some (.tup (reachV ns ss lo hi)) := e12
      have S512 : Same H5 H12 := ((S59.trans S10).trans S11).trans S12
      walk_at "gg"
      refine ⟨l9, _, 0, _, rfl, rfl, SqL.of (S12 _ _ (S11 _ _ e9')), rfl, ?_⟩
      walk_at "gg"
      refine ⟨l9, _, 1, _, rfl, rfl, SqL.of (S12 _ _ (S11 _ _ e9')), rfl, ?_⟩
      walk_at "gg"
      refine ⟨x2, p5, ns, ss, lo, hi, rfl, L3.same S312, up, hl, S512 _ _ e5, sub, le, fun t13 H13 n13 S13 e13 => ?_⟩
      walk_at "gg"
      refine ⟨l9, _, 0, _, rfl, rfl, SqL.of (S13 _ _ (S12 _ _ (S11 _ _ e9'))), rfl, ?_⟩
      walk_at "gg"
      refine ⟨l9, _, 1, _, rfl, rfl, SqL.of (S13 _ _ (S12 _ _ (S11 _ _ e9'))), rfl, ?_⟩
      walk_at "gg"
      refine ⟨x2, p5, ns, ss, lo, hi, x, rfl, (L3.same S312).same S13, up, hl, S13 _ _ (S512 _ _ e5), sub, le, fun H14 S14 => ?_⟩
      rw [hhb]
      walk_at "gg"
      refine g_mkL (by walk_at "ln") fun l15 H15 n15 S15 e15 => ?_
      have ff : Fine 2 11 (.list [reachD ns ss lo hi, .bool hb']) := by
        refine fine_list (n := 1) (m := 5) (xs := [_, _]) fun x hx => ?_
        rcases List.mem_cons.mp hx with rfl | hx
        · exact fine_reach inb inlo inhi
        rcases List.mem_cons.mp hx with rfl | hx
        · exact (fine_bool (n := 1) _).mono (by decide) (by decide)
        · cases hx
      walk_at "gg"
      refine g_repr (.lst (SqL.of e15) (.cons (dp_reach ((S14.trans S15) _ _ e13)) (.cons (.bl _) .nil))) ff (by decide) (by decide) ?_
      walk_at "gg"
      refine g_mkL (by walk_at "ln") fun l16 H16 n16 S16 e16 => ?_
      have S1216 := ((S13.trans S14).trans S15).trans S16
      walk_at "gg"
      refine g_repr (.lst (SqL.of e16) (.cons (dp_reach (S1216 _ _ e12)) (.cons (.bl _) .nil))) ff (by decide) (by decide) ?_
      generalize (PyData.list [reachD ns ss lo hi, .bool hb']).shown = z
      walk_at "gg"
      refine g_ifF (by simp) ?_
      walk_at "gg"
      exact ⟨_, _, _, _, _, _, _, rfl, S312.trans S1216⟩
    · rintro σ H4 ⟨v1, v2, v3, v4, v5, v6, v7, rfl, S4⟩
      obtain ⟨dx, q, hp, hq⟩ := L3.same S4
      walk_at "gg"
      refine g_prop hp ⟨x2, _, rfl, ⟨dx, q, hp, hq⟩, fun l5 H5 n5 S5 e5 => ?_⟩
      walk_at "gg"
      refine g_eqI (SqL.of e5) (SqL.of (S5 _ _ (S4 _ _ (S03 _ _ ha)))) ?_
      rw [decide_eq_true rfl]
      exact k H5 ((S03.trans S4).trans S5)
end
end Gk

namespace Gk
open PySem L2 Gx
open C8 (Cal Met Mak pe_c pe_mt pe_mt0 pe_mk pe_gc)
local macro_rules | `(tactic| walk_at "g") => `(tactic| (first
  | with_reducible refine g_seq ?_ | with_reducible refine g_asg ?_ | ((with_reducible show tVar _ _ _ _); refine g_var rfl ?_) | with_reducible refine g_c ?_ | with_reducible refine g_name ?_ | with_reducible refine g_op ?_ | with_reducible refine g_I0 ?_
  | with_reducible refine g_cons ?_ | with_reducible refine g_nil ?_ | with_reducible refine g_exbl ?_ | with_reducible refine g_exint ?_ | with_reducible refine g_test ?_ | with_reducible refine g_B ?_ | with_reducible refine g_ifS ?_ | with_reducible refine g_ret ?_ | with_reducible refine g_retN ?_ | with_reducible refine g_next ?_
  | with_reducible refine g_CB ?_ | with_reducible refine g_sub ?_ | with_reducible refine g_drop ?_ | with_reducible refine g_not ?_ | with_reducible refine g_and ?_ | with_reducible refine g_or ?_ | with_reducible refine g_andV ?_ | with_reducible refine g_orV ?_ | with_reducible refine g_notV ?_ | with_reducible refine g_ifE ?_ | with_reducible refine g_isN ?_
  | with_reducible refine g_par ?_ | with_reducible refine g_expar ?_ | with_reducible refine g_chain ?_ | with_reducible refine g_un ?_ | with_reducible refine g_U ?_ | with_reducible refine g_bits ?_ | ((with_reducible show rEq _ _ _ _); refine g_eq rfl ?_) | ((with_reducible show rNe _ _ _ _); refine g_ne rfl ?_)
  | with_reducible refine g_for ?_ | with_reducible refine g_iRng1 ?_ | with_reducible refine g_iRng2 ?_ | with_reducible refine g_iList ?_ | with_reducible refine g_iTup ?_
  | ((with_reducible refine g_Imul ?hc ?_); (case hc => (first | (refine Or.inl ⟨?_, ?_⟩ <;> first | decide | omega) | (refine Or.inr ⟨?_, ?_⟩ <;> first | decide | omega))))
  | ((with_reducible refine g_Idiv ?hc ?_); (case hc => (first | (exact ⟨by decide, by decide⟩) | assumption)))
  | ((with_reducible refine g_Imod ?hc ?_); (case hc => (first | assumption | omega | decide)))
  | ((with_reducible refine g_exR1 ?hlo ?hhi ?_); (case hlo => omega); (case hhi => omega))
  | ((with_reducible refine g_exR2 ?hb ?_); (case hb => omega))
  | with_reducible refine g_lst ?_ | with_reducible refine g_tup ?_ | with_reducible refine g_call ?_ | with_reducible refine g_BM ?_ | with_reducible refine g_BM0 ?_
  | with_reducible refine g_intB ?_ | with_reducible refine g_lc ?_ | with_reducible refine g_yes ?_ | with_reducible refine g_iZip ?_ | with_reducible refine g_sl ?_ | with_reducible refine g_noP ?_ | with_reducible refine g_part ?_ | with_reducible refine g_gcons ?_ | with_reducible refine g_gnil ?_
  | with_reducible refine g_tfld ?_ | with_reducible refine g_tmeth ?_ | with_reducible refine g_tmake ?_ | with_reducible refine g_sfld ?_ | with_reducible refine g_tprop ?_ | with_reducible refine g_tstar ?_ | with_reducible refine g_tmethK ?_ | with_reducible refine g_isN1 ?_ | with_reducible refine g_notN1 ?_))
local macro_rules | `(tactic| walk_at "gs1") => `(tactic| (first
  | with_reducible refine g_seq ?_ | with_reducible refine g_asg ?_ | ((with_reducible show tVar _ _ _ _); refine g_var rfl ?_) | with_reducible refine g_c ?_ | with_reducible refine g_name ?_ | with_reducible refine g_op ?_ | with_reducible refine g_I0 ?_
  | with_reducible refine g_cons ?_ | with_reducible refine g_nil ?_ | with_reducible refine g_exbl ?_ | with_reducible refine g_exint ?_ | with_reducible refine g_test ?_ | with_reducible refine g_B ?_ | with_reducible refine g_ifS ?_ | with_reducible refine g_retN ?_ | with_reducible refine g_next ?_
  | with_reducible refine g_CB ?_ | with_reducible refine g_sub ?_ | with_reducible refine g_drop ?_ | with_reducible refine g_not ?_ | with_reducible refine g_and ?_ | with_reducible refine g_or ?_ | with_reducible refine g_andV ?_ | with_reducible refine g_orV ?_ | with_reducible refine g_notV ?_ | with_reducible refine g_ifE ?_ | with_reducible refine g_isN ?_
  | with_reducible refine g_par ?_ | with_reducible refine g_expar ?_ | with_reducible refine g_chain ?_ | with_reducible refine g_un ?_ | with_reducible refine g_U ?_ | with_reducible refine g_bits ?_ | ((with_reducible show rEq _ _ _ _); refine g_eq rfl ?_) | ((with_reducible show rNe _ _ _ _); refine g_ne rfl ?_)
  | with_reducible refine g_for ?_ | with_reducible refine g_iRng1 ?_ | with_reducible refine g_iRng2 ?_ | with_reducible refine g_iList ?_ | with_reducible refine g_iTup ?_
  | ((with_reducible refine g_Imul ?hc ?_); (case hc => (first | (refine Or.inl ⟨?_, ?_⟩ <;> first | decide | omega) | (refine Or.inr ⟨?_, ?_⟩ <;> first | decide | omega))))
  | ((with_reducible refine g_Idiv ?hc ?_); (case hc => (first | (exact ⟨by decide, by decide⟩) | assumption)))
  | ((with_reducible refine g_Imod ?hc ?_); (case hc => (first | assumption | omega | decide)))
  | ((with_reducible refine g_exR1 ?hlo ?hhi ?_); (case hlo => omega); (case hhi => omega))
  | ((with_reducible refine g_exR2 ?hb ?_); (case hb => omega))
  | with_reducible refine g_lst ?_ | with_reducible refine g_tup ?_ | with_reducible refine g_call ?_ | with_reducible refine g_BM ?_ | with_reducible refine g_BM0 ?_
  | with_reducible refine g_intB ?_ | with_reducible refine g_lc ?_ | with_reducible refine g_yes ?_ | with_reducible refine g_iZip ?_ | with_reducible refine g_sl ?_ | with_reducible refine g_noP ?_ | with_reducible refine g_part ?_ | with_reducible refine g_gcons ?_ | with_reducible refine g_gnil ?_
  | with_reducible refine g_tfld ?_ | with_reducible refine g_tmeth ?_ | with_reducible refine g_tmake ?_ | with_reducible refine g_sfld ?_ | with_reducible refine g_tprop ?_ | with_reducible refine g_tstar ?_ | with_reducible refine g_tmethK ?_ | with_reducible refine g_isN1 ?_ | with_reducible refine g_notN1 ?_))
local macro_rules | `(tactic| walk_at "gx1") => `(tactic| (first
  | with_reducible refine g_seq ?_ | with_reducible refine g_asg ?_ | ((with_reducible show tVar _ _ _ _); refine g_var rfl ?_) | with_reducible refine g_c ?_ | with_reducible refine g_name ?_ | with_reducible refine g_op ?_ | with_reducible refine g_I0 ?_
  | with_reducible refine g_cons ?_ | with_reducible refine g_nil ?_ | with_reducible refine g_exbl ?_ | with_reducible refine g_exint ?_ | with_reducible refine g_test ?_ | with_reducible refine g_B ?_ | with_reducible refine g_ifS ?_ | with_reducible refine g_retN ?_ | with_reducible refine g_next ?_
  | with_reducible refine g_CB ?_ | with_reducible refine g_sub ?_ | with_reducible refine g_drop ?_ | with_reducible refine g_not ?_ | with_reducible refine g_and ?_ | with_reducible refine g_or ?_ | with_reducible refine g_andV ?_ | with_reducible refine g_orV ?_ | with_reducible refine g_notV ?_ | with_reducible refine g_ret ?_ | with_reducible refine g_isN ?_
  | with_reducible refine g_par ?_ | with_reducible refine g_expar ?_ | with_reducible refine g_chain ?_ | with_reducible refine g_un ?_ | with_reducible refine g_U ?_ | with_reducible refine g_bits ?_ | ((with_reducible show rEq _ _ _ _); refine g_eq rfl ?_) | ((with_reducible show rNe _ _ _ _); refine g_ne rfl ?_)
  | with_reducible refine g_for ?_ | with_reducible refine g_iRng1 ?_ | with_reducible refine g_iRng2 ?_ | with_reducible refine g_iList ?_ | with_reducible refine g_iTup ?_
  | ((with_reducible refine g_Imul ?hc ?_); (case hc => (first | (refine Or.inl ⟨?_, ?_⟩ <;> first | decide | omega) | (refine Or.inr ⟨?_, ?_⟩ <;> first | decide | omega))))
  | ((with_reducible refine g_Idiv ?hc ?_); (case hc => (first | (exact ⟨by decide, by decide⟩) | assumption)))
  | ((with_reducible refine g_Imod ?hc ?_); (case hc => (first | assumption | omega | decide)))
  | ((with_reducible refine g_exR1 ?hlo ?hhi ?_); (case hlo => omega); (case hhi => omega))
  | ((with_reducible refine g_exR2 ?hb ?_); (case hb => omega))
  | with_reducible refine g_lst ?_ | with_reducible refine g_tup ?_ | with_reducible refine g_call ?_ | with_reducible refine g_BM ?_ | with_reducible refine g_BM0 ?_
  | with_reducible refine g_intB ?_ | with_reducible refine g_lc ?_ | with_reducible refine g_yes ?_ | with_reducible refine g_iZip ?_ | with_reducible refine g_sl ?_ | with_reducible refine g_noP ?_ | with_reducible refine g_part ?_ | with_reducible refine g_gcons ?_ | with_reducible refine g_gnil ?_
  | with_reducible refine g_tfld ?_ | with_reducible refine g_tmeth ?_ | with_reducible refine g_tmake ?_ | with_reducible refine g_sfld ?_ | with_reducible refine g_tprop ?_ | with_reducible refine g_tstar ?_ | with_reducible refine g_tmethK ?_ | with_reducible refine g_isN1 ?_ | with_reducible refine g_notN1 ?_))
local macro_rules | `(tactic| walk_at "hp") => `(tactic| (first | assumption | exact upd_same | (refine same_get (by assumption) ?_; walk_at "hp")))
local macro_rules | `(tactic| walk_at "sm") => `(tactic| (first | assumption | exact Same.refl _ | (refine Same.trans ?ha (by assumption); walk_at "sm")))
local macro_rules | `(tactic| walk_at "nn") => `(tactic| (first | assumption | (refine same_free (by assumption) ?_; walk_at "nn")))
local macro_rules | `(tactic| walk_at "sb") => `(tactic| (first | decide | (refine small_bits ?_ ?_ <;> omega)))
local macro_rules | `(tactic| walk_at "ln") => `(tactic| (simp only [List.length_cons, List.length_nil]; omega))
local macro_rules | `(tactic| walk_at "gg") => `(tactic| (repeat walk_at "g"))
local macro_rules | `(tactic| walk_at "gs") => `(tactic| (repeat walk_at "gs1"))
local macro_rules | `(tactic| walk_at "gx") => `(tactic| (repeat walk_at "gx1"))

section
variable {P : Program} {w : World} {K : PySem.W.Frag} {mg : Str → Option Value} {base : Heap} {X : Cx}
/-- where the draws begin -/
def spFlow0 (K : PySem.W.Frag) : Sp := fun vs H Q _ => ∃ (a : Addr) (ns : List Int) (k : Int), vs = [.ref a, .int k] ∧ SqL K H a (ns.map V.int) ∧ 0 ≤ k ∧
  ∀ (p : Addr) (x y z : Int) (H' : Hp), 0 ≤ x → H p = none → Same H H' → H' p = some (three x y z) → Q (.ref p) H'
def spFlow (K : PySem.W.Frag) : Sp := fun vs H Q _ => ∃ (a : Addr) (ns : List Int) (k : Int), vs = [.ref a, .int k] ∧ SqL K H a (ns.map V.int) ∧ 0 ≤ k ∧
  ∀ (p : Addr) (H' : Hp), H p = none → Same H H' → H' p = some (FlowO p) → Q (.ref p) H'
abbrev s_flow : Stmt := top 18
abbrev N_flow : List Str := ["_law_script", "_law_k", "_law_begin_here"]
theorem sc_flow : FnScope N_flow ["_law_script", "_law_k"] (defScope s_flow) := ⟨rfl, rfl, rfl, by decide +kernel, rfl, by decide +kernel, by decide +kernel⟩

theorem ok_flow0 {f : Addr} {fd : FuncData} (D : Dn K mg "_law_flow" s_flow ["_law_script", "_law_k"] f fd) (T : Bt mg) : FnOk P w K mg base L2.CX0 1 f fd ["_law_script", "_law_k"] (spFlow0 K) := by
  refine D.fn.ok sc_flow (fun vs H Q E h => ?_) (fun cdv A outer s H vs Q E hr h => ?_)
  · obtain ⟨a, ns, k, rfl, _⟩ := h
    rfl
  · obtain ⟨a, ns, n, rfl, ha, hn, k⟩ := h
    refine ⟨_, (pss_cons (ps_set (i := 2) sc_flow.nd rfl (Or.inl rfl) pe_int)
    (pss_cons (ps_if (pt_cmpR op_lt (pv 1) (pe_callB cr_lenQ (by rfl) T.n_len bt_len (pa_cons (pv 0) pa_nil)) (nomark _)) (pss_one (ps_set (i := 2) sc_flow.nd rfl (Or.inl rfl) (pe_ix ix_list (pv 0) (pv 1) (fun _ _ => rfl)))) pss_nil)
    (pss_one (ps_ret (pe_lst (pa_cons (pe_callB (cr_maxQ rfl) (by rfl) T.n_max bt_max (pa_cons pe_int (pa_cons (pe_op op_sub (pe_callB cr_absQ (by rfl) T.n_abs bt_abs (pa_cons (pv 2) pa_nil)) (pe_op op_pow pe_int pe_int)) pa_nil))) (pa_cons (pe_op op_mod (pe_op op_add (pe_op op_add (pe_op op_mul (pv 2) pe_int) (pe_op op_mul pe_int (pv 1))) pe_int) pe_int) (pa_cons pe_int pa_nil)))))))), ?_⟩
    walk_at "gg"
    refine g_len ha ?_
    rw [List.length_map]
    walk_at "gg"
    refine g_iteJ (fun σ' H' => ∃ b : Int, σ' = [some (.ref a), some (.int n), some (.int b)] ∧ H' = H) ?_ ?_ ?_
    · rintro σ' H' ⟨b, rfl, rfl⟩
      walk_at "gg"
      refine g_abs fun c c0 _ => ?_
      walk_at "gg"
      refine g_pow (c := 1000000000000000000) ⟨by decide, by decide, by decide⟩ (by decide) ?_
      walk_at "gg"
      refine g_max2 fun x x0 _ _ => ?_
      walk_at "gg"
      refine g_mkL (by walk_at "ln") fun p H1 n1 S1 e1 => ?_
      exact k p x _ 0 H1 x0 n1 S1 e1
    · intro N' tl c
      walk_at "gg"
      refine g_ixN ha hn c fun v _ _ => ?_
      walk_at "gg"
      exact tl _ _ ⟨v, rfl, rfl⟩
    · intro N' tl c
      walk_at "gg"
      exact tl _ _ ⟨0, rfl, rfl⟩
theorem ok_flow {f : Addr} {fd : FuncData} (D : Dn K mg "_law_flow" s_flow ["_law_script", "_law_k"] f fd) (T : Bt mg) : Cal P w K mg base 1 "_law_flow" (spFlow K) [] := by
  refine cal_of D (flow_made (ok_flow0 D T) fun vs H Q E h => ?_)
  obtain ⟨a, ns, n, rfl, ha, hn, k⟩ := h
  refine ⟨a, ns, n, rfl, ha, hn, fun p x y z H' hx np S e => ⟨p, x, y, z, rfl, hx, e, k p _ np (same_mut S np) upd_same⟩⟩
end
end Gk

namespace Gk
open PySem L2 Gx
open C8 (Cal Met Mak pe_c pe_mt pe_mt0 pe_mk pe_gc)
local macro_rules | `(tactic| walk_at "g") => `(tactic| (first
  | with_reducible refine g_seq ?_ | with_reducible refine g_asg ?_ | ((with_reducible show tVar _ _ _ _); refine g_var rfl ?_) | with_reducible refine g_c ?_ | with_reducible refine g_name ?_ | with_reducible refine g_op ?_ | with_reducible refine g_I0 ?_
  | with_reducible refine g_cons ?_ | with_reducible refine g_nil ?_ | with_reducible refine g_exbl ?_ | with_reducible refine g_exint ?_ | with_reducible refine g_test ?_ | with_reducible refine g_B ?_ | with_reducible refine g_ifS ?_ | with_reducible refine g_ret ?_ | with_reducible refine g_retN ?_ | with_reducible refine g_next ?_
  | with_reducible refine g_CB ?_ | with_reducible refine g_sub ?_ | with_reducible refine g_drop ?_ | with_reducible refine g_not ?_ | with_reducible refine g_and ?_ | with_reducible refine g_or ?_ | with_reducible refine g_andV ?_ | with_reducible refine g_orV ?_ | with_reducible refine g_notV ?_ | with_reducible refine g_ifE ?_ | with_reducible refine g_isN ?_
  | with_reducible refine g_par ?_ | with_reducible refine g_expar ?_ | with_reducible refine g_chain ?_ | with_reducible refine g_un ?_ | with_reducible refine g_U ?_ | with_reducible refine g_bits ?_ | ((with_reducible show rEq _ _ _ _); refine g_eq rfl ?_) | ((with_reducible show rNe _ _ _ _); refine g_ne rfl ?_)
  | with_reducible refine g_for ?_ | with_reducible refine g_iRng1 ?_ | with_reducible refine g_iRng2 ?_ | with_reducible refine g_iList ?_ | with_reducible refine g_iTup ?_
  | ((with_reducible refine g_Imul ?hc ?_); (case hc => (first | (refine Or.inl ⟨?_, ?_⟩ <;> first | decide | omega) | (refine Or.inr ⟨?_, ?_⟩ <;> first | decide | omega))))
  | ((with_reducible refine g_Idiv ?hc ?_); (case hc => (first | (exact ⟨by decide, by decide⟩) | assumption)))
  | ((with_reducible refine g_Imod ?hc ?_); (case hc => (first | assumption | omega | decide)))
  | ((with_reducible refine g_exR1 ?hlo ?hhi ?_); (case hlo => omega); (case hhi => omega))
  | ((with_reducible refine g_exR2 ?hb ?_); (case hb => omega))
  | with_reducible refine g_lst ?_ | with_reducible refine g_tup ?_ | with_reducible refine g_call ?_ | with_reducible refine g_BM ?_ | with_reducible refine g_BM0 ?_
  | with_reducible refine g_intB ?_ | with_reducible refine g_lc ?_ | with_reducible refine g_yes ?_ | with_reducible refine g_iZip ?_ | with_reducible refine g_sl ?_ | with_reducible refine g_noP ?_ | with_reducible refine g_part ?_ | with_reducible refine g_gcons ?_ | with_reducible refine g_gnil ?_
  | with_reducible refine g_tfld ?_ | with_reducible refine g_tmeth ?_ | with_reducible refine g_tmake ?_ | with_reducible refine g_sfld ?_ | with_reducible refine g_tprop ?_ | with_reducible refine g_tstar ?_ | with_reducible refine g_tmethK ?_ | with_reducible refine g_isN1 ?_ | with_reducible refine g_notN1 ?_))
local macro_rules | `(tactic| walk_at "gs1") => `(tactic| (first
  | with_reducible refine g_seq ?_ | with_reducible refine g_asg ?_ | ((with_reducible show tVar _ _ _ _); refine g_var rfl ?_) | with_reducible refine g_c ?_ | with_reducible refine g_name ?_ | with_reducible refine g_op ?_ | with_reducible refine g_I0 ?_
  | with_reducible refine g_cons ?_ | with_reducible refine g_nil ?_ | with_reducible refine g_exbl ?_ | with_reducible refine g_exint ?_ | with_reducible refine g_test ?_ | with_reducible refine g_B ?_ | with_reducible refine g_ifS ?_ | with_reducible refine g_retN ?_ | with_reducible refine g_next ?_
  | with_reducible refine g_CB ?_ | with_reducible refine g_sub ?_ | with_reducible refine g_drop ?_ | with_reducible refine g_not ?_ | with_reducible refine g_and ?_ | with_reducible refine g_or ?_ | with_reducible refine g_andV ?_ | with_reducible refine g_orV ?_ | with_reducible refine g_notV ?_ | with_reducible refine g_ifE ?_ | with_reducible refine g_isN ?_
  | with_reducible refine g_par ?_ | with_reducible refine g_expar ?_ | with_reducible refine g_chain ?_ | with_reducible refine g_un ?_ | with_reducible refine g_U ?_ | with_reducible refine g_bits ?_ | ((with_reducible show rEq _ _ _ _); refine g_eq rfl ?_) | ((with_reducible show rNe _ _ _ _); refine g_ne rfl ?_)
  | with_reducible refine g_for ?_ | with_reducible refine g_iRng1 ?_ | with_reducible refine g_iRng2 ?_ | with_reducible refine g_iList ?_ | with_reducible refine g_iTup ?_
  | ((with_reducible refine g_Imul ?hc ?_); (case hc => (first | (refine Or.inl ⟨?_, ?_⟩ <;> first | decide | omega) | (refine Or.inr ⟨?_, ?_⟩ <;> first | decide | omega))))
  | ((with_reducible refine g_Idiv ?hc ?_); (case hc => (first | (exact ⟨by decide, by decide⟩) | assumption)))
  | ((with_reducible refine g_Imod ?hc ?_); (case hc => (first | assumption | omega | decide)))
  | ((with_reducible refine g_exR1 ?hlo ?hhi ?_); (case hlo => omega); (case hhi => omega))
  | ((with_reducible refine g_exR2 ?hb ?_); (case hb => omega))
  | with_reducible refine g_lst ?_ | with_reducible refine g_tup ?_ | with_reducible refine g_call ?_ | with_reducible refine g_BM ?_ | with_reducible refine g_BM0 ?_
  | with_reducible refine g_intB ?_ | with_reducible refine g_lc ?_ | with_reducible refine g_yes ?_ | with_reducible refine g_iZip ?_ | with_reducible refine g_sl ?_ | with_reducible refine g_noP ?_ | with_reducible refine g_part ?_ | with_reducible refine g_gcons ?_ | with_reducible refine g_gnil ?_
  | with_reducible refine g_tfld ?_ | with_reducible refine g_tmeth ?_ | with_reducible refine g_tmake ?_ | with_reducible refine g_sfld ?_ | with_reducible refine g_tprop ?_ | with_reducible refine g_tstar ?_ | with_reducible refine g_tmethK ?_ | with_reducible refine g_isN1 ?_ | with_reducible refine g_notN1 ?_))
local macro_rules | `(tactic| walk_at "gx1") => `(tactic| (first
  | with_reducible refine g_seq ?_ | with_reducible refine g_asg ?_ | ((with_reducible show tVar _ _ _ _); refine g_var rfl ?_) | with_reducible refine g_c ?_ | with_reducible refine g_name ?_ | with_reducible refine g_op ?_ | with_reducible refine g_I0 ?_
  | with_reducible refine g_cons ?_ | with_reducible refine g_nil ?_ | with_reducible refine g_exbl ?_ | with_reducible refine g_exint ?_ | with_reducible refine g_test ?_ | with_reducible refine g_B ?_ | with_reducible refine g_ifS ?_ | with_reducible refine g_retN ?_ | with_reducible refine g_next ?_
  | with_reducible refine g_CB ?_ | with_reducible refine g_sub ?_ | with_reducible refine g_drop ?_ | with_reducible refine g_not ?_ | with_reducible refine g_and ?_ | with_reducible refine g_or ?_ | with_reducible refine g_andV ?_ | with_reducible refine g_orV ?_ | with_reducible refine g_notV ?_ | with_reducible refine g_ret ?_ | with_reducible refine g_isN ?_
  | with_reducible refine g_par ?_ | with_reducible refine g_expar ?_ | with_reducible refine g_chain ?_ | with_reducible refine g_un ?_ | with_reducible refine g_U ?_ | with_reducible refine g_bits ?_ | ((with_reducible show rEq _ _ _ _); refine g_eq rfl ?_) | ((with_reducible show rNe _ _ _ _); refine g_ne rfl ?_)
  | with_reducible refine g_for ?_ | with_reducible refine g_iRng1 ?_ | with_reducible refine g_iRng2 ?_ | with_reducible refine g_iList ?_ | with_reducible refine g_iTup ?_
  | ((with_reducible refine g_Imul ?hc ?_); (case hc => (first | (refine Or.inl ⟨?_, ?_⟩ <;> first | decide | omega) | (refine Or.inr ⟨?_, ?_⟩ <;> first | decide | omega))))
  | ((with_reducible refine g_Idiv ?hc ?_); (case hc => (first | (exact ⟨by decide, by decide⟩) | assumption)))
  | ((with_reducible refine g_Imod ?hc ?_); (case hc => (first | assumption | omega | decide)))
  | ((with_reducible refine g_exR1 ?hlo ?hhi ?_); (case hlo => omega); (case hhi => omega))
  | ((with_reducible refine g_exR2 ?hb ?_); (case hb => omega))
  | with_reducible refine g_lst ?_ | with_reducible refine g_tup ?_ | with_reducible refine g_call ?_ | with_reducible refine g_BM ?_ | with_reducible refine g_BM0 ?_
  | with_reducible refine g_intB ?_ | with_reducible refine g_lc ?_ | with_reducible refine g_yes ?_ | with_reducible refine g_iZip ?_ | with_reducible refine g_sl ?_ | with_reducible refine g_noP ?_ | with_reducible refine g_part ?_ | with_reducible refine g_gcons ?_ | with_reducible refine g_gnil ?_
  | with_reducible refine g_tfld ?_ | with_reducible refine g_tmeth ?_ | with_reducible refine g_tmake ?_ | with_reducible refine g_sfld ?_ | with_reducible refine g_tprop ?_ | with_reducible refine g_tstar ?_ | with_reducible refine g_tmethK ?_ | with_reducible refine g_isN1 ?_ | with_reducible refine g_notN1 ?_))
local macro_rules | `(tactic| walk_at "hp") => `(tactic| (first | assumption | exact upd_same | (refine same_get (by assumption) ?_; walk_at "hp")))
local macro_rules | `(tactic| walk_at "sm") => `(tactic| (first | assumption | exact Same.refl _ | (refine Same.trans ?ha (by assumption); walk_at "sm")))
local macro_rules | `(tactic| walk_at "nn") => `(tactic| (first | assumption | (refine same_free (by assumption) ?_; walk_at "nn")))
local macro_rules | `(tactic| walk_at "sb") => `(tactic| (first | decide | (refine small_bits ?_ ?_ <;> omega)))
local macro_rules | `(tactic| walk_at "ln") => `(tactic| (simp only [List.length_cons, List.length_nil]; omega))
local macro_rules | `(tactic| walk_at "gg") => `(tactic| (repeat walk_at "g"))
local macro_rules | `(tactic| walk_at "gs") => `(tactic| (repeat walk_at "gs1"))
local macro_rules | `(tactic| walk_at "gx") => `(tactic| (repeat walk_at "gx1"))

section
variable {P : Program} {w : World} {K : PySem.W.Frag} {mg : Str → Option Value} {base : Heap} {X : Cx}
/-- up to fifteen ascending ints from -12 to 12 -/
def spFew : Sp := fun vs H Q _ => ∃ (f : Addr), vs = [.ref f] ∧ H f = some (FlowO f) ∧
  ∀ (ns : List Int) (p : Addr) (H' : Hp), ns.length ≤ 15 → ns.Pairwise (· < ·) → (∀ n ∈ ns, -12 ≤ n ∧ n ≤ 12) → H p = none → Same H H' → H' p = some (.lst (ns.map V.int)) → Q (.ref p) H'
abbrev s_few : Stmt := top 24
abbrev N_few : List Str := ["_law_flow_here", "_law_found", "_law_turn"]
theorem sc_few : FnScope N_few ["_law_flow_here"] (defScope s_few) := ⟨rfl, rfl, rfl, by decide +kernel, rfl, by decide +kernel, by decide +kernel⟩

theorem ok_few {f : Addr} {fd : FuncData} (D : Dn K mg "_law_few" s_few ["_law_flow_here"] f fd) (T : Bt mg) (c__law_dip : Cal P w K mg base 1 "_law_dip" spDip []) : Cal P w K mg base 2 "_law_few" spFew [] := by
  refine cal_of D (D.fn.ok sc_few (fun vs H Q E h => ?_) (fun cdv A outer s H vs Q E hr h => ?_))
  · obtain ⟨f, rfl, _⟩ := h
    rfl
  · obtain ⟨f, rfl, hf, k⟩ := h
    refine ⟨_, (pss_cons (ps_set (i := 1) sc_few.nd rfl (Or.inl rfl) (pe_lst pa_nil))
    (pss_cons (ps_for PassesOwn.never rfl (pi_range1 (by rfl) T.n_range (pa_cons (pe_ix ix_list (pe_lst (pa_cons (pe_c c__law_dip hr (by decide) (by rfl) (pa_cons (pv 0) (pa_cons pe_int pa_nil))) (pa_cons pe_int (pa_cons (pe_c c__law_dip hr (by decide) (by rfl) (pa_cons (pv 0) (pa_cons pe_int pa_nil))) pa_nil)))) (pe_c c__law_dip hr (by decide) (by rfl) (pa_cons (pv 0) (pa_cons pe_int pa_nil))) (fun _ _ => rfl)) pa_nil)) (pg_name (i := 2) sc_few.nd rfl (Or.inl rfl)) (pss_one (ps_expr (pe_bm PySem.F.plainAttrs_list PySem.F.slot_list_append PySem.F.type_list_append mt_append (pv 1) (pa_cons (pe_op op_sub (pe_c c__law_dip hr (by decide) (by rfl) (pa_cons (pv 0) (pa_cons pe_int pa_nil))) pe_int) pa_nil)))))
    (pss_one (ps_ret (pe_callB (cr_sortedSet rfl) (by rfl) T.n_sorted bt_sorted (pa_cons (pe_callTy (cr_setOfI rfl hr) (by rfl) T.n_set bt_set (pa_cons (pv 1) pa_nil)) pa_nil)))))), ?_⟩
    walk_at "gg"
    refine g_mkL (by walk_at "ln") fun p1 H1 n1 S1 e1 => ?_
    have hf1 := S1 _ _ hf
    walk_at "gg"
    refine g_dip hf1 (by omega) (by walk_at "sb") fun r2 H2 a2 b2 S2 => ?_
    walk_at "gg"
    refine g_dip (S2 _ _ hf1) (by omega) (by walk_at "sb") fun r3 H3 a3 b3 S3 => ?_
    walk_at "gg"
    refine g_mkL (by walk_at "ln") fun p4 H4 n4 S4 e4 => ?_
    walk_at "gg"
    refine g_dip (S4 _ _ (S3 _ _ (S2 _ _ hf1))) (by omega) (by walk_at "sb") fun r5 H5 a5 b5 S5 => ?_
    refine g_ixI (fun n => 0 ≤ n ∧ n ≤ 15) (S5 _ _ e4) a5 b5 (all_cons ⟨_, rfl, by omega⟩ (all_cons ⟨_, rfl, by omega⟩ (all_cons ⟨_, rfl, by omega⟩ all_nil))) fun many ⟨m1, m2⟩ => ?_
    have S15 : Same H1 H5 := ((S2.trans S3).trans S4).trans S5
    walk_at "gg"
    refine fw_range (fun i σ H' => ∃ (ns : List Int) (v : Option V), σ = [some (.ref f), some (.ref p1), v] ∧ Same H H' ∧ H' p1 = some (.lst (ns.map V.int)) ∧ ns.length = i ∧ (∀ n ∈ ns, -12 ≤ n ∧ n ≤ 12))
      ⟨[], none, rfl, S1.trans S15, S15 _ _ e1, rfl, fun n hn => nomatch hn⟩ ?_ ?_
    · rintro i σ H' hi ⟨ns, v, rfl, S, e, hl, bd⟩
      walk_at "gg"
      refine g_tyL e ?_
      walk_at "gg"
      refine g_dip (S _ _ hf) (by omega) (by walk_at "sb") fun r H6 a b S6 => ?_
      walk_at "gg"
      refine g_app (S.trans S6) n1 (S6 _ _ e) (by rw [List.length_map]; omega) fun H7 S7 e7 => ?_
      walk_at "gg"
      refine ⟨ns ++ [r - 12], _, rfl, S7, by rw [e7, List.map_append]; rfl, by rw [List.length_append, hl]; rfl, fun n hn => ?_⟩
      rcases List.mem_append.mp hn with hn | hn
      · exact bd n hn
      · rw [List.mem_singleton.mp hn]
        omega
    · rintro σ H' ⟨ns, v, rfl, S, e, hl, bd⟩
      walk_at "gg"
      refine g_setI (SqL.of e) (by omega) fun a M n H8 n8 S8 e8 m8 l8 => ?_
      walk_at "gg"
      refine g_sortedSet e8 (by omega) fun ms p H9 up mem len n9 S9 e9 => ?_
      refine k ms p H9 (by omega) up (fun m hm => bd m ((m8 m).mp ((mem m).mp hm))) ?_ ((S.trans S8).trans S9) e9
      exact same_free (S.trans S8) n9
end
end Gk

namespace Gk
open PySem L2 Gx
open C8 (Cal Met Mak pe_c pe_mt pe_mt0 pe_mk pe_gc)
open StX (pa_star)
local macro_rules | `(tactic| walk_at "g") => `(tactic| (first
  | with_reducible refine g_seq ?_ | with_reducible refine g_asg ?_ | ((with_reducible show tVar _ _ _ _); refine g_var rfl ?_) | with_reducible refine g_c ?_ | with_reducible refine g_name ?_ | with_reducible refine g_op ?_ | with_reducible refine g_I0 ?_
  | with_reducible refine g_cons ?_ | with_reducible refine g_nil ?_ | with_reducible refine g_exbl ?_ | with_reducible refine g_exint ?_ | with_reducible refine g_test ?_ | with_reducible refine g_B ?_ | with_reducible refine g_ifS ?_ | with_reducible refine g_ret ?_ | with_reducible refine g_retN ?_ | with_reducible refine g_next ?_
  | with_reducible refine g_CB ?_ | with_reducible refine g_sub ?_ | with_reducible refine g_drop ?_ | with_reducible refine g_not ?_ | with_reducible refine g_and ?_ | with_reducible refine g_or ?_ | with_reducible refine g_andV ?_ | with_reducible refine g_orV ?_ | with_reducible refine g_notV ?_ | with_reducible refine g_ifE ?_ | with_reducible refine g_isN ?_
  | with_reducible refine g_par ?_ | with_reducible refine g_expar ?_ | with_reducible refine g_chain ?_ | with_reducible refine g_un ?_ | with_reducible refine g_U ?_ | with_reducible refine g_bits ?_ | ((with_reducible show rEq _ _ _ _); refine g_eq rfl ?_) | ((with_reducible show rNe _ _ _ _); refine g_ne rfl ?_)
  | with_reducible refine g_for ?_ | with_reducible refine g_iRng1 ?_ | with_reducible refine g_iRng2 ?_ | with_reducible refine g_iList ?_ | with_reducible refine g_iTup ?_
  | ((with_reducible refine g_Imul ?hc ?_); (case hc => (first | (refine Or.inl ⟨?_, ?_⟩ <;> first | decide | omega) | (refine Or.inr ⟨?_, ?_⟩ <;> first | decide | omega))))
  | ((with_reducible refine g_Idiv ?hc ?_); (case hc => (first | (exact ⟨by decide, by decide⟩) | assumption)))
  | ((with_reducible refine g_Imod ?hc ?_); (case hc => (first | assumption | omega | decide)))
  | ((with_reducible refine g_exR1 ?hlo ?hhi ?_); (case hlo => omega); (case hhi => omega))
  | ((with_reducible refine g_exR2 ?hb ?_); (case hb => omega))
  | with_reducible refine g_lst ?_ | with_reducible refine g_tup ?_ | with_reducible refine g_call ?_ | with_reducible refine g_BM ?_ | with_reducible refine g_BM0 ?_
  | with_reducible refine g_intB ?_ | with_reducible refine g_lc ?_ | with_reducible refine g_yes ?_ | with_reducible refine g_iZip ?_ | with_reducible refine g_sl ?_ | with_reducible refine g_noP ?_ | with_reducible refine g_part ?_ | with_reducible refine g_gcons ?_ | with_reducible refine g_gnil ?_
  | with_reducible refine g_tfld ?_ | with_reducible refine g_tmeth ?_ | with_reducible refine g_tmake ?_ | with_reducible refine g_sfld ?_ | with_reducible refine g_tprop ?_ | with_reducible refine g_tstar ?_ | with_reducible refine g_tmethK ?_ | with_reducible refine g_isN1 ?_ | with_reducible refine g_notN1 ?_))
local macro_rules | `(tactic| walk_at "gs1") => `(tactic| (first
  | with_reducible refine g_seq ?_ | with_reducible refine g_asg ?_ | ((with_reducible show tVar _ _ _ _); refine g_var rfl ?_) | with_reducible refine g_c ?_ | with_reducible refine g_name ?_ | with_reducible refine g_op ?_ | with_reducible refine g_I0 ?_
  | with_reducible refine g_cons ?_ | with_reducible refine g_nil ?_ | with_reducible refine g_exbl ?_ | with_reducible refine g_exint ?_ | with_reducible refine g_test ?_ | with_reducible refine g_B ?_ | with_reducible refine g_ifS ?_ | with_reducible refine g_retN ?_ | with_reducible refine g_next ?_
  | with_reducible refine g_CB ?_ | with_reducible refine g_sub ?_ | with_reducible refine g_drop ?_ | with_reducible refine g_not ?_ | with_reducible refine g_and ?_ | with_reducible refine g_or ?_ | with_reducible refine g_andV ?_ | with_reducible refine g_orV ?_ | with_reducible refine g_notV ?_ | with_reducible refine g_ifE ?_ | with_reducible refine g_isN ?_
  | with_reducible refine g_par ?_ | with_reducible refine g_expar ?_ | with_reducible refine g_chain ?_ | with_reducible refine g_un ?_ | with_reducible refine g_U ?_ | with_reducible refine g_bits ?_ | ((with_reducible show rEq _ _ _ _); refine g_eq rfl ?_) | ((with_reducible show rNe _ _ _ _); refine g_ne rfl ?_)
  | with_reducible refine g_for ?_ | with_reducible refine g_iRng1 ?_ | with_reducible refine g_iRng2 ?_ | with_reducible refine g_iList ?_ | with_reducible refine g_iTup ?_
  | ((with_reducible refine g_Imul ?hc ?_); (case hc => (first | (refine Or.inl ⟨?_, ?_⟩ <;> first | decide | omega) | (refine Or.inr ⟨?_, ?_⟩ <;> first | decide | omega))))
  | ((with_reducible refine g_Idiv ?hc ?_); (case hc => (first | (exact ⟨by decide, by decide⟩) | assumption)))
  | ((with_reducible refine g_Imod ?hc ?_); (case hc => (first | assumption | omega | decide)))
  | ((with_reducible refine g_exR1 ?hlo ?hhi ?_); (case hlo => omega); (case hhi => omega))
  | ((with_reducible refine g_exR2 ?hb ?_); (case hb => omega))
  | with_reducible refine g_lst ?_ | with_reducible refine g_tup ?_ | with_reducible refine g_call ?_ | with_reducible refine g_BM ?_ | with_reducible refine g_BM0 ?_
  | with_reducible refine g_intB ?_ | with_reducible refine g_lc ?_ | with_reducible refine g_yes ?_ | with_reducible refine g_iZip ?_ | with_reducible refine g_sl ?_ | with_reducible refine g_noP ?_ | with_reducible refine g_part ?_ | with_reducible refine g_gcons ?_ | with_reducible refine g_gnil ?_
  | with_reducible refine g_tfld ?_ | with_reducible refine g_tmeth ?_ | with_reducible refine g_tmake ?_ | with_reducible refine g_sfld ?_ | with_reducible refine g_tprop ?_ | with_reducible refine g_tstar ?_ | with_reducible refine g_tmethK ?_ | with_reducible refine g_isN1 ?_ | with_reducible refine g_notN1 ?_))
local macro_rules | `(tactic| walk_at "gx1") => `(tactic| (first
  | with_reducible refine g_seq ?_ | with_reducible refine g_asg ?_ | ((with_reducible show tVar _ _ _ _); refine g_var rfl ?_) | with_reducible refine g_c ?_ | with_reducible refine g_name ?_ | with_reducible refine g_op ?_ | with_reducible refine g_I0 ?_
  | with_reducible refine g_cons ?_ | with_reducible refine g_nil ?_ | with_reducible refine g_exbl ?_ | with_reducible refine g_exint ?_ | with_reducible refine g_test ?_ | with_reducible refine g_B ?_ | with_reducible refine g_ifS ?_ | with_reducible refine g_retN ?_ | with_reducible refine g_next ?_
  | with_reducible refine g_CB ?_ | with_reducible refine g_sub ?_ | with_reducible refine g_drop ?_ | with_reducible refine g_not ?_ | with_reducible refine g_and ?_ | with_reducible refine g_or ?_ | with_reducible refine g_andV ?_ | with_reducible refine g_orV ?_ | with_reducible refine g_notV ?_ | with_reducible refine g_ret ?_ | with_reducible refine g_isN ?_
  | with_reducible refine g_par ?_ | with_reducible refine g_expar ?_ | with_reducible refine g_chain ?_ | with_reducible refine g_un ?_ | with_reducible refine g_U ?_ | with_reducible refine g_bits ?_ | ((with_reducible show rEq _ _ _ _); refine g_eq rfl ?_) | ((with_reducible show rNe _ _ _ _); refine g_ne rfl ?_)
  | with_reducible refine g_for ?_ | with_reducible refine g_iRng1 ?_ | with_reducible refine g_iRng2 ?_ | with_reducible refine g_iList ?_ | with_reducible refine g_iTup ?_
  | ((with_reducible refine g_Imul ?hc ?_); (case hc => (first | (refine Or.inl ⟨?_, ?_⟩ <;> first | decide | omega) | (refine Or.inr ⟨?_, ?_⟩ <;> first | decide | omega))))
  | ((with_reducible refine g_Idiv ?hc ?_); (case hc => (first | (exact ⟨by decide, by decide⟩) | assumption)))
  | ((with_reducible refine g_Imod ?hc ?_); (case hc => (first | assumption | omega | decide)))
  | ((with_reducible refine g_exR1 ?hlo ?hhi ?_); (case hlo => omega); (case hhi => omega))
  | ((with_reducible refine g_exR2 ?hb ?_); (case hb => omega))
  | with_reducible refine g_lst ?_ | with_reducible refine g_tup ?_ | with_reducible refine g_call ?_ | with_reducible refine g_BM ?_ | with_reducible refine g_BM0 ?_
  | with_reducible refine g_intB ?_ | with_reducible refine g_lc ?_ | with_reducible refine g_yes ?_ | with_reducible refine g_iZip ?_ | with_reducible refine g_sl ?_ | with_reducible refine g_noP ?_ | with_reducible refine g_part ?_ | with_reducible refine g_gcons ?_ | with_reducible refine g_gnil ?_
  | with_reducible refine g_tfld ?_ | with_reducible refine g_tmeth ?_ | with_reducible refine g_tmake ?_ | with_reducible refine g_sfld ?_ | with_reducible refine g_tprop ?_ | with_reducible refine g_tstar ?_ | with_reducible refine g_tmethK ?_ | with_reducible refine g_isN1 ?_ | with_reducible refine g_notN1 ?_))
local macro_rules | `(tactic| walk_at "hp") => `(tactic| (first | assumption | exact upd_same | (refine same_get (by assumption) ?_; walk_at "hp")))
local macro_rules | `(tactic| walk_at "sm") => `(tactic| (first | assumption | exact Same.refl _ | (refine Same.trans ?ha (by assumption); walk_at "sm")))
local macro_rules | `(tactic| walk_at "nn") => `(tactic| (first | assumption | (refine same_free (by assumption) ?_; walk_at "nn")))
local macro_rules | `(tactic| walk_at "sb") => `(tactic| (first | decide | (refine small_bits ?_ ?_ <;> omega)))
local macro_rules | `(tactic| walk_at "ln") => `(tactic| (simp only [List.length_cons, List.length_nil]; omega))
local macro_rules | `(tactic| walk_at "gg") => `(tactic| (repeat walk_at "g"))
local macro_rules | `(tactic| walk_at "gs") => `(tactic| (repeat walk_at "gs1"))
local macro_rules | `(tactic| walk_at "gx") => `(tactic| (repeat walk_at "gx1"))

section
variable {P : Program} {w : World} {K : PySem.W.Frag} {mg : Str → Option Value} {base : Heap} {X : Cx}
abbrev s_Line_is_ahead : Stmt := inClass (top 15) 4
abbrev N_Line_is_ahead : List Str := ["self", "point", "low"]
theorem sc_Line_is_ahead : FnScope N_Line_is_ahead ["self", "point", "low"] (defScope s_Line_is_ahead) := ⟨rfl, rfl, rfl, by decide +kernel, rfl, by decide +kernel, by decide +kernel⟩

theorem ok_ahead {f : Addr} {fd : FuncData} (F : Fun K "is_ahead" "Line.is_ahead" s_Line_is_ahead f fd) : FnOk P w K mg base CX0 1 f fd ["self", "point", "low"] spAhead := by
  refine F.ok sc_Line_is_ahead (fun vs H Q E h => ?_) (fun cdv A outer s H vs Q E hr h => ?_)
  · obtain ⟨p, a, lo, rfl, _⟩ := h
    rfl
  · obtain ⟨p, a, lo, rfl, k⟩ := h
    refine ⟨_, (pss_one (ps_ret (pe_cmpR op_lt (pv 1) (pv 2) (nomark _)))), ?_⟩
    walk_at "gg"
    exact k
abbrev s_Line_is_beyond : Stmt := inClass (top 15) 5
abbrev N_Line_is_beyond : List Str := ["self", "point", "high"]
theorem sc_Line_is_beyond : FnScope N_Line_is_beyond ["self", "point", "high"] (defScope s_Line_is_beyond) := ⟨rfl, rfl, rfl, by decide +kernel, rfl, by decide +kernel, by decide +kernel⟩

theorem ok_beyond {f : Addr} {fd : FuncData} (F : Fun K "is_beyond" "Line.is_beyond" s_Line_is_beyond f fd) : FnOk P w K mg base CX0 1 f fd ["self", "point", "high"] spBeyond := by
  refine F.ok sc_Line_is_beyond (fun vs H Q E h => ?_) (fun cdv A outer s H vs Q E hr h => ?_)
  · obtain ⟨p, a, lo, rfl, _⟩ := h
    rfl
  · obtain ⟨p, a, lo, rfl, k⟩ := h
    refine ⟨_, (pss_one (ps_ret (pe_cmpR op_gt (pv 1) (pv 2) (nomark _)))), ?_⟩
    walk_at "gg"
    exact k
end
end Gk

namespace Gk
open PySem L2 Gx
open C8 (Cal Met Mak pe_c pe_mt pe_mt0 pe_mk pe_gc)
local macro_rules | `(tactic| walk_at "g") => `(tactic| (first
  | with_reducible refine g_seq ?_ | with_reducible refine g_asg ?_ | ((with_reducible show tVar _ _ _ _); refine g_var rfl ?_) | with_reducible refine g_c ?_ | with_reducible refine g_name ?_ | with_reducible refine g_op ?_ | with_reducible refine g_I0 ?_
  | with_reducible refine g_cons ?_ | with_reducible refine g_nil ?_ | with_reducible refine g_exbl ?_ | with_reducible refine g_exint ?_ | with_reducible refine g_test ?_ | with_reducible refine g_B ?_ | with_reducible refine g_ifS ?_ | with_reducible refine g_ret ?_ | with_reducible refine g_retN ?_ | with_reducible refine g_next ?_
  | with_reducible refine g_CB ?_ | with_reducible refine g_sub ?_ | with_reducible refine g_drop ?_ | with_reducible refine g_not ?_ | with_reducible refine g_and ?_ | with_reducible refine g_or ?_ | with_reducible refine g_andV ?_ | with_reducible refine g_orV ?_ | with_reducible refine g_notV ?_ | with_reducible refine g_ifE ?_ | with_reducible refine g_isN ?_
  | with_reducible refine g_par ?_ | with_reducible refine g_expar ?_ | with_reducible refine g_chain ?_ | with_reducible refine g_un ?_ | with_reducible refine g_U ?_ | with_reducible refine g_bits ?_ | ((with_reducible show rEq _ _ _ _); refine g_eq rfl ?_) | ((with_reducible show rNe _ _ _ _); refine g_ne rfl ?_)
  | with_reducible refine g_for ?_ | with_reducible refine g_iRng1 ?_ | with_reducible refine g_iRng2 ?_ | with_reducible refine g_iList ?_ | with_reducible refine g_iTup ?_
  | ((with_reducible refine g_Imul ?hc ?_); (case hc => (first | (refine Or.inl ⟨?_, ?_⟩ <;> first | decide | omega) | (refine Or.inr ⟨?_, ?_⟩ <;> first | decide | omega))))
  | ((with_reducible refine g_Idiv ?hc ?_); (case hc => (first | (exact ⟨by decide, by decide⟩) | assumption)))
  | ((with_reducible refine g_Imod ?hc ?_); (case hc => (first | assumption | omega | decide)))
  | ((with_reducible refine g_exR1 ?hlo ?hhi ?_); (case hlo => omega); (case hhi => omega))
  | ((with_reducible refine g_exR2 ?hb ?_); (case hb => omega))
  | with_reducible refine g_lst ?_ | with_reducible refine g_tup ?_ | with_reducible refine g_call ?_ | with_reducible refine g_BM ?_ | with_reducible refine g_BM0 ?_
  | with_reducible refine g_intB ?_ | with_reducible refine g_lc ?_ | with_reducible refine g_yes ?_ | with_reducible refine g_iZip ?_ | with_reducible refine g_sl ?_ | with_reducible refine g_noP ?_ | with_reducible refine g_part ?_ | with_reducible refine g_gcons ?_ | with_reducible refine g_gnil ?_
  | with_reducible refine g_tfld ?_ | with_reducible refine g_tmeth ?_ | with_reducible refine g_tmake ?_ | with_reducible refine g_sfld ?_ | with_reducible refine g_tprop ?_ | with_reducible refine g_tstar ?_ | with_reducible refine g_tmethK ?_ | with_reducible refine g_isN1 ?_ | with_reducible refine g_notN1 ?_))
local macro_rules | `(tactic| walk_at "gs1") => `(tactic| (first
  | with_reducible refine g_seq ?_ | with_reducible refine g_asg ?_ | ((with_reducible show tVar _ _ _ _); refine g_var rfl ?_) | with_reducible refine g_c ?_ | with_reducible refine g_name ?_ | with_reducible refine g_op ?_ | with_reducible refine g_I0 ?_
  | with_reducible refine g_cons ?_ | with_reducible refine g_nil ?_ | with_reducible refine g_exbl ?_ | with_reducible refine g_exint ?_ | with_reducible refine g_test ?_ | with_reducible refine g_B ?_ | with_reducible refine g_ifS ?_ | with_reducible refine g_retN ?_ | with_reducible refine g_next ?_
  | with_reducible refine g_CB ?_ | with_reducible refine g_sub ?_ | with_reducible refine g_drop ?_ | with_reducible refine g_not ?_ | with_reducible refine g_and ?_ | with_reducible refine g_or ?_ | with_reducible refine g_andV ?_ | with_reducible refine g_orV ?_ | with_reducible refine g_notV ?_ | with_reducible refine g_ifE ?_ | with_reducible refine g_isN ?_
  | with_reducible refine g_par ?_ | with_reducible refine g_expar ?_ | with_reducible refine g_chain ?_ | with_reducible refine g_un ?_ | with_reducible refine g_U ?_ | with_reducible refine g_bits ?_ | ((with_reducible show rEq _ _ _ _); refine g_eq rfl ?_) | ((with_reducible show rNe _ _ _ _); refine g_ne rfl ?_)
  | with_reducible refine g_for ?_ | with_reducible refine g_iRng1 ?_ | with_reducible refine g_iRng2 ?_ | with_reducible refine g_iList ?_ | with_reducible refine g_iTup ?_
  | ((with_reducible refine g_Imul ?hc ?_); (case hc => (first | (refine Or.inl ⟨?_, ?_⟩ <;> first | decide | omega) | (refine Or.inr ⟨?_, ?_⟩ <;> first | decide | omega))))
  | ((with_reducible refine g_Idiv ?hc ?_); (case hc => (first | (exact ⟨by decide, by decide⟩) | assumption)))
  | ((with_reducible refine g_Imod ?hc ?_); (case hc => (first | assumption | omega | decide)))
  | ((with_reducible refine g_exR1 ?hlo ?hhi ?_); (case hlo => omega); (case hhi => omega))
  | ((with_reducible refine g_exR2 ?hb ?_); (case hb => omega))
  | with_reducible refine g_lst ?_ | with_reducible refine g_tup ?_ | with_reducible refine g_call ?_ | with_reducible refine g_BM ?_ | with_reducible refine g_BM0 ?_
  | with_reducible refine g_intB ?_ | with_reducible refine g_lc ?_ | with_reducible refine g_yes ?_ | with_reducible refine g_iZip ?_ | with_reducible refine g_sl ?_ | with_reducible refine g_noP ?_ | with_reducible refine g_part ?_ | with_reducible refine g_gcons ?_ | with_reducible refine g_gnil ?_
  | with_reducible refine g_tfld ?_ | with_reducible refine g_tmeth ?_ | with_reducible refine g_tmake ?_ | with_reducible refine g_sfld ?_ | with_reducible refine g_tprop ?_ | with_reducible refine g_tstar ?_ | with_reducible refine g_tmethK ?_ | with_reducible refine g_isN1 ?_ | with_reducible refine g_notN1 ?_))
local macro_rules | `(tactic| walk_at "gx1") => `(tactic| (first
  | with_reducible refine g_seq ?_ | with_reducible refine g_asg ?_ | ((with_reducible show tVar _ _ _ _); refine g_var rfl ?_) | with_reducible refine g_c ?_ | with_reducible refine g_name ?_ | with_reducible refine g_op ?_ | with_reducible refine g_I0 ?_
  | with_reducible refine g_cons ?_ | with_reducible refine g_nil ?_ | with_reducible refine g_exbl ?_ | with_reducible refine g_exint ?_ | with_reducible refine g_test ?_ | with_reducible refine g_B ?_ | with_reducible refine g_ifS ?_ | with_reducible refine g_retN ?_ | with_reducible refine g_next ?_
  | with_reducible refine g_CB ?_ | with_reducible refine g_sub ?_ | with_reducible refine g_drop ?_ | with_reducible refine g_not ?_ | with_reducible refine g_and ?_ | with_reducible refine g_or ?_ | with_reducible refine g_andV ?_ | with_reducible refine g_orV ?_ | with_reducible refine g_notV ?_ | with_reducible refine g_ret ?_ | with_reducible refine g_isN ?_
  | with_reducible refine g_par ?_ | with_reducible refine g_expar ?_ | with_reducible refine g_chain ?_ | with_reducible refine g_un ?_ | with_reducible refine g_U ?_ | with_reducible refine g_bits ?_ | ((with_reducible show rEq _ _ _ _); refine g_eq rfl ?_) | ((with_reducible show rNe _ _ _ _); refine g_ne rfl ?_)
  | with_reducible refine g_for ?_ | with_reducible refine g_iRng1 ?_ | with_reducible refine g_iRng2 ?_ | with_reducible refine g_iList ?_ | with_reducible refine g_iTup ?_
  | ((with_reducible refine g_Imul ?hc ?_); (case hc => (first | (refine Or.inl ⟨?_, ?_⟩ <;> first | decide | omega) | (refine Or.inr ⟨?_, ?_⟩ <;> first | decide | omega))))
  | ((with_reducible refine g_Idiv ?hc ?_); (case hc => (first | (exact ⟨by decide, by decide⟩) | assumption)))
  | ((with_reducible refine g_Imod ?hc ?_); (case hc => (first | assumption | omega | decide)))
  | ((with_reducible refine g_exR1 ?hlo ?hhi ?_); (case hlo => omega); (case hhi => omega))
  | ((with_reducible refine g_exR2 ?hb ?_); (case hb => omega))
  | with_reducible refine g_lst ?_ | with_reducible refine g_tup ?_ | with_reducible refine g_call ?_ | with_reducible refine g_BM ?_ | with_reducible refine g_BM0 ?_
  | with_reducible refine g_intB ?_ | with_reducible refine g_lc ?_ | with_reducible refine g_yes ?_ | with_reducible refine g_iZip ?_ | with_reducible refine g_sl ?_ | with_reducible refine g_noP ?_ | with_reducible refine g_part ?_ | with_reducible refine g_gcons ?_ | with_reducible refine g_gnil ?_
  | with_reducible refine g_tfld ?_ | with_reducible refine g_tmeth ?_ | with_reducible refine g_tmake ?_ | with_reducible refine g_sfld ?_ | with_reducible refine g_tprop ?_ | with_reducible refine g_tstar ?_ | with_reducible refine g_tmethK ?_ | with_reducible refine g_isN1 ?_ | with_reducible refine g_notN1 ?_))
local macro_rules | `(tactic| walk_at "hp") => `(tactic| (first | assumption | exact upd_same | (refine same_get (by assumption) ?_; walk_at "hp")))
local macro_rules | `(tactic| walk_at "sm") => `(tactic| (first | assumption | exact Same.refl _ | (refine Same.trans ?ha (by assumption); walk_at "sm")))
local macro_rules | `(tactic| walk_at "nn") => `(tactic| (first | assumption | (refine same_free (by assumption) ?_; walk_at "nn")))
local macro_rules | `(tactic| walk_at "sb") => `(tactic| (first | decide | (refine small_bits ?_ ?_ <;> omega)))
local macro_rules | `(tactic| walk_at "ln") => `(tactic| (simp only [List.length_cons, List.length_nil]; omega))
local macro_rules | `(tactic| walk_at "gg") => `(tactic| (repeat walk_at "g"))
local macro_rules | `(tactic| walk_at "gs") => `(tactic| (repeat walk_at "gs1"))
local macro_rules | `(tactic| walk_at "gx") => `(tactic| (repeat walk_at "gx1"))

section
variable {P : Program} {w : World} {K : PySem.W.Frag} {mg : Str → Option Value} {base : Heap} {X : Cx}
def spLaw (K : PySem.W.Frag) : Sp := fun vs H Q _ => ∃ (a : Addr) (ns : List Int), vs = [.ref a] ∧ SqL K H a (ns.map V.int) ∧ ∀ H', Same H H' → Q (.bl true) H'
abbrev s_law : Stmt := top 29
abbrev N_law : List Str := ["_law_script", "_law_k", "_law_flow_here", "_law_line_here", "_law_told", "_law_due"]
theorem sc_law : FnScope N_law ["_law_script"] (defScope s_law) := ⟨rfl, rfl, rfl, by decide +kernel, rfl, by decide +kernel, by decide +kernel⟩

theorem ok_law {f CL CK : Addr} {fd : FuncData} (D : Dn K mg "law" s_law ["_law_script"] f fd) (T : Bt mg) (m_Line : Mak P w K mg base 3 "Line" CL (spInitI K CL) []) (m_KeyLine : Mak P w K mg base 3 "KeyLine" CK (spInitI K CK) [])
    (c__law_flow : Cal P w K mg base 1 "_law_flow" (spFlow K) []) (c__law_few : Cal P w K mg base 2 "_law_few" spFew []) (c__law_spots : Cal P w K mg base 2 "_law_spots" spSpots []) (c_reach : Cal P w K mg base 5 "reach" (spAny (two CL CK) spReach) [])
    (c__law_small_right : CalG P w K mg base 6 "_law_small_right" spSmall) (c__law_great_right : CalG P w K mg base 7 "_law_great_right" spGreat9) : FnG P w K mg base 8 f fd ["_law_script"] (spLaw K) := by
  refine fnG_of D.fn sc_law (fun vs H Q E h => ?_) (fun cdv A outer s H vs Q E gd hr h => ?_)
  · obtain ⟨a, ns, rfl, _⟩ := h
    rfl
  · obtain ⟨a, ns, rfl, ha, k⟩ := h
    refine ⟨_, (pss_cons (ps_for PassesOwn.never rfl (pi_range1 (by rfl) T.n_range (pa_cons (pe_callB (cr_maxQ rfl) (by rfl) T.n_max bt_max (pa_cons pe_int (pa_cons (pe_callB (cr_minQ rfl) (by rfl) T.n_min bt_min (pa_cons pe_int (pa_cons (pe_callB cr_lenQ (by rfl) T.n_len bt_len (pa_cons (pv 0) pa_nil)) pa_nil))) pa_nil))) pa_nil)) (pg_name (i := 1) sc_law.nd rfl (Or.inl rfl)) (pss_cons (ps_set (i := 2) sc_law.nd rfl (Or.inl rfl) (pe_c c__law_flow hr (by decide) (by rfl) (pa_cons (pv 0) (pa_cons (pv 1) pa_nil))))
    (pss_cons (ps_if (pt_not (pt_val (pe_cG c__law_small_right gd hr (by decide) (by rfl) (pa_cons (pv 2) (pa_cons (pe_c c__law_few hr (by decide) (by rfl) (pa_cons (pv 2) pa_nil)) pa_nil))))) (pss_one (ps_ret pe_bl)) pss_nil)
    (pss_one (ps_if (pt_not (pt_val (pe_cG c__law_great_right gd hr (by decide) (by rfl) (pa_cons (pv 2) (pa_cons (pe_c c__law_spots hr (by decide) (by rfl) (pa_cons (pv 2) (pa_cons (pe_ix ix_list (pe_lst (pa_cons pe_int (pa_cons pe_int pa_nil))) (pe_callTy cr_intQ (by rfl) T.n_int bt_int (pa_cons (pe_cmpR op_gt (pv 1) pe_int (nomark _)) pa_nil)) (fun _ _ => rfl)) pa_nil))) pa_nil))))) (pss_one (ps_ret pe_bl)) pss_nil)))))
    (pss_cons (ps_set (i := 3) sc_law.nd rfl (Or.inl rfl) (pe_mk m_KeyLine hr (by decide) (by rfl) (pa_cons (pe_lst (pa_cons pe_int (pa_cons pe_int (pa_cons pe_int (pa_cons pe_int pa_nil))))) pa_nil)))
    (pss_cons (ps_set (i := 4) sc_law.nd rfl (Or.inl rfl) (pe_lst (pa_cons (pe_c c_reach hr (by decide) (by rfl) (pa_cons (pv 3) (pa_cons pe_int (pa_cons pe_int (pa_cons (pe_lst pa_nil) pa_nil))))) (pa_cons (pe_c c_reach hr (by decide) (by rfl) (pa_cons (pv 3) (pa_cons pe_int (pa_cons pe_int (pa_cons (pe_lst pa_nil) pa_nil))))) (pa_cons (pe_c c_reach hr (by decide) (by rfl) (pa_cons (pv 3) (pa_cons pe_int (pa_cons pe_int (pa_cons (pe_lst (pa_cons pe_int pa_nil)) pa_nil))))) pa_nil)))))
    (pss_cons (ps_set (i := 5) sc_law.nd rfl (Or.inl rfl) (pe_lst (pa_cons (pe_tup (pa_cons pe_int (pa_cons pe_int (pa_cons pe_bl (pa_cons pe_bl pa_nil))))) (pa_cons (pe_tup (pa_cons pe_int (pa_cons pe_int (pa_cons pe_bl (pa_cons pe_bl pa_nil))))) (pa_cons (pe_tup (pa_cons pe_int (pa_cons pe_int (pa_cons pe_bl (pa_cons pe_bl pa_nil))))) pa_nil)))))
    (pss_one (ps_ret (pe_and (pe_cmpR (op_eqD hr.units) (pv 4) (pv 5) (nomark _)) (pe_one (pe_cmpR (op_eqD hr.units) (pe_c c_reach hr (by decide) (by rfl) (pa_cons (pe_mk m_Line hr (by decide) (by rfl) (pa_cons (pe_lst pa_nil) pa_nil)) (pa_cons pe_int (pa_cons pe_int (pa_cons (pe_lst pa_nil) pa_nil))))) (pe_tup (pa_cons pe_non (pa_cons pe_non (pa_cons pe_bl (pa_cons pe_bl pa_nil))))) (nomark _)))))))))), ?_⟩
    walk_at "gg"
    refine g_len ha ?_
    walk_at "gg"
    refine g_min2 fun m _ m3 _ => ?_
    walk_at "gg"
    refine g_max2 fun n n1 _ n2 => ?_
    walk_at "gg"
    refine fw_range (fun i σ H' => ∃ (v1 v2 v3 v4 v5 : Option V), σ = [some (.ref a), v1, v2, v3, v4, v5] ∧ Same H H') ⟨_, _, _, _, _, rfl, Same.refl _⟩ ?_ ?_
    · rintro i σ H1 hi ⟨v1, v2, v3, v4, v5, rfl, S1⟩
      generalize hj : (0 + (i : Int)) = j
      walk_at "gg"
      refine ⟨a, ns, j, rfl, same_sq S1 ha, by omega, fun f H2 f2 S2 ef => ?_⟩
      walk_at "gg"
      refine ⟨f, rfl, ef, fun rs b H3 rl up rb n3 S3 eb => ?_⟩
      walk_at "gg"
      refine ⟨f, b, rs, rfl, S3 _ _ ef, eb, by omega, up, rb, fun H4 S4 => ?_⟩
      walk_at "gg"
      refine g_ifF rfl ?_
      walk_at "gg"
      refine g_mkL (by walk_at "ln") fun l7 H7 n7 S7 e7 => ?_
      walk_at "gg"
      have z01 : 0 ≤ (if decide (0 < j) = true then (1 : Int) else 0) ∧ (if decide (0 < j) = true then (1 : Int) else 0) < 2 := by split <;> decide
      refine g_ixP (fun v => ∃ m : Int, v = .int m ∧ 0 ≤ m ∧ m ≤ 500) e7 z01.1 z01.2 (all_cons ⟨300, rfl, by decide, by decide⟩ (all_cons ⟨30, rfl, by decide, by decide⟩ all_nil)) ?_
      rintro _ ⟨m, rfl, m0, m5⟩
      have S27 := (S3.trans S4).trans S7
      walk_at "gg"
      refine ⟨f, m, rfl, S27 _ _ ef, m0, by omega, fun qs q H8 ql uq qb n8 S8 e8 => ?_⟩
      walk_at "gg"
      refine ⟨f, q, qs, rfl, S8 _ _ (S27 _ _ ef), e8, by omega, uq, qb, fun H9 S9 => ?_⟩
      walk_at "gg"
      refine g_ifF rfl ?_
      walk_at "gg"
      exact ⟨_, _, _, _, _, rfl, (((S1.trans S2).trans S27).trans S8).trans S9⟩
    · rintro σ H1 ⟨v1, v2, v3, v4, v5, rfl, S1⟩
      walk_at "gg"
      refine g_mkL (by walk_at "ln") fun l2 H2 n2 S2 e2 => ?_
      walk_at "gg"
      refine g_make fun x3 d3 H3 n3 S3 e3 => ?_
      refine ⟨x3, l2, d3, [10, 12, 20, 30], rfl, e3, S3 _ _ e2, by decide, by decide, fun H4 L4 B4 => ⟨rfl, ?_⟩⟩
      have S14 : Same H1 H4 := S2.trans (same_but S3 n3 B4)
      walk_at "gg"
      refine g_mkL (by walk_at "ln") fun l5 H5 n5 S5 e5 => ?_
      refine ⟨CK, .inr rfl, x3, l5, [10, 12, 20, 30], [], 15, 17, rfl, L4.same S5, by decide, by decide, e5, List.nil_sublist _, by decide, fun t6 H6 n6 S6 e6 => ?_⟩
      walk_at "gg"
      refine g_mkL (by walk_at "ln") fun l7 H7 n7 S7 e7 => ?_
      refine ⟨CK, .inr rfl, x3, l7, [10, 12, 20, 30], [], 12, 30, rfl, ((L4.same S5).same S6).same S7, by decide, by decide, e7, List.nil_sublist _, by decide, fun t8 H8 n8 S8 e8 => ?_⟩
      walk_at "gg"
      refine g_mkL (by walk_at "ln") fun l9 H9 n9 S9 e9 => ?_
      refine ⟨CK, .inr rfl, x3, l9, [10, 12, 20, 30], [12], 12, 13, rfl, ((((L4.same S5).same S6).same S7).same S8).same S9, by decide, by decide, e9, by decide, by decide, fun t10 H10 n10 S10 e10 => ?_⟩
      walk_at "gg"
      refine g_mkL (by walk_at "ln") fun l11 H11 n11 S11 e11 => ?_
      walk_at "gg"
      refine g_mkT (by walk_at "ln") fun t12 H12 n12 S12 e12 => ?_
      walk_at "gg"
      refine g_mkT (by walk_at "ln") fun t13 H13 n13 S13 e13 => ?_
      walk_at "gg"
      refine g_mkT (by walk_at "ln") fun t14 H14 n14 S14' e14 => ?_
      walk_at "gg"
      refine g_mkL (by walk_at "ln") fun l15 H15 n15 S15 e15 => ?_
      have S615 : Same H6 H15 := ((((((S7.trans S8).trans S9).trans S10).trans S11).trans S12).trans S13).trans (S14'.trans S15)
      have S815 : Same H8 H15 := ((((S9.trans S10).trans S11).trans S12).trans S13).trans (S14'.trans S15)
      have S1115 : Same H11 H15 := (S12.trans S13).trans (S14'.trans S15)
      have r1 : Dp K H15 (.ref t6) (tupD (some 12) (some 20) false false) := .tup (SqT.of (S615 _ _ e6)) (.cons (.int 12) (.cons (.int 20) (.cons (.bl false) (.cons (.bl false) .nil))))
      have r2 : Dp K H15 (.ref t8) (tupD (some 12) (some 30) true true) := .tup (SqT.of (S815 _ _ e8)) (.cons (.int 12) (.cons (.int 30) (.cons (.bl true) (.cons (.bl true) .nil))))
      have r3 : Dp K H15 (.ref t10) (tupD (some 10) (some 20) false false) := .tup (SqT.of ((S11.trans S1115) _ _ e10)) (.cons (.int 10) (.cons (.int 20) (.cons (.bl false) (.cons (.bl false) .nil))))
      have d1 : Dp K H15 (.ref t12) (tupD (some 12) (some 20) false false) := .tup (SqT.of ((S13.trans (S14'.trans S15)) _ _ e12)) (.cons (.int 12) (.cons (.int 20) (.cons (.bl false) (.cons (.bl false) .nil))))
      have d2 : Dp K H15 (.ref t13) (tupD (some 12) (some 30) true true) := .tup (SqT.of ((S14'.trans S15) _ _ e13)) (.cons (.int 12) (.cons (.int 30) (.cons (.bl true) (.cons (.bl true) .nil))))
      have d3' : Dp K H15 (.ref t14) (tupD (some 10) (some 20) false false) := .tup (SqT.of (S15 _ _ e14)) (.cons (.int 10) (.cons (.int 20) (.cons (.bl false) (.cons (.bl false) .nil))))
      have sh : SeqAt.shaped (.list [tupD (some 12) (some 20) false false, tupD (some 12) (some 30) true true, tupD (some 10) (some 20) false false]) = true := by decide +kernel
      walk_at "gg"
      refine g_eqD (.lst (SqL.of (S1115 _ _ e11)) (.cons r1 (.cons r2 (.cons r3 .nil)))) (.lst (SqL.of e15) (.cons d1 (.cons d2 (.cons d3' .nil)))) sh sh ?_
      rw [SeqAt.eqv_refl _ (SeqAt.canLay_of_shaped sh)]
      walk_at "gg"
      refine g_ifT rfl ?_
      walk_at "gg"
      refine g_mkL (by walk_at "ln") fun l16 H16 n16 S16 e16 => ?_
      walk_at "gg"
      refine g_make fun x17 d17 H17 n17 S17 e17 => ?_
      refine ⟨x17, l16, d17, [], rfl, e17, S17 _ _ e16, by decide, by decide, fun H18 L18 B18 => ⟨rfl, ?_⟩⟩
      have S1518 : Same H15 H18 := S16.trans (same_but S17 n17 B18)
      walk_at "gg"
      refine g_mkL (by walk_at "ln") fun l19 H19 n19 S19 e19 => ?_
      refine ⟨CL, .inl rfl, x17, l19, [], [], 0, 5, rfl, L18.same S19, by decide, by decide, e19, List.nil_sublist _, by decide, fun t20 H20 n20 S20 e20 => ?_⟩
      walk_at "gg"
      refine g_mkT (by walk_at "ln") fun t21 H21 n21 S21 e21 => ?_
      have q1 : Dp K H21 (.ref t20) (tupD none none false false) := .tup (SqT.of (S21 _ _ e20)) (.cons .non (.cons .non (.cons (.bl false) (.cons (.bl false) .nil))))
      have q2 : Dp K H21 (.ref t21) (tupD none none false false) := .tup (SqT.of e21) (.cons .non (.cons .non (.cons (.bl false) (.cons (.bl false) .nil))))
      have sh2 : SeqAt.shaped (tupD none none false false) = true := by decide +kernel
      refine g_eqD q1 q2 sh2 sh2 ?_
      rw [SeqAt.eqv_refl _ (SeqAt.canLay_of_shaped sh2)]
      exact k H21 ((((((S1.trans S14).trans S5).trans S6).trans S615).trans S1518).trans ((S19.trans S20).trans S21))
end
end Gk

namespace Gk
open PySem L2 Gx PySem.Spec PyProof.Rows
open C8 (Cal Met Mak pe_c pe_mt pe_mt0 pe_mk pe_gc)
theorem all_mk {l : PySem.W.OpenLaw} {w : World} {K : PySem.W.Frag} {h : Heap} {mg : Str → Option Value} {fa C_Found C_Line C_KeyLine f_law f_flow f_dip f_lines f_few f_spots f_near f_inner f_stepped f_nearest f_small_right f_great_right f_is_whole_number f_need_range f_need_inner f_reach f_is_held f_in_reach f_Line_init f_Line_is_point f_Line_is_ahead f_Line_is_beyond f_Line_count_less f_Line_need_point f_Line_contains f_Line_points p_Line_points p_KeyLine_points : Addr} (X : K.In h) (G : h.Ns mainGlobals mg) (hfa : mg "law" = some (.ref fa))
    {od_law an_law od_flow an_flow od_dip an_dip od_lines an_lines od_few an_few od_spots an_spots od_near an_near od_inner an_inner od_stepped an_stepped od_nearest an_nearest od_small_right an_small_right od_great_right an_great_right od_is_whole_number an_is_whole_number od_need_range an_need_range od_need_inner an_need_inner od_reach an_reach od_is_held an_is_held od_in_reach an_in_reach od_Line_init an_Line_init od_Line_is_point an_Line_is_point od_Line_is_ahead an_Line_is_ahead od_Line_is_beyond an_Line_is_beyond od_Line_count_less an_Line_count_less od_Line_need_point an_Line_need_point od_Line_contains an_Line_contains od_Line_points an_Line_points : Option Addr} {sl_law sl_flow sl_dip sl_lines sl_few sl_spots sl_near sl_inner sl_stepped sl_nearest sl_small_right sl_great_right sl_is_whole_number sl_need_range sl_need_inner sl_reach sl_is_held sl_in_reach sl_Line_init sl_Line_is_point sl_Line_is_ahead sl_Line_is_beyond sl_Line_count_less sl_Line_need_point sl_Line_contains sl_Line_points : Array (Option Value)} {oc_law kV_law dc_law pm_law cd_law ct_law oc_flow kV_flow dc_flow pm_flow cd_flow ct_flow oc_dip kV_dip dc_dip pm_dip cd_dip ct_dip oc_lines kV_lines dc_lines pm_lines cd_lines ct_lines oc_few kV_few dc_few pm_few cd_few ct_few oc_spots kV_spots dc_spots pm_spots cd_spots ct_spots oc_near kV_near dc_near pm_near cd_near ct_near oc_inner kV_inner dc_inner pm_inner cd_inner ct_inner oc_stepped kV_stepped dc_stepped pm_stepped cd_stepped ct_stepped oc_nearest kV_nearest dc_nearest pm_nearest cd_nearest ct_nearest oc_small_right kV_small_right dc_small_right pm_small_right cd_small_right ct_small_right oc_great_right kV_great_right dc_great_right pm_great_right cd_great_right ct_great_right oc_is_whole_number kV_is_whole_number dc_is_whole_number pm_is_whole_number cd_is_whole_number ct_is_whole_number oc_need_range kV_need_range dc_need_range pm_need_range cd_need_range ct_need_range oc_need_inner kV_need_inner dc_need_inner pm_need_inner cd_need_inner ct_need_inner oc_reach kV_reach dc_reach pm_reach cd_reach ct_reach oc_is_held kV_is_held dc_is_held pm_is_held cd_is_held ct_is_held oc_in_reach kV_in_reach dc_in_reach pm_in_reach cd_in_reach ct_in_reach oc_Line_init kV_Line_init dc_Line_init pm_Line_init cd_Line_init ct_Line_init oc_Line_is_point kV_Line_is_point dc_Line_is_point pm_Line_is_point cd_Line_is_point ct_Line_is_point oc_Line_is_ahead kV_Line_is_ahead dc_Line_is_ahead pm_Line_is_ahead cd_Line_is_ahead ct_Line_is_ahead oc_Line_is_beyond kV_Line_is_beyond dc_Line_is_beyond pm_Line_is_beyond cd_Line_is_beyond ct_Line_is_beyond oc_Line_count_less kV_Line_count_less dc_Line_count_less pm_Line_count_less cd_Line_count_less ct_Line_count_less oc_Line_need_point kV_Line_need_point dc_Line_need_point pm_Line_need_point cd_Line_need_point ct_Line_need_point oc_Line_contains kV_Line_contains dc_Line_contains pm_Line_contains cd_Line_contains ct_Line_contains oc_Line_points kV_Line_points dc_Line_points pm_Line_points cd_Line_points ct_Line_points : Value} {r_Line_points r_KeyLine_points : List Value} {tk_MOST_POINTS : Tok}
    (aC_Found : PySem.W.nsIn K mainGlobals "Found" = some (some (.ref C_Found)))
    (aC_Line : PySem.W.nsIn K mainGlobals "Line" = some (some (.ref C_Line)))
    (aC_KeyLine : PySem.W.nsIn K mainGlobals "KeyLine" = some (some (.ref C_KeyLine)))
    (a_law : PySem.W.nsIn K mainGlobals "law" = some (some (.ref f_law)))
    (l_law : K.lookup f_law = some ⟨oc_law, od_law, .func (PySem.W.fnOf "law" "law" (defArgs s_law) (defBody s_law) (defScope s_law) .none kV_law dc_law pm_law an_law cd_law ct_law), sl_law⟩)
    (c_law : PySem.W.codeIn K cd_law "law" = true)
    (k_law : PySem.W.keepIn K (.ref f_law) = true)
    (a_flow : PySem.W.nsIn K mainGlobals "_law_flow" = some (some (.ref f_flow)))
    (l_flow : K.lookup f_flow = some ⟨oc_flow, od_flow, .func (PySem.W.fnOf "_law_flow" "_law_flow" (defArgs s_flow) (defBody s_flow) (defScope s_flow) .none kV_flow dc_flow pm_flow an_flow cd_flow ct_flow), sl_flow⟩)
    (c_flow : PySem.W.codeIn K cd_flow "_law_flow" = true)
    (k_flow : PySem.W.keepIn K (.ref f_flow) = true)
    (a_dip : PySem.W.nsIn K mainGlobals "_law_dip" = some (some (.ref f_dip)))
    (l_dip : K.lookup f_dip = some ⟨oc_dip, od_dip, .func (PySem.W.fnOf "_law_dip" "_law_dip" (defArgs s_dip) (defBody s_dip) (defScope s_dip) .none kV_dip dc_dip pm_dip an_dip cd_dip ct_dip), sl_dip⟩)
    (c_dip : PySem.W.codeIn K cd_dip "_law_dip" = true)
    (k_dip : PySem.W.keepIn K (.ref f_dip) = true)
    (a_lines : PySem.W.nsIn K mainGlobals "_law_lines" = some (some (.ref f_lines)))
    (l_lines : K.lookup f_lines = some ⟨oc_lines, od_lines, .func (PySem.W.fnOf "_law_lines" "_law_lines" (defArgs s_lines) (defBody s_lines) (defScope s_lines) .none kV_lines dc_lines pm_lines an_lines cd_lines ct_lines), sl_lines⟩)
    (c_lines : PySem.W.codeIn K cd_lines "_law_lines" = true)
    (k_lines : PySem.W.keepIn K (.ref f_lines) = true)
    (a_few : PySem.W.nsIn K mainGlobals "_law_few" = some (some (.ref f_few)))
    (l_few : K.lookup f_few = some ⟨oc_few, od_few, .func (PySem.W.fnOf "_law_few" "_law_few" (defArgs s_few) (defBody s_few) (defScope s_few) .none kV_few dc_few pm_few an_few cd_few ct_few), sl_few⟩)
    (c_few : PySem.W.codeIn K cd_few "_law_few" = true)
    (k_few : PySem.W.keepIn K (.ref f_few) = true)
    (a_spots : PySem.W.nsIn K mainGlobals "_law_spots" = some (some (.ref f_spots)))
    (l_spots : K.lookup f_spots = some ⟨oc_spots, od_spots, .func (PySem.W.fnOf "_law_spots" "_law_spots" (defArgs s_spots) (defBody s_spots) (defScope s_spots) .none kV_spots dc_spots pm_spots an_spots cd_spots ct_spots), sl_spots⟩)
    (c_spots : PySem.W.codeIn K cd_spots "_law_spots" = true)
    (k_spots : PySem.W.keepIn K (.ref f_spots) = true)
    (a_near : PySem.W.nsIn K mainGlobals "_law_near" = some (some (.ref f_near)))
    (l_near : K.lookup f_near = some ⟨oc_near, od_near, .func (PySem.W.fnOf "_law_near" "_law_near" (defArgs s_near) (defBody s_near) (defScope s_near) .none kV_near dc_near pm_near an_near cd_near ct_near), sl_near⟩)
    (c_near : PySem.W.codeIn K cd_near "_law_near" = true)
    (k_near : PySem.W.keepIn K (.ref f_near) = true)
    (a_inner : PySem.W.nsIn K mainGlobals "_law_inner" = some (some (.ref f_inner)))
    (l_inner : K.lookup f_inner = some ⟨oc_inner, od_inner, .func (PySem.W.fnOf "_law_inner" "_law_inner" (defArgs s_inner) (defBody s_inner) (defScope s_inner) .none kV_inner dc_inner pm_inner an_inner cd_inner ct_inner), sl_inner⟩)
    (c_inner : PySem.W.codeIn K cd_inner "_law_inner" = true)
    (k_inner : PySem.W.keepIn K (.ref f_inner) = true)
    (a_stepped : PySem.W.nsIn K mainGlobals "_law_stepped" = some (some (.ref f_stepped)))
    (l_stepped : K.lookup f_stepped = some ⟨oc_stepped, od_stepped, .func (PySem.W.fnOf "_law_stepped" "_law_stepped" (defArgs s_stepped) (defBody s_stepped) (defScope s_stepped) .none kV_stepped dc_stepped pm_stepped an_stepped cd_stepped ct_stepped), sl_stepped⟩)
    (c_stepped : PySem.W.codeIn K cd_stepped "_law_stepped" = true)
    (k_stepped : PySem.W.keepIn K (.ref f_stepped) = true)
    (a_nearest : PySem.W.nsIn K mainGlobals "_law_nearest" = some (some (.ref f_nearest)))
    (l_nearest : K.lookup f_nearest = some ⟨oc_nearest, od_nearest, .func (PySem.W.fnOf "_law_nearest" "_law_nearest" (defArgs s_nearest) (defBody s_nearest) (defScope s_nearest) .none kV_nearest dc_nearest pm_nearest an_nearest cd_nearest ct_nearest), sl_nearest⟩)
    (c_nearest : PySem.W.codeIn K cd_nearest "_law_nearest" = true)
    (k_nearest : PySem.W.keepIn K (.ref f_nearest) = true)
    (a_small_right : PySem.W.nsIn K mainGlobals "_law_small_right" = some (some (.ref f_small_right)))
    (l_small_right : K.lookup f_small_right = some ⟨oc_small_right, od_small_right, .func (PySem.W.fnOf "_law_small_right" "_law_small_right" (defArgs s_small_right) (defBody s_small_right) (defScope s_small_right) .none kV_small_right dc_small_right pm_small_right an_small_right cd_small_right ct_small_right), sl_small_right⟩)
    (c_small_right : PySem.W.codeIn K cd_small_right "_law_small_right" = true)
    (k_small_right : PySem.W.keepIn K (.ref f_small_right) = true)
    (a_great_right : PySem.W.nsIn K mainGlobals "_law_great_right" = some (some (.ref f_great_right)))
    (l_great_right : K.lookup f_great_right = some ⟨oc_great_right, od_great_right, .func (PySem.W.fnOf "_law_great_right" "_law_great_right" (defArgs s_great_right) (defBody s_great_right) (defScope s_great_right) .none kV_great_right dc_great_right pm_great_right an_great_right cd_great_right ct_great_right), sl_great_right⟩)
    (c_great_right : PySem.W.codeIn K cd_great_right "_law_great_right" = true)
    (k_great_right : PySem.W.keepIn K (.ref f_great_right) = true)
    (a_is_whole_number : PySem.W.nsIn K mainGlobals "is_whole_number" = some (some (.ref f_is_whole_number)))
    (l_is_whole_number : K.lookup f_is_whole_number = some ⟨oc_is_whole_number, od_is_whole_number, .func (PySem.W.fnOf "is_whole_number" "is_whole_number" (defArgs s_is_whole_number) (defBody s_is_whole_number) (defScope s_is_whole_number) .none kV_is_whole_number dc_is_whole_number pm_is_whole_number an_is_whole_number cd_is_whole_number ct_is_whole_number), sl_is_whole_number⟩)
    (c_is_whole_number : PySem.W.codeIn K cd_is_whole_number "is_whole_number" = true)
    (k_is_whole_number : PySem.W.keepIn K (.ref f_is_whole_number) = true)
    (a_need_range : PySem.W.nsIn K mainGlobals "need_range" = some (some (.ref f_need_range)))
    (l_need_range : K.lookup f_need_range = some ⟨oc_need_range, od_need_range, .func (PySem.W.fnOf "need_range" "need_range" (defArgs s_need_range) (defBody s_need_range) (defScope s_need_range) .none kV_need_range dc_need_range pm_need_range an_need_range cd_need_range ct_need_range), sl_need_range⟩)
    (c_need_range : PySem.W.codeIn K cd_need_range "need_range" = true)
    (k_need_range : PySem.W.keepIn K (.ref f_need_range) = true)
    (a_need_inner : PySem.W.nsIn K mainGlobals "need_inner" = some (some (.ref f_need_inner)))
    (l_need_inner : K.lookup f_need_inner = some ⟨oc_need_inner, od_need_inner, .func (PySem.W.fnOf "need_inner" "need_inner" (defArgs s_need_inner) (defBody s_need_inner) (defScope s_need_inner) .none kV_need_inner dc_need_inner pm_need_inner an_need_inner cd_need_inner ct_need_inner), sl_need_inner⟩)
    (c_need_inner : PySem.W.codeIn K cd_need_inner "need_inner" = true)
    (k_need_inner : PySem.W.keepIn K (.ref f_need_inner) = true)
    (a_reach : PySem.W.nsIn K mainGlobals "reach" = some (some (.ref f_reach)))
    (l_reach : K.lookup f_reach = some ⟨oc_reach, od_reach, .func (PySem.W.fnOf "reach" "reach" (defArgs s_reach) (defBody s_reach) (defScope s_reach) .none kV_reach dc_reach pm_reach an_reach cd_reach ct_reach), sl_reach⟩)
    (c_reach : PySem.W.codeIn K cd_reach "reach" = true)
    (k_reach : PySem.W.keepIn K (.ref f_reach) = true)
    (a_is_held : PySem.W.nsIn K mainGlobals "is_held" = some (some (.ref f_is_held)))
    (l_is_held : K.lookup f_is_held = some ⟨oc_is_held, od_is_held, .func (PySem.W.fnOf "is_held" "is_held" (defArgs s_is_held) (defBody s_is_held) (defScope s_is_held) .none kV_is_held dc_is_held pm_is_held an_is_held cd_is_held ct_is_held), sl_is_held⟩)
    (c_is_held : PySem.W.codeIn K cd_is_held "is_held" = true)
    (k_is_held : PySem.W.keepIn K (.ref f_is_held) = true)
    (a_in_reach : PySem.W.nsIn K mainGlobals "in_reach" = some (some (.ref f_in_reach)))
    (l_in_reach : K.lookup f_in_reach = some ⟨oc_in_reach, od_in_reach, .func (PySem.W.fnOf "in_reach" "in_reach" (defArgs s_in_reach) (defBody s_in_reach) (defScope s_in_reach) .none kV_in_reach dc_in_reach pm_in_reach an_in_reach cd_in_reach ct_in_reach), sl_in_reach⟩)
    (c_in_reach : PySem.W.codeIn K cd_in_reach "in_reach" = true)
    (k_in_reach : PySem.W.keepIn K (.ref f_in_reach) = true)
    (a_Line_init : PySem.W.findIn K (.ref C_Line) "__init__" = some (some (.ref f_Line_init)))
    (i_Line_init : PySem.W.isFn K (.ref f_Line_init) = true)
    (l_Line_init : K.lookup f_Line_init = some ⟨oc_Line_init, od_Line_init, .func (PySem.W.fnOf "__init__" "Line.__init__" (defArgs s_Line_init) (defBody s_Line_init) (defScope s_Line_init) .none kV_Line_init dc_Line_init pm_Line_init an_Line_init cd_Line_init ct_Line_init), sl_Line_init⟩)
    (c_Line_init : PySem.W.codeIn K cd_Line_init "Line.__init__" = true)
    (k_Line_init : PySem.W.keepIn K (.ref f_Line_init) = true)
    (a_Line_is_point : PySem.W.findIn K (.ref C_Line) "is_point" = some (some (.ref f_Line_is_point)))
    (i_Line_is_point : PySem.W.isFn K (.ref f_Line_is_point) = true)
    (l_Line_is_point : K.lookup f_Line_is_point = some ⟨oc_Line_is_point, od_Line_is_point, .func (PySem.W.fnOf "is_point" "Line.is_point" (defArgs s_Line_is_point) (defBody s_Line_is_point) (defScope s_Line_is_point) .none kV_Line_is_point dc_Line_is_point pm_Line_is_point an_Line_is_point cd_Line_is_point ct_Line_is_point), sl_Line_is_point⟩)
    (c_Line_is_point : PySem.W.codeIn K cd_Line_is_point "Line.is_point" = true)
    (k_Line_is_point : PySem.W.keepIn K (.ref f_Line_is_point) = true)
    (a_Line_is_ahead : PySem.W.findIn K (.ref C_Line) "is_ahead" = some (some (.ref f_Line_is_ahead)))
    (i_Line_is_ahead : PySem.W.isFn K (.ref f_Line_is_ahead) = true)
    (l_Line_is_ahead : K.lookup f_Line_is_ahead = some ⟨oc_Line_is_ahead, od_Line_is_ahead, .func (PySem.W.fnOf "is_ahead" "Line.is_ahead" (defArgs s_Line_is_ahead) (defBody s_Line_is_ahead) (defScope s_Line_is_ahead) .none kV_Line_is_ahead dc_Line_is_ahead pm_Line_is_ahead an_Line_is_ahead cd_Line_is_ahead ct_Line_is_ahead), sl_Line_is_ahead⟩)
    (c_Line_is_ahead : PySem.W.codeIn K cd_Line_is_ahead "Line.is_ahead" = true)
    (k_Line_is_ahead : PySem.W.keepIn K (.ref f_Line_is_ahead) = true)
    (a_Line_is_beyond : PySem.W.findIn K (.ref C_Line) "is_beyond" = some (some (.ref f_Line_is_beyond)))
    (i_Line_is_beyond : PySem.W.isFn K (.ref f_Line_is_beyond) = true)
    (l_Line_is_beyond : K.lookup f_Line_is_beyond = some ⟨oc_Line_is_beyond, od_Line_is_beyond, .func (PySem.W.fnOf "is_beyond" "Line.is_beyond" (defArgs s_Line_is_beyond) (defBody s_Line_is_beyond) (defScope s_Line_is_beyond) .none kV_Line_is_beyond dc_Line_is_beyond pm_Line_is_beyond an_Line_is_beyond cd_Line_is_beyond ct_Line_is_beyond), sl_Line_is_beyond⟩)
    (c_Line_is_beyond : PySem.W.codeIn K cd_Line_is_beyond "Line.is_beyond" = true)
    (k_Line_is_beyond : PySem.W.keepIn K (.ref f_Line_is_beyond) = true)
    (a_Line_count_less : PySem.W.findIn K (.ref C_Line) "count_less" = some (some (.ref f_Line_count_less)))
    (i_Line_count_less : PySem.W.isFn K (.ref f_Line_count_less) = true)
    (l_Line_count_less : K.lookup f_Line_count_less = some ⟨oc_Line_count_less, od_Line_count_less, .func (PySem.W.fnOf "count_less" "Line.count_less" (defArgs s_Line_count_less) (defBody s_Line_count_less) (defScope s_Line_count_less) .none kV_Line_count_less dc_Line_count_less pm_Line_count_less an_Line_count_less cd_Line_count_less ct_Line_count_less), sl_Line_count_less⟩)
    (c_Line_count_less : PySem.W.codeIn K cd_Line_count_less "Line.count_less" = true)
    (k_Line_count_less : PySem.W.keepIn K (.ref f_Line_count_less) = true)
    (a_Line_need_point : PySem.W.findIn K (.ref C_Line) "need_point" = some (some (.ref f_Line_need_point)))
    (i_Line_need_point : PySem.W.isFn K (.ref f_Line_need_point) = true)
    (l_Line_need_point : K.lookup f_Line_need_point = some ⟨oc_Line_need_point, od_Line_need_point, .func (PySem.W.fnOf "need_point" "Line.need_point" (defArgs s_Line_need_point) (defBody s_Line_need_point) (defScope s_Line_need_point) .none kV_Line_need_point dc_Line_need_point pm_Line_need_point an_Line_need_point cd_Line_need_point ct_Line_need_point), sl_Line_need_point⟩)
    (c_Line_need_point : PySem.W.codeIn K cd_Line_need_point "Line.need_point" = true)
    (k_Line_need_point : PySem.W.keepIn K (.ref f_Line_need_point) = true)
    (a_Line_contains : PySem.W.findIn K (.ref C_Line) "__contains__" = some (some (.ref f_Line_contains)))
    (i_Line_contains : PySem.W.isFn K (.ref f_Line_contains) = true)
    (l_Line_contains : K.lookup f_Line_contains = some ⟨oc_Line_contains, od_Line_contains, .func (PySem.W.fnOf "__contains__" "Line.__contains__" (defArgs s_Line_contains) (defBody s_Line_contains) (defScope s_Line_contains) .none kV_Line_contains dc_Line_contains pm_Line_contains an_Line_contains cd_Line_contains ct_Line_contains), sl_Line_contains⟩)
    (c_Line_contains : PySem.W.codeIn K cd_Line_contains "Line.__contains__" = true)
    (k_Line_contains : PySem.W.keepIn K (.ref f_Line_contains) = true)
    (pg_Line : PySem.W.plainGet K C_Line Str.empty = true)
    (hd_Line : PySem.W.hasDictIn K C_Line = true)
    (po_Line : PySem.W.plainOver K C_Line = true)
    (sa_Line : PySem.W.findIn K (.ref C_Line) "__setattr__" = some (some (.builtin "object.__setattr__")))
    (mk_Line : PySem.W.makesIn K C_Line = true)
    (kc_Line : PySem.W.keepIn K (.ref C_Line) = true)
    (n_Line_own_points : PySem.W.findIn K (.ref C_Line) "own_points" = some none)
    (a_Line_points : PySem.W.findIn K (.ref C_Line) "points" = some (some (.ref p_Line_points)))
    (pr_Line_points : PySem.W.specialIn K (.ref p_Line_points) "__get__" = some (some (.builtin "property.__get__")))
    (pt_Line_points : PySem.W.takesIn K (.ref p_Line_points) = some true)
    (pf_Line_points : PySem.W.recIn K p_Line_points "property" = some (.ref f_Line_points :: r_Line_points))
    (l_Line_points : K.lookup f_Line_points = some ⟨oc_Line_points, od_Line_points, .func (PySem.W.fnOf "points" "Line.points" (defArgs s_Line_points) (defBody s_Line_points) (defScope s_Line_points) .none kV_Line_points dc_Line_points pm_Line_points an_Line_points cd_Line_points ct_Line_points), sl_Line_points⟩)
    (c_Line_points : PySem.W.codeIn K cd_Line_points "Line.points" = true)
    (k_Line_points : PySem.W.keepIn K (.ref f_Line_points) = true)
    (a_KeyLine_init : PySem.W.findIn K (.ref C_KeyLine) "__init__" = some (some (.ref f_Line_init)))
    (a_KeyLine_is_point : PySem.W.findIn K (.ref C_KeyLine) "is_point" = some (some (.ref f_Line_is_point)))
    (a_KeyLine_is_ahead : PySem.W.findIn K (.ref C_KeyLine) "is_ahead" = some (some (.ref f_Line_is_ahead)))
    (a_KeyLine_is_beyond : PySem.W.findIn K (.ref C_KeyLine) "is_beyond" = some (some (.ref f_Line_is_beyond)))
    (a_KeyLine_count_less : PySem.W.findIn K (.ref C_KeyLine) "count_less" = some (some (.ref f_Line_count_less)))
    (a_KeyLine_need_point : PySem.W.findIn K (.ref C_KeyLine) "need_point" = some (some (.ref f_Line_need_point)))
    (a_KeyLine_contains : PySem.W.findIn K (.ref C_KeyLine) "__contains__" = some (some (.ref f_Line_contains)))
    (pg_KeyLine : PySem.W.plainGet K C_KeyLine Str.empty = true)
    (hd_KeyLine : PySem.W.hasDictIn K C_KeyLine = true)
    (po_KeyLine : PySem.W.plainOver K C_KeyLine = true)
    (sa_KeyLine : PySem.W.findIn K (.ref C_KeyLine) "__setattr__" = some (some (.builtin "object.__setattr__")))
    (mk_KeyLine : PySem.W.makesIn K C_KeyLine = true)
    (kc_KeyLine : PySem.W.keepIn K (.ref C_KeyLine) = true)
    (n_KeyLine_own_points : PySem.W.findIn K (.ref C_KeyLine) "own_points" = some none)
    (a_KeyLine_points : PySem.W.findIn K (.ref C_KeyLine) "points" = some (some (.ref p_KeyLine_points)))
    (pr_KeyLine_points : PySem.W.specialIn K (.ref p_KeyLine_points) "__get__" = some (some (.builtin "property.__get__")))
    (pt_KeyLine_points : PySem.W.takesIn K (.ref p_KeyLine_points) = some true)
    (pf_KeyLine_points : PySem.W.recIn K p_KeyLine_points "property" = some (.ref f_Line_points :: r_KeyLine_points))
    (g_MOST_POINTS : PySem.W.nsIn K mainGlobals "MOST_POINTS" = some (some (.int 500 tk_MOST_POINTS)))
    (kit_list_Found : PySem.W.kitOne K (.type "list") (.ref C_Found) = some false)
    (z_len : PySem.W.nsIn K mainGlobals "len" = some none)
    (z_abs : PySem.W.nsIn K mainGlobals "abs" = some none)
    (z_max : PySem.W.nsIn K mainGlobals "max" = some none)
    (z_min : PySem.W.nsIn K mainGlobals "min" = some none)
    (z_range : PySem.W.nsIn K mainGlobals "range" = some none)
    (z_sorted : PySem.W.nsIn K mainGlobals "sorted" = some none)
    (z_set : PySem.W.nsIn K mainGlobals "set" = some none)
    (z_list : PySem.W.nsIn K mainGlobals "list" = some none)
    (z_tuple : PySem.W.nsIn K mainGlobals "tuple" = some none)
    (z_dict : PySem.W.nsIn K mainGlobals "dict" = some none)
    (z_int : PySem.W.nsIn K mainGlobals "int" = some none)
    (z_str : PySem.W.nsIn K mainGlobals "str" = some none)
    (z_bool : PySem.W.nsIn K mainGlobals "bool" = some none)
    (z_all : PySem.W.nsIn K mainGlobals "all" = some none)
    (z_any : PySem.W.nsIn K mainGlobals "any" = some none)
    (z_sum : PySem.W.nsIn K mainGlobals "sum" = some none)
    (z_isinstance : PySem.W.nsIn K mainGlobals "isinstance" = some none)
    (z_repr : PySem.W.nsIn K mainGlobals "repr" = some none)
    (z_zip : PySem.W.nsIn K mainGlobals "zip" = some none)
    (z_enumerate : PySem.W.nsIn K mainGlobals "enumerate" = some none)
    : ∃ fd : FuncData, (∀ (s : Shared) (v : Value), BindsTo s fd ⟨[v], []⟩ [("_law_script", v)]) ∧ ∀ base : Heap, K.In base → base.Ns mainGlobals mg → FnG l.prog w K mg base 8 fa fd ["_law_script"] (Gk.spLaw K) := by
  have e := hfa.symm.trans (PySem.W.mg_of X G a_law)
  cases e
  have G_Found : mg "Found" = some (.ref C_Found) := PySem.W.mg_of X G aC_Found
  have G_Line : mg "Line" = some (.ref C_Line) := PySem.W.mg_of X G aC_Line
  have G_KeyLine : mg "KeyLine" = some (.ref C_KeyLine) := PySem.W.mg_of X G aC_KeyLine
  have F_law := fun_mk (st := s_law) l_law c_law k_law
  have B_law := F_law.binds (ps := ["_law_script"]) fun _ _ _ _ _ _ us hl => match us, hl with | [_], _ => rfl
  have F_flow := fun_mk (st := s_flow) l_flow c_flow k_flow
  have B_flow := F_flow.binds (ps := ["_law_script", "_law_k"]) fun _ _ _ _ _ _ us hl => match us, hl with | [_, _], _ => rfl
  have G_flow : mg "_law_flow" = some (.ref f_flow) := PySem.W.mg_of X G a_flow
  have D_flow : Dn K mg "_law_flow" s_flow ["_law_script", "_law_k"] f_flow _ := ⟨F_flow, G_flow, B_flow⟩
  have F_dip := fun_mk (st := s_dip) l_dip c_dip k_dip
  have B_dip := F_dip.binds (ps := ["_law_flow_here", "_law_many"]) fun _ _ _ _ _ _ us hl => match us, hl with | [_, _], _ => rfl
  have G_dip : mg "_law_dip" = some (.ref f_dip) := PySem.W.mg_of X G a_dip
  have D_dip : Dn K mg "_law_dip" s_dip ["_law_flow_here", "_law_many"] f_dip _ := ⟨F_dip, G_dip, B_dip⟩
  have F_lines := fun_mk (st := s_lines) l_lines c_lines k_lines
  have B_lines := F_lines.binds (ps := ["_law_rows"]) fun _ _ _ _ _ _ us hl => match us, hl with | [_], _ => rfl
  have G_lines : mg "_law_lines" = some (.ref f_lines) := PySem.W.mg_of X G a_lines
  have D_lines : Dn K mg "_law_lines" s_lines ["_law_rows"] f_lines _ := ⟨F_lines, G_lines, B_lines⟩
  have F_few := fun_mk (st := s_few) l_few c_few k_few
  have B_few := F_few.binds (ps := ["_law_flow_here"]) fun _ _ _ _ _ _ us hl => match us, hl with | [_], _ => rfl
  have G_few : mg "_law_few" = some (.ref f_few) := PySem.W.mg_of X G a_few
  have D_few : Dn K mg "_law_few" s_few ["_law_flow_here"] f_few _ := ⟨F_few, G_few, B_few⟩
  have F_spots := fun_mk (st := s_spots) l_spots c_spots k_spots
  have B_spots := F_spots.binds (ps := ["_law_flow_here", "_law_most"]) fun _ _ _ _ _ _ us hl => match us, hl with | [_, _], _ => rfl
  have G_spots : mg "_law_spots" = some (.ref f_spots) := PySem.W.mg_of X G a_spots
  have D_spots : Dn K mg "_law_spots" s_spots ["_law_flow_here", "_law_most"] f_spots _ := ⟨F_spots, G_spots, B_spots⟩
  have F_near := fun_mk (st := s_near) l_near c_near k_near
  have B_near := F_near.binds (ps := ["_law_flow_here", "_law_spots_here"]) fun _ _ _ _ _ _ us hl => match us, hl with | [_, _], _ => rfl
  have G_near : mg "_law_near" = some (.ref f_near) := PySem.W.mg_of X G a_near
  have D_near : Dn K mg "_law_near" s_near ["_law_flow_here", "_law_spots_here"] f_near _ := ⟨F_near, G_near, B_near⟩
  have F_inner := fun_mk (st := s_inner) l_inner c_inner k_inner
  have B_inner := F_inner.binds (ps := ["_law_flow_here", "_law_rows"]) fun _ _ _ _ _ _ us hl => match us, hl with | [_, _], _ => rfl
  have G_inner : mg "_law_inner" = some (.ref f_inner) := PySem.W.mg_of X G a_inner
  have D_inner : Dn K mg "_law_inner" s_inner ["_law_flow_here", "_law_rows"] f_inner _ := ⟨F_inner, G_inner, B_inner⟩
  have F_stepped := fun_mk (st := s_stepped) l_stepped c_stepped k_stepped
  have B_stepped := F_stepped.binds (ps := ["_law_rows", "_law_begin_here", "_law_by"]) fun _ _ _ _ _ _ us hl => match us, hl with | [_, _, _], _ => rfl
  have G_stepped : mg "_law_stepped" = some (.ref f_stepped) := PySem.W.mg_of X G a_stepped
  have D_stepped : Dn K mg "_law_stepped" s_stepped ["_law_rows", "_law_begin_here", "_law_by"] f_stepped _ := ⟨F_stepped, G_stepped, B_stepped⟩
  have F_nearest := fun_mk (st := s_nearest) l_nearest c_nearest k_nearest
  have B_nearest := F_nearest.binds (ps := ["_law_rows", "_law_first", "_law_last"]) fun _ _ _ _ _ _ us hl => match us, hl with | [_, _, _], _ => rfl
  have G_nearest : mg "_law_nearest" = some (.ref f_nearest) := PySem.W.mg_of X G a_nearest
  have D_nearest : Dn K mg "_law_nearest" s_nearest ["_law_rows", "_law_first", "_law_last"] f_nearest _ := ⟨F_nearest, G_nearest, B_nearest⟩
  have F_small_right := fun_mk (st := s_small_right) l_small_right c_small_right k_small_right
  have B_small_right := F_small_right.binds (ps := ["_law_flow_here", "_law_rows"]) fun _ _ _ _ _ _ us hl => match us, hl with | [_, _], _ => rfl
  have G_small_right : mg "_law_small_right" = some (.ref f_small_right) := PySem.W.mg_of X G a_small_right
  have D_small_right : Dn K mg "_law_small_right" s_small_right ["_law_flow_here", "_law_rows"] f_small_right _ := ⟨F_small_right, G_small_right, B_small_right⟩
  have F_great_right := fun_mk (st := s_great_right) l_great_right c_great_right k_great_right
  have B_great_right := F_great_right.binds (ps := ["_law_flow_here", "_law_rows"]) fun _ _ _ _ _ _ us hl => match us, hl with | [_, _], _ => rfl
  have G_great_right : mg "_law_great_right" = some (.ref f_great_right) := PySem.W.mg_of X G a_great_right
  have D_great_right : Dn K mg "_law_great_right" s_great_right ["_law_flow_here", "_law_rows"] f_great_right _ := ⟨F_great_right, G_great_right, B_great_right⟩
  have F_is_whole_number := fun_mk (st := s_is_whole_number) l_is_whole_number c_is_whole_number k_is_whole_number
  have B_is_whole_number := F_is_whole_number.binds (ps := ["thing"]) fun _ _ _ _ _ _ us hl => match us, hl with | [_], _ => rfl
  have G_is_whole_number : mg "is_whole_number" = some (.ref f_is_whole_number) := PySem.W.mg_of X G a_is_whole_number
  have D_is_whole_number : Dn K mg "is_whole_number" s_is_whole_number ["thing"] f_is_whole_number _ := ⟨F_is_whole_number, G_is_whole_number, B_is_whole_number⟩
  have F_need_range := fun_mk (st := s_need_range) l_need_range c_need_range k_need_range
  have B_need_range := F_need_range.binds (ps := ["low", "high"]) fun _ _ _ _ _ _ us hl => match us, hl with | [_, _], _ => rfl
  have G_need_range : mg "need_range" = some (.ref f_need_range) := PySem.W.mg_of X G a_need_range
  have D_need_range : Dn K mg "need_range" s_need_range ["low", "high"] f_need_range _ := ⟨F_need_range, G_need_range, B_need_range⟩
  have F_need_inner := fun_mk (st := s_need_inner) l_need_inner c_need_inner k_need_inner
  have B_need_inner := F_need_inner.binds (ps := ["line", "inner"]) fun _ _ _ _ _ _ us hl => match us, hl with | [_, _], _ => rfl
  have G_need_inner : mg "need_inner" = some (.ref f_need_inner) := PySem.W.mg_of X G a_need_inner
  have D_need_inner : Dn K mg "need_inner" s_need_inner ["line", "inner"] f_need_inner _ := ⟨F_need_inner, G_need_inner, B_need_inner⟩
  have F_reach := fun_mk (st := s_reach) l_reach c_reach k_reach
  have B_reach := F_reach.binds (ps := ["line", "low", "high", "inner"]) fun _ _ _ _ _ _ us hl => match us, hl with | [_, _, _, _], _ => rfl
  have G_reach : mg "reach" = some (.ref f_reach) := PySem.W.mg_of X G a_reach
  have D_reach : Dn K mg "reach" s_reach ["line", "low", "high", "inner"] f_reach _ := ⟨F_reach, G_reach, B_reach⟩
  have F_is_held := fun_mk (st := s_is_held) l_is_held c_is_held k_is_held
  have B_is_held := F_is_held.binds (ps := ["found", "point"]) fun _ _ _ _ _ _ us hl => match us, hl with | [_, _], _ => rfl
  have G_is_held : mg "is_held" = some (.ref f_is_held) := PySem.W.mg_of X G a_is_held
  have D_is_held : Dn K mg "is_held" s_is_held ["found", "point"] f_is_held _ := ⟨F_is_held, G_is_held, B_is_held⟩
  have F_in_reach := fun_mk (st := s_in_reach) l_in_reach c_in_reach k_in_reach
  have B_in_reach := F_in_reach.binds (ps := ["line", "low", "high", "inner", "point"]) fun _ _ _ _ _ _ us hl => match us, hl with | [_, _, _, _, _], _ => rfl
  have G_in_reach : mg "in_reach" = some (.ref f_in_reach) := PySem.W.mg_of X G a_in_reach
  have D_in_reach : Dn K mg "in_reach" s_in_reach ["line", "low", "high", "inner", "point"] f_in_reach _ := ⟨F_in_reach, G_in_reach, B_in_reach⟩
  have F_Line_init := fun_mk (st := s_Line_init) l_Line_init c_Line_init k_Line_init
  have B_Line_init := F_Line_init.binds (ps := ["self", "points"]) fun _ _ _ _ _ _ us hl => match us, hl with | [_, _], _ => rfl
  have F_Line_is_point := fun_mk (st := s_Line_is_point) l_Line_is_point c_Line_is_point k_Line_is_point
  have B_Line_is_point := F_Line_is_point.binds (ps := ["self", "thing"]) fun _ _ _ _ _ _ us hl => match us, hl with | [_, _], _ => rfl
  have Me_Line_is_point : Meth K C_Line "is_point" f_Line_is_point := ⟨a_Line_is_point, i_Line_is_point, k_Line_is_point⟩
  have F_Line_is_ahead := fun_mk (st := s_Line_is_ahead) l_Line_is_ahead c_Line_is_ahead k_Line_is_ahead
  have B_Line_is_ahead := F_Line_is_ahead.binds (ps := ["self", "point", "low"]) fun _ _ _ _ _ _ us hl => match us, hl with | [_, _, _], _ => rfl
  have Me_Line_is_ahead : Meth K C_Line "is_ahead" f_Line_is_ahead := ⟨a_Line_is_ahead, i_Line_is_ahead, k_Line_is_ahead⟩
  have F_Line_is_beyond := fun_mk (st := s_Line_is_beyond) l_Line_is_beyond c_Line_is_beyond k_Line_is_beyond
  have B_Line_is_beyond := F_Line_is_beyond.binds (ps := ["self", "point", "high"]) fun _ _ _ _ _ _ us hl => match us, hl with | [_, _, _], _ => rfl
  have Me_Line_is_beyond : Meth K C_Line "is_beyond" f_Line_is_beyond := ⟨a_Line_is_beyond, i_Line_is_beyond, k_Line_is_beyond⟩
  have F_Line_count_less := fun_mk (st := s_Line_count_less) l_Line_count_less c_Line_count_less k_Line_count_less
  have B_Line_count_less := F_Line_count_less.binds (ps := ["self", "point"]) fun _ _ _ _ _ _ us hl => match us, hl with | [_, _], _ => rfl
  have Me_Line_count_less : Meth K C_Line "count_less" f_Line_count_less := ⟨a_Line_count_less, i_Line_count_less, k_Line_count_less⟩
  have F_Line_need_point := fun_mk (st := s_Line_need_point) l_Line_need_point c_Line_need_point k_Line_need_point
  have B_Line_need_point := F_Line_need_point.binds (ps := ["self", "thing"]) fun _ _ _ _ _ _ us hl => match us, hl with | [_, _], _ => rfl
  have Me_Line_need_point : Meth K C_Line "need_point" f_Line_need_point := ⟨a_Line_need_point, i_Line_need_point, k_Line_need_point⟩
  have F_Line_contains := fun_mk (st := s_Line_contains) l_Line_contains c_Line_contains k_Line_contains
  have B_Line_contains := F_Line_contains.binds (ps := ["self", "thing"]) fun _ _ _ _ _ _ us hl => match us, hl with | [_, _], _ => rfl
  have Me_Line_contains : Meth K C_Line "__contains__" f_Line_contains := ⟨a_Line_contains, i_Line_contains, k_Line_contains⟩
  have Cl_Line : Cls K C_Line := ⟨pg_Line, hd_Line, po_Line, sa_Line⟩
  have Mk_Line : Mk K C_Line f_Line_init := ⟨mk_Line, a_Line_init, i_Line_init, kc_Line⟩
  have F_Line_points := fun_mk (st := s_Line_points) l_Line_points c_Line_points k_Line_points
  have B_Line_points := F_Line_points.binds (ps := ["self"]) fun _ _ _ _ _ _ us hl => match us, hl with | [_], _ => rfl
  have Pr_Line_points : PropOf K C_Line "points" p_Line_points f_Line_points := ⟨a_Line_points, pr_Line_points, pt_Line_points, ⟨_, pf_Line_points⟩⟩
  have Me_KeyLine_is_point : Meth K C_KeyLine "is_point" f_Line_is_point := ⟨a_KeyLine_is_point, i_Line_is_point, k_Line_is_point⟩
  have Me_KeyLine_is_ahead : Meth K C_KeyLine "is_ahead" f_Line_is_ahead := ⟨a_KeyLine_is_ahead, i_Line_is_ahead, k_Line_is_ahead⟩
  have Me_KeyLine_is_beyond : Meth K C_KeyLine "is_beyond" f_Line_is_beyond := ⟨a_KeyLine_is_beyond, i_Line_is_beyond, k_Line_is_beyond⟩
  have Me_KeyLine_count_less : Meth K C_KeyLine "count_less" f_Line_count_less := ⟨a_KeyLine_count_less, i_Line_count_less, k_Line_count_less⟩
  have Me_KeyLine_need_point : Meth K C_KeyLine "need_point" f_Line_need_point := ⟨a_KeyLine_need_point, i_Line_need_point, k_Line_need_point⟩
  have Me_KeyLine_contains : Meth K C_KeyLine "__contains__" f_Line_contains := ⟨a_KeyLine_contains, i_Line_contains, k_Line_contains⟩
  have Cl_KeyLine : Cls K C_KeyLine := ⟨pg_KeyLine, hd_KeyLine, po_KeyLine, sa_KeyLine⟩
  have Mk_KeyLine : Mk K C_KeyLine f_Line_init := ⟨mk_KeyLine, a_KeyLine_init, i_Line_init, kc_KeyLine⟩
  have Pr_KeyLine_points : PropOf K C_KeyLine "points" p_KeyLine_points f_Line_points := ⟨a_KeyLine_points, pr_KeyLine_points, pt_KeyLine_points, ⟨_, pf_KeyLine_points⟩⟩
  have T : Bt mg := ⟨PySem.W.mg_none_of X G z_len, PySem.W.mg_none_of X G z_abs, PySem.W.mg_none_of X G z_max, PySem.W.mg_none_of X G z_min, PySem.W.mg_none_of X G z_range, PySem.W.mg_none_of X G z_sorted, PySem.W.mg_none_of X G z_set, PySem.W.mg_none_of X G z_list, PySem.W.mg_none_of X G z_tuple, PySem.W.mg_none_of X G z_dict, PySem.W.mg_none_of X G z_int, PySem.W.mg_none_of X G z_str, PySem.W.mg_none_of X G z_bool, PySem.W.mg_none_of X G z_all, PySem.W.mg_none_of X G z_any, PySem.W.mg_none_of X G z_sum, PySem.W.mg_none_of X G z_isinstance, PySem.W.mg_none_of X G z_repr, PySem.W.mg_none_of X G z_zip, PySem.W.mg_none_of X G z_enumerate⟩
  refine ⟨PySem.W.fnOf "law" "law" (defArgs s_law) (defBody s_law) (defScope s_law) .none kV_law dc_law pm_law an_law cd_law ct_law, fun s v => .of_eq rfl, fun base _ _ => ?_⟩
  have L1 : LineC K C_Line := ⟨Cl_Line, n_Line_own_points⟩
  have L2 : LineC K C_KeyLine := ⟨Cl_KeyLine, n_KeyLine_own_points⟩
  have wh := ok_whole (P := l.prog) (w := w) (base := base) D_is_whole_number T
  have gF : ∃ u, mg "Found" = some u ∧ RelV (.ref C_Found) u := ⟨_, G_Found, rfl⟩
  have gM : ∃ u, mg "MOST_POINTS" = some u ∧ RelV (.int 500) u := ⟨_, PySem.W.mg_of X G g_MOST_POINTS, ⟨_, rfl⟩⟩
  have ip := ok_point F_Line_is_point wh
  have p1 : Met l.prog w K mg base 2 C_Line "is_point" (spPoint K) [] := ⟨_, _, _, _, Cl_Line, Me_Line_is_point, ip, B_Line_is_point, .nil⟩
  have p2 : Met l.prog w K mg base 2 C_KeyLine "is_point" (spPoint K) [] := ⟨_, _, _, _, Cl_KeyLine, Me_KeyLine_is_point, ip, B_Line_is_point, .nil⟩
  have m1 : Mak l.prog w K mg base 3 "Line" C_Line (spInitI K C_Line) [] := ⟨_, _, _, _, Mk_Line, ok_initI F_Line_init L1 T p1 gF gM kit_list_Found, G_Line, B_Line_init, .nil⟩
  have m2 : Mak l.prog w K mg base 3 "KeyLine" C_KeyLine (spInitI K C_KeyLine) [] := ⟨_, _, _, _, Mk_KeyLine, ok_initI F_Line_init L2 T p2 gF gM kit_list_Found, G_KeyLine, B_Line_init, .nil⟩
  have ah := ok_ahead (P := l.prog) (w := w) (mg := mg) (base := base) F_Line_is_ahead
  have be := ok_beyond (P := l.prog) (w := w) (mg := mg) (base := base) F_Line_is_beyond
  have ah1 : Met l.prog w K mg base 1 C_Line "is_ahead" spAhead [] := ⟨_, _, _, _, Cl_Line, Me_Line_is_ahead, ah, B_Line_is_ahead, .nil⟩
  have ah2 : Met l.prog w K mg base 1 C_KeyLine "is_ahead" spAhead [] := ⟨_, _, _, _, Cl_KeyLine, Me_KeyLine_is_ahead, ah, B_Line_is_ahead, .nil⟩
  have be1 : Met l.prog w K mg base 1 C_Line "is_beyond" spBeyond [] := ⟨_, _, _, _, Cl_Line, Me_Line_is_beyond, be, B_Line_is_beyond, .nil⟩
  have be2 : Met l.prog w K mg base 1 C_KeyLine "is_beyond" spBeyond [] := ⟨_, _, _, _, Cl_KeyLine, Me_KeyLine_is_beyond, be, B_Line_is_beyond, .nil⟩
  have cl1 : Met l.prog w K mg base 1 C_Line "count_less" (spCount C_Line) [] := ⟨_, _, _, _, Cl_Line, Me_Line_count_less, ok_count F_Line_count_less L1 T, B_Line_count_less, .nil⟩
  have cl2 : Met l.prog w K mg base 1 C_KeyLine "count_less" (spCount C_KeyLine) [] := ⟨_, _, _, _, Cl_KeyLine, Me_KeyLine_count_less, ok_count F_Line_count_less L2 T, B_Line_count_less, .nil⟩
  have hs1 : Met l.prog w K mg base 3 C_Line "__contains__" (spHas C_Line) [] := ⟨_, _, _, _, Cl_Line, Me_Line_contains, ok_has F_Line_contains L1 T p1 cl1, B_Line_contains, .nil⟩
  have hs2 : Met l.prog w K mg base 3 C_KeyLine "__contains__" (spHas C_KeyLine) [] := ⟨_, _, _, _, Cl_KeyLine, Me_KeyLine_contains, ok_has F_Line_contains L2 T p2 cl2, B_Line_contains, .nil⟩
  have np2 : Met l.prog w K mg base 3 C_KeyLine "need_point" (spNeed C_KeyLine) [] := ⟨_, _, _, _, Cl_KeyLine, Me_KeyLine_need_point, ok_need F_Line_need_point p2, B_Line_need_point, .nil⟩
  have q1 : PropR l.prog w K mg base 1 C_Line "points" (spPoints K C_Line) := ⟨_, _, _, _, Cl_Line, Pr_Line_points, ok_points F_Line_points L1 T, B_Line_points⟩
  have q2 : PropR l.prog w K mg base 1 C_KeyLine "points" (spPoints K C_KeyLine) := ⟨_, _, _, _, Cl_KeyLine, Pr_KeyLine_points, ok_points F_Line_points L2 T, B_Line_points⟩
  have pa : FnOk l.prog w K mg base CX0 1 f_Line_points _ ["self"] (spAny (two C_Line C_KeyLine) (spPoints K)) := fn_any (two_all (ok_points F_Line_points L1 T) (ok_points F_Line_points L2 T))
  have qa : PropS l.prog w K mg base 1 (two C_Line C_KeyLine) "points" (spAny (two C_Line C_KeyLine) (spPoints K)) := ⟨two_all ⟨_, _, _, _, Cl_Line, Pr_Line_points, pa, B_Line_points⟩ ⟨_, _, _, _, Cl_KeyLine, Pr_KeyLine_points, pa, B_Line_points⟩⟩
  have ra := ok_range (P := l.prog) (w := w) (base := base) D_need_range
  have r1 := ok_reach D_reach T L1 ra (ok_inner D_need_inner T hs1) q1 p1 ah1 be1
  have r2 := ok_reach D_reach T L2 ra (ok_inner D_need_inner T hs2) q2 p2 ah2 be2
  have rA : FnOk l.prog w K mg base CX0 5 f_reach _ ["line", "low", "high", "inner"] (spAny (two C_Line C_KeyLine) spReach) := fn_any (two_all r1 r2)
  have cA : Cal l.prog w K mg base 5 "reach" (spAny (two C_Line C_KeyLine) spReach) [] := cal_of D_reach rA
  have kA : CalK l.prog w K mg base 5 "reach" ["inner", "low", "line", "high"] rotV (spAny (two C_Line C_KeyLine) spReach) := ⟨_, _, _, rotU, rA, G_reach, k_reach, kbinds_rot (fun _ _ _ _ => rfl)⟩
  have c2 : Cal l.prog w K mg base 5 "reach" (spReach C_KeyLine) [] := cal_of D_reach r2
  have hd := ok_held (P := l.prog) (w := w) (base := base) D_is_held
  have ir : Cal l.prog w K mg base 6 "in_reach" (spInR C_KeyLine) [] := cal_of D_in_reach (ok_inReach D_in_reach c2 np2 hd)
  have dip := ok_dip (P := l.prog) (w := w) (base := base) D_dip T
  have flo := ok_flow (P := l.prog) (w := w) (base := base) D_flow T
  have few := ok_few D_few T dip
  have spo := ok_spots D_spots T dip
  have nea := ok_near D_near T dip
  have som := ok_some D_inner T dip
  have ste := ok_step (P := l.prog) (w := w) (base := base) D_stepped T
  have nrs := ok_nearest (P := l.prog) (w := w) (base := base) D_nearest T
  have lin := ok_lines D_lines T m1 m2
  have sma := calG_of D_small_right (ok_small D_small_right T dip som ste lin cA kA qa)
  have gre := calG_of D_great_right (ok_great9 D_great_right T m2 q2 nea som nrs c2 ir)
  have D_law : Dn K mg "law" s_law ["_law_script"] _ _ := ⟨F_law, hfa, B_law⟩
  exact ok_law D_law T m1 m2 flo few spo cA sma gre
end Gk
open PySem PySem.W PyProof.Rows
set_option maxRecDepth 100000 in
set_option maxHeartbeats 0 in
theorem PySem.Challenge.cw_gapreach_k09_reaches_by_steps_holds : PySem.Challenge.rw_gapreach_k09_reaches_by_steps.Holds := by
  w_on; o_law; k_head; (case hw => w_witness2)
  k_fill
  refine Gx.walkG (l := PySem.Challenge.rw_gapreach_k09_reaches_by_steps) (sp := Gk.spLaw) (k := 8) (x := "_law_script") rfl (by decide) rfl ⟨rfl, by decide, by decide⟩ (fun w h Y => PySem.W.kIn_of Y) ?F ?S
  case S => exact fun K H a ns _ q => ⟨a, ns, rfl, q, fun _ _ => rfl⟩
  case F =>
    intro w mg fa h KX G hmg
    refine' Gk.all_mk KX G hmg ?aC_Found ?aC_Line ?aC_KeyLine ?a_law ?l_law ?c_law ?k_law ?a_flow ?l_flow ?c_flow ?k_flow ?a_dip ?l_dip ?c_dip ?k_dip ?a_lines ?l_lines ?c_lines ?k_lines ?a_few ?l_few ?c_few ?k_few ?a_spots ?l_spots ?c_spots ?k_spots ?a_near ?l_near ?c_near ?k_near ?a_inner ?l_inner ?c_inner ?k_inner ?a_stepped ?l_stepped ?c_stepped ?k_stepped ?a_nearest ?l_nearest ?c_nearest ?k_nearest ?a_small_right ?l_small_right ?c_small_right ?k_small_right ?a_great_right ?l_great_right ?c_great_right ?k_great_right ?a_is_whole_number ?l_is_whole_number ?c_is_whole_number ?k_is_whole_number ?a_need_range ?l_need_range ?c_need_range ?k_need_range ?a_need_inner ?l_need_inner ?c_need_inner ?k_need_inner ?a_reach ?l_reach ?c_reach ?k_reach ?a_is_held ?l_is_held ?c_is_held ?k_is_held ?a_in_reach ?l_in_reach ?c_in_reach ?k_in_reach ?a_Line_init ?i_Line_init ?l_Line_init ?c_Line_init ?k_Line_init ?a_Line_is_point ?i_Line_is_point ?l_Line_is_point ?c_Line_is_point ?k_Line_is_point ?a_Line_is_ahead ?i_Line_is_ahead ?l_Line_is_ahead ?c_Line_is_ahead ?k_Line_is_ahead ?a_Line_is_beyond ?i_Line_is_beyond ?l_Line_is_beyond ?c_Line_is_beyond ?k_Line_is_beyond ?a_Line_count_less ?i_Line_count_less ?l_Line_count_less ?c_Line_count_less ?k_Line_count_less ?a_Line_need_point ?i_Line_need_point ?l_Line_need_point ?c_Line_need_point ?k_Line_need_point ?a_Line_contains ?i_Line_contains ?l_Line_contains ?c_Line_contains ?k_Line_contains ?pg_Line ?hd_Line ?po_Line ?sa_Line ?mk_Line ?kc_Line ?n_Line_own_points ?a_Line_points ?pr_Line_points ?pt_Line_points ?pf_Line_points ?l_Line_points ?c_Line_points ?k_Line_points ?a_KeyLine_init ?a_KeyLine_is_point ?a_KeyLine_is_ahead ?a_KeyLine_is_beyond ?a_KeyLine_count_less ?a_KeyLine_need_point ?a_KeyLine_contains ?pg_KeyLine ?hd_KeyLine ?po_KeyLine ?sa_KeyLine ?mk_KeyLine ?kc_KeyLine ?n_KeyLine_own_points ?a_KeyLine_points ?pr_KeyLine_points ?pt_KeyLine_points ?pf_KeyLine_points ?g_MOST_POINTS ?kit_list_Found ?z_len ?z_abs ?z_max ?z_min ?z_range ?z_sorted ?z_set ?z_list ?z_tuple ?z_dict ?z_int ?z_str ?z_bool ?z_all ?z_any ?z_sum ?z_isinstance ?z_repr ?z_zip ?z_enumerate
    (case aC_Found => k_is)
    (case aC_Line => k_is)
    (case aC_KeyLine => k_is)
    (case a_law => k_is)
    (case l_law => k_is)
    (case c_law => k_is)
    (case k_law => k_is)
    (case a_flow => k_is)
    (case l_flow => k_is)
    (case c_flow => k_is)
    (case k_flow => k_is)
    (case a_dip => k_is)
    (case l_dip => k_is)
    (case c_dip => k_is)
    (case k_dip => k_is)
    (case a_lines => k_is)
    (case l_lines => k_is)
    (case c_lines => k_is)
    (case k_lines => k_is)
    (case a_few => k_is)
    (case l_few => k_is)
    (case c_few => k_is)
    (case k_few => k_is)
    (case a_spots => k_is)
    (case l_spots => k_is)
    (case c_spots => k_is)
    (case k_spots => k_is)
    (case a_near => k_is)
    (case l_near => k_is)
    (case c_near => k_is)
    (case k_near => k_is)
    (case a_inner => k_is)
    (case l_inner => k_is)
    (case c_inner => k_is)
    (case k_inner => k_is)
    (case a_stepped => k_is)
    (case l_stepped => k_is)
    (case c_stepped => k_is)
    (case k_stepped => k_is)
    (case a_nearest => k_is)
    (case l_nearest => k_is)
    (case c_nearest => k_is)
    (case k_nearest => k_is)
    (case a_small_right => k_is)
    (case l_small_right => k_is)
    (case c_small_right => k_is)
    (case k_small_right => k_is)
    (case a_great_right => k_is)
    (case l_great_right => k_is)
    (case c_great_right => k_is)
    (case k_great_right => k_is)
    (case a_is_whole_number => k_is)
    (case l_is_whole_number => k_is)
    (case c_is_whole_number => k_is)
    (case k_is_whole_number => k_is)
    (case a_need_range => k_is)
    (case l_need_range => k_is)
    (case c_need_range => k_is)
    (case k_need_range => k_is)
    (case a_need_inner => k_is)
    (case l_need_inner => k_is)
    (case c_need_inner => k_is)
    (case k_need_inner => k_is)
    (case a_reach => k_is)
    (case l_reach => k_is)
    (case c_reach => k_is)
    (case k_reach => k_is)
    (case a_is_held => k_is)
    (case l_is_held => k_is)
    (case c_is_held => k_is)
    (case k_is_held => k_is)
    (case a_in_reach => k_is)
    (case l_in_reach => k_is)
    (case c_in_reach => k_is)
    (case k_in_reach => k_is)
    (case a_Line_init => k_is)
    (case i_Line_init => k_is)
    (case l_Line_init => k_is)
    (case c_Line_init => k_is)
    (case k_Line_init => k_is)
    (case a_Line_is_point => k_is)
    (case i_Line_is_point => k_is)
    (case l_Line_is_point => k_is)
    (case c_Line_is_point => k_is)
    (case k_Line_is_point => k_is)
    (case a_Line_is_ahead => k_is)
    (case i_Line_is_ahead => k_is)
    (case l_Line_is_ahead => k_is)
    (case c_Line_is_ahead => k_is)
    (case k_Line_is_ahead => k_is)
    (case a_Line_is_beyond => k_is)
    (case i_Line_is_beyond => k_is)
    (case l_Line_is_beyond => k_is)
    (case c_Line_is_beyond => k_is)
    (case k_Line_is_beyond => k_is)
    (case a_Line_count_less => k_is)
    (case i_Line_count_less => k_is)
    (case l_Line_count_less => k_is)
    (case c_Line_count_less => k_is)
    (case k_Line_count_less => k_is)
    (case a_Line_need_point => k_is)
    (case i_Line_need_point => k_is)
    (case l_Line_need_point => k_is)
    (case c_Line_need_point => k_is)
    (case k_Line_need_point => k_is)
    (case a_Line_contains => k_is)
    (case i_Line_contains => k_is)
    (case l_Line_contains => k_is)
    (case c_Line_contains => k_is)
    (case k_Line_contains => k_is)
    (case pg_Line => k_is)
    (case hd_Line => k_is)
    (case po_Line => k_is)
    (case sa_Line => k_is)
    (case mk_Line => k_is)
    (case kc_Line => k_is)
    (case n_Line_own_points => k_is)
    (case a_Line_points => k_is)
    (case pr_Line_points => k_is)
    (case pt_Line_points => k_is)
    (case pf_Line_points => k_is)
    (case l_Line_points => k_is)
    (case c_Line_points => k_is)
    (case k_Line_points => k_is)
    (case a_KeyLine_init => k_is)
    (case a_KeyLine_is_point => k_is)
    (case a_KeyLine_is_ahead => k_is)
    (case a_KeyLine_is_beyond => k_is)
    (case a_KeyLine_count_less => k_is)
    (case a_KeyLine_need_point => k_is)
    (case a_KeyLine_contains => k_is)
    (case pg_KeyLine => k_is)
    (case hd_KeyLine => k_is)
    (case po_KeyLine => k_is)
    (case sa_KeyLine => k_is)
    (case mk_KeyLine => k_is)
    (case kc_KeyLine => k_is)
    (case n_KeyLine_own_points => k_is)
    (case a_KeyLine_points => k_is)
    (case pr_KeyLine_points => k_is)
    (case pt_KeyLine_points => k_is)
    (case pf_KeyLine_points => k_is)
    (case g_MOST_POINTS => k_is)
    (case kit_list_Found => kit_is)
    (case z_len => k_is)
    (case z_abs => k_is)
    (case z_max => k_is)
    (case z_min => k_is)
    (case z_range => k_is)
    (case z_sorted => k_is)
    (case z_set => k_is)
    (case z_list => k_is)
    (case z_tuple => k_is)
    (case z_dict => k_is)
    (case z_int => k_is)
    (case z_str => k_is)
    (case z_bool => k_is)
    (case z_all => k_is)
    (case z_any => k_is)
    (case z_sum => k_is)
    (case z_isinstance => k_is)
    (case z_repr => k_is)
    (case z_zip => k_is)
    (case z_enumerate => k_is)
#print axioms PySem.Challenge.cw_gapreach_k09_reaches_by_steps_holds
