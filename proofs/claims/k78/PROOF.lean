import PyProof.Rows.All
import Wide.All
import OpenK.AllK
import Wide.FinOn
import HandS.ForMost
import HandS.Evl
import HandS.Codes
import HandS.WideBits
import HandS.Wide
import HandS.IsInst
import HandS.Property
import HandS.Star
import HandS.Steps
import HandS.NoneIn
import KE.KUnpackStar
import HandS.RaiseMore
import HandS.Text
import HandS.Iter
import HandS.More
import HandS.DictComp
import HandS.OwnEq
import KE.IntTextLaws
import HandS.ExcInit
import KE.KExcIs
import HandS.ExcOwn
import HandS.WordsExc
import HandS.Deep
import HandS.Dict
import HandS.ExcValue
import PySem.Challenge.RW_gapreach_k78_errors_made
import HandS.ExcIs
set_option Elab.async false
set_option linter.all false
set_option maxRecDepth 100000
set_option maxHeartbeats 4000000
namespace Gx
open PySem L2
/-! ### a list of three whole numbers that a def changes, known to its callers by what stays true of it -/
/-- at f stands a list of three whole numbers, the first one at least 0 -/
def FlowP (f : Addr) (h : Heap) : Prop := ∃ (x y z : Int) (t u v : Tok) (n : Nat), 0 ≤ x ∧ h.get? f = some { cls := .type "list", data := .seq #[.int x t, .int y u, .int z v] n }
def FlowO (f : Addr) : HO := .ext (FlowP f)
def three (x y z : Int) : HO := .lst [.int x, .int y, .int z]
section
variable {P : Program} {w : World} {K : PySem.W.Frag} {mg : Str → Option Value} {base : Heap} {H : Hp} {h : Heap} {f : Addr}
theorem flow_open (ok : HOk P w H h) (hf : H f = some (FlowO f)) : ∃ x y z, 0 ≤ x ∧ HOk P w (upd H f (three x y z)) h := by
  have q : ObjOk P w H h f (FlowO f) := ok f _ hf
  obtain ⟨⟨x, y, z, t, u, v, n, hx, e⟩, _, _⟩ := q
  refine ⟨x, y, z, hx, ok.write (by rw [hf]; trivial) (Or.inl rfl) (fun _ _ _ q => q) ⟨_, e⟩ ?_⟩
  exact ⟨(by decide : 3 ≤ sizeLine), _, n, .cons ⟨t, rfl⟩ (.cons ⟨u, rfl⟩ (.cons ⟨v, rfl⟩ .nil)), e⟩
theorem flow_close {x y z : Int} (ok : HOk P w H h) (hf : H f = some (three x y z)) (hx : 0 ≤ x) : HOk P w (upd H f (FlowO f)) h := by
  have q : ObjOk P w H h f (three x y z) := ok f _ hf
  obtain ⟨_, its, n, r, e⟩ := q
  have hp : FlowP f h := by
    cases r with
    | cons r1 r =>
      cases r with
      | cons r2 r =>
        cases r with
        | cons r3 r =>
          cases r
          obtain ⟨t, rfl⟩ := r1
          obtain ⟨u, rfl⟩ := r2
          obtain ⟨v, rfl⟩ := r3
          exact ⟨x, y, z, t, u, v, n, hx, e⟩
  refine ok.write (by rw [hf]; trivial) (Or.inl rfl) (fun _ _ _ q => q) ⟨_, e⟩ ?_
  exact ⟨hp, ⟨_, e⟩, fun h1 h2 p1 k => by
    obtain ⟨x, y, z, t, u, v, n, hx, e⟩ := p1
    exact ⟨x, y, z, t, u, v, n, hx, k _ e⟩⟩
/-- a def that is proved for the list as it stands keeps its promise for the list by what stays true of it -/
theorem flow_view {k : Nat} {fa : Addr} {fd : FuncData} {ps : List Str} {sp sp' : Sp} (F : FnOk P w K mg base CX0 k fa fd ps sp)
    (hs : ∀ vs H Q E, sp' vs H Q E → ∃ f, H f = some (FlowO f) ∧ ∀ x y z, 0 ≤ x → sp vs (upd H f (three x y z)) (fun v H' => (∃ x' y' z', 0 ≤ x' ∧ H' f = some (three x' y' z')) ∧ Q v (upd H' f (FlowO f))) E) :
    FnOk P w K mg base CX0 k fa fd ps sp' := by
  refine ⟨fun vs H Q E q => ?_, fun A outer s H args us vs Q E hr he hb hv q => ?_⟩
  · obtain ⟨f, _, k⟩ := hs vs H Q E q
    exact F.len _ _ _ _ (k 0 0 0 (Int.le_refl 0))
  · obtain ⟨f, hf, k⟩ := hs vs H Q E q
    obtain ⟨x, y, z, hx, ok1⟩ := flow_open he.hok hf
    have nf : ∀ b, H b = none → b ≠ f := fun b n e => by rw [e, hf] at n; cases n
    have mu : Mut (H f) := by rw [hf]; trivial
    have hof : ∃ o, s.heap.get? f = some o := by
      have q : ObjOk P w H s.heap f (FlowO f) := he.hok f _ hf
      exact q.2.1
    have he1 : Env0 P w K mg base A outer s (upd H f (three x y z)) :=
      ⟨he.frames, he.mod, fun b o e => ⟨(he.bs b o e).1, by rw [upd_ne (nf b (he.bs b o e).2)]; exact (he.bs b o e).2⟩, he.bsz, he.funs, fun b hb => by rw [upd_ne (nf b (he.frf b hb))]; exact he.frf b hb, ok1, he.bare⟩
    refine codeAny_mono (F.run A outer s _ args us vs _ E hr he1 hb hv (k x y z hx)) fun r s' hq => ?_
    cases r with
    | error e => exact hq.elim
    | ok fl =>
      cases fl with
      | ret u =>
        obtain ⟨v, H', os, bare, un, hok, rv, ⟨x', y', z', hx', e'⟩, q'⟩ := hq
        refine ⟨v, upd H' f (FlowO f), os, bare, ?_, flow_close hok e' hx', rv, q'⟩
        have u1 : Un (frs outer) [] H (upd H f (three x y z)) s.heap s.heap := Un.write mu (Or.inl rfl) (fun _ _ _ q => q) hof
        have hof' : ∃ o, s'.heap.get? f = some o := by
          have q : ObjOk P w H' s'.heap f (three x' y' z') := hok f _ e'
          obtain ⟨_, its, n, r, e⟩ := q
          exact ⟨_, e⟩
        have u2 : Un (frs outer) [] H' (upd H' f (FlowO f)) s'.heap s'.heap := Un.write (by rw [e']; trivial) (Or.inl rfl) (fun _ _ _ q => q) hof'
        exact (u1.trans un).trans u2
      | next => exact hq.elim
      | brk => exact hq.elim
      | cont => exact hq.elim
end
end Gx

namespace Gx
open PySem L2
/-! ### readings, from the left: each of these takes one step -/
section
variable {σ : L2.St} {H H' : Hp} {Q : VK} {K : PySem.W.Frag} {v x y : V} {ta tb te tc : TE} {tt tu : TT} {t u : TS} {D : Ends} {i j : Nat} {r : R2}
theorem g_var (h : σ[i]? = some (some v)) (q : Q v H) : tVar i σ H Q := ⟨v, h, q⟩
theorem g_c (q : Q v H) : tC v σ H Q := q
theorem g_op (q : ta σ H fun x H1 => tb σ H1 fun y H2 => r x y H2 Q) : tOp r ta tb σ H Q := q
theorem g_I0 {g : Int → Int → V} {a b : Int} (q : Q (g a b) H) : rI0 g (.int a) (.int b) H Q := ⟨a, b, rfl, rfl, q⟩
theorem g_I {C : Int → Int → Prop} {g : Int → Int → V} {a b : Int} (hc : C a b) (q : Q (g a b) H) : rI C g (.int a) (.int b) H Q := ⟨a, b, rfl, rfl, hc, q⟩
theorem g_mod {a b : Int} (hb : 0 < b) (q : ∀ r, 0 ≤ r → r < b → Q (.int r) H) : rI (fun _ j => 0 < j) (fun i j => .int (i % j)) (.int a) (.int b) H Q :=
  ⟨a, b, rfl, rfl, hb, q _ (Int.emod_nonneg _ (by omega)) (Int.emod_lt_of_pos _ hb)⟩
theorem g_Imul {a b : Int} (hc : CMul a b) (q : Q (.int (a * b)) H) : rI CMul (fun i j => .int (i * j)) (.int a) (.int b) H Q := ⟨a, b, rfl, rfl, hc, q⟩
theorem g_Idiv {a b : Int} (hc : CDivW a b) (q : Q (.int (a / b)) H) : rI CDivW (fun i j => .int (i / j)) (.int a) (.int b) H Q := ⟨a, b, rfl, rfl, hc, q⟩
theorem g_Imod {a b : Int} (hc : 0 < b) (q : Q (.int (a % b)) H) : rI (fun _ j => 0 < j) (fun i j => .int (i % j)) (.int a) (.int b) H Q := ⟨a, b, rfl, rfl, hc, q⟩
theorem g_pow3 {a b : Int} (hc : CPow a b) (q : Q (.int (a ^ b.toNat)) H) : rI CPow (fun i j => .int (i ^ j.toNat)) (.int a) (.int b) H Q := ⟨a, b, rfl, rfl, hc, q⟩
theorem g_un {r : V → Hp → VK → Prop} (q : ta σ H fun x H1 => r x H1 Q) : tUn r ta σ H Q := q
theorem g_U {g : Int → V} {a : Int} (q : Q (g a) H) : rU g (.int a) H Q := ⟨a, rfl, q⟩
theorem g_eq (h : scal x y = true) (q : Q (.bl (decide (x = y))) H) : rEq x y H Q := ⟨h, q⟩
theorem g_ne (h : scal x y = true) (q : Q (.bl (!decide (x = y))) H) : rNe x y H Q := ⟨h, q⟩
theorem g_exbl {b : Bool} {P : Bool → Prop} (h : P b) : ∃ k, V.bl b = V.bl k ∧ P k := ⟨b, rfl, h⟩
theorem g_test {Q : Bool → Hp → Prop} (q : te σ H fun x H1 => ∃ k, x = .bl k ∧ Q k H1) : tTest te σ H Q := q
theorem g_B {Q : Bool → Hp → Prop} (q : te σ H fun x H1 => ∃ k, x = .bl k ∧ Q k H1) : tB te σ H Q := q
theorem g_not {Q : Bool → Hp → Prop} (q : tt σ H fun c H1 => Q (!c) H1) : tNot tt σ H Q := q
theorem g_and {Q : Bool → Hp → Prop} (q : tt σ H fun c H1 => if c = true then tu σ H1 Q else Q false H1) : tAnd tt tu σ H Q := q
theorem g_or {Q : Bool → Hp → Prop} (q : tt σ H fun c H1 => if c = true then Q true H1 else tu σ H1 Q) : tOr tt tu σ H Q := q
theorem g_andV (q : ta σ H fun x H1 => ∃ c, x = .bl c ∧ if c = true then tb σ H1 Q else Q (.bl false) H1) : tAndV ta tb σ H Q := q
theorem g_orV (q : ta σ H fun x H1 => ∃ c, x = .bl c ∧ if c = true then Q (.bl true) H1 else tb σ H1 Q) : tOrV ta tb σ H Q := q
theorem g_notV (q : ta σ H fun x H1 => ∃ c, x = .bl c ∧ Q (.bl (!c)) H1) : tNotV ta σ H Q := q
theorem g_ifE (q : tt σ H fun c H1 => if c = true then ta σ H1 Q else tb σ H1 Q) : tIf tt ta tb σ H Q := q
theorem g_isN (q : ta σ H fun x H1 => Q (.bl (decide (x = .non))) H1) : tIsN ta σ H Q := q
theorem g_cons {tr : TA} {Q : List V → Hp → Prop} (q : ta σ H fun x H1 => tr σ H1 fun xs H2 => Q (x :: xs) H2) : tCons ta tr σ H Q := q
theorem g_nil {Q : List V → Hp → Prop} (q : Q [] H) : tNil σ H Q := q
theorem g_CB {r : List V → Hp → VK → Prop} {tr : TA} (q : tr σ H fun vs H1 => r vs H1 Q) : tCB r tr σ H Q := q
theorem g_chain {r' : R2} (q : ta σ H fun x H1 => tb σ H1 fun y H2 => r x y H2 fun z H3 => ∃ k, z = .bl k ∧ (if k = true then tc σ H3 fun w' H4 => r' y w' H4 Q else Q (.bl false) H3)) : tChain r r' ta tb tc σ H Q := q
-- statements
theorem g_seq (q : t { D with nx := u D } σ H) : tSeq t u D σ H := q
theorem g_next (q : D.nx σ H) : tNext D σ H := q
theorem g_asg {g : TG} (q : te σ H fun x H1 => g x σ H1 D.nx) : tAsg te g D σ H := q
theorem g_name {Q : L2.St → Hp → Prop} (q : Q (σ.set i (some v)) H) : gName i v σ H Q := q
theorem g_sub {to ti : TE} {s : TSet} {Q : L2.St → Hp → Prop} (q : to σ H fun o H1 => ti σ H1 fun i H2 => s o i v H2 fun H3 => Q σ H3) : gSub to ti s v σ H Q := q
theorem g_drop (q : te σ H fun _ H1 => D.nx σ H1) : tDrop te D σ H := q
theorem g_ret (q : te σ H D.rt) : tRet te D σ H := q
theorem g_retN (q : D.rt .non H) : tRetN D σ H := q
theorem g_ifS (q : tt σ H fun b H1 => if b = true then t D σ H1 else u D σ H1) : tIfS tt t u D σ H := q
theorem g_par {ts : TA} (q : ts σ H fun vs H1 => ∃ v w, vs = [v, w] ∧ D.nx ((σ.set i (some v)).set j (some w)) H1) : tPar i j ts D σ H := q
theorem g_expar {v w : V} {P : V → V → Prop} (h : P v w) : ∃ a b, [v, w] = [a, b] ∧ P a b := ⟨v, w, rfl, h⟩
-- tests decided
theorem g_ite {c : Prop} [Decidable c] {A B : Prop} (h1 : c → A) (h2 : ¬ c → B) : if decide c = true then A else B := by
  by_cases h : c
  · rw [if_pos (decide_eq_true h)]
    exact h1 h
  · rw [if_neg (by rw [decide_eq_false h]; exact Bool.false_ne_true)]
    exact h2 h
theorem g_iteN {c : Prop} [Decidable c] {A B : Prop} (h1 : ¬ c → A) (h2 : c → B) : if (!decide c) = true then A else B := by
  by_cases h : c
  · rw [if_neg (by rw [decide_eq_true h]; exact Bool.false_ne_true)]
    exact h2 h
  · rw [if_pos (by rw [decide_eq_false h]; rfl)]
    exact h1 h
/-- an if whose two ways meet: what holds where they meet is said once -/
theorem g_iteJ {c : Prop} [Decidable c] {N Bk Ct : L2.St → Hp → Prop} {R : VK} (Mid : L2.St → Hp → Prop) (tail : ∀ σ' H', Mid σ' H' → N σ' H')
    (h1 : ∀ N' : L2.St → Hp → Prop, (∀ σ' H', Mid σ' H' → N' σ' H') → c → t ⟨N', R, Bk, Ct⟩ σ H) (h2 : ∀ N' : L2.St → Hp → Prop, (∀ σ' H', Mid σ' H' → N' σ' H') → ¬ c → u ⟨N', R, Bk, Ct⟩ σ H) :
    if decide c = true then t ⟨N, R, Bk, Ct⟩ σ H else u ⟨N, R, Bk, Ct⟩ σ H := g_ite (fun h => h1 N tail h) fun h => h2 N tail h
theorem g_iteNJ {c : Prop} [Decidable c] {N Bk Ct : L2.St → Hp → Prop} {R : VK} (Mid : L2.St → Hp → Prop) (tail : ∀ σ' H', Mid σ' H' → N σ' H')
    (h1 : ∀ N' : L2.St → Hp → Prop, (∀ σ' H', Mid σ' H' → N' σ' H') → ¬ c → t ⟨N', R, Bk, Ct⟩ σ H) (h2 : ∀ N' : L2.St → Hp → Prop, (∀ σ' H', Mid σ' H' → N' σ' H') → c → u ⟨N', R, Bk, Ct⟩ σ H) :
    if (!decide c) = true then t ⟨N, R, Bk, Ct⟩ σ H else u ⟨N, R, Bk, Ct⟩ σ H := g_iteN (fun h => h1 N tail h) fun h => h2 N tail h
theorem g_iteJB {b : Bool} {N Bk Ct : L2.St → Hp → Prop} {R : VK} (Mid : L2.St → Hp → Prop) (tail : ∀ σ' H', Mid σ' H' → N σ' H')
    (h1 : ∀ N' : L2.St → Hp → Prop, (∀ σ' H', Mid σ' H' → N' σ' H') → b = true → t ⟨N', R, Bk, Ct⟩ σ H) (h2 : ∀ N' : L2.St → Hp → Prop, (∀ σ' H', Mid σ' H' → N' σ' H') → b = false → u ⟨N', R, Bk, Ct⟩ σ H) :
    if b = true then t ⟨N, R, Bk, Ct⟩ σ H else u ⟨N, R, Bk, Ct⟩ σ H := by
  cases b with
  | true => rw [if_pos rfl]; exact h1 N tail rfl
  | false => rw [if_neg Bool.false_ne_true]; exact h2 N tail rfl
-- a subscript
theorem g_ixL {p : Addr} {xs : List V} {k : Int} (h : SqL K H p xs) (ha : atI xs k = some v) (q : Q v H) : rIxL K (.ref p) (.int k) H Q := ⟨p, xs, k, v, rfl, rfl, h, ha, q⟩
theorem g_setL {p : Addr} {xs : List V} {k : Int} {n : Nat} {Q : Hp → Prop} (h : H p = some (.lst xs)) (hn : ixN xs.length k = some n) (q : Q (upd H p (.lst (xs.set n v)))) : rSetL (.ref p) (.int k) v H Q := ⟨p, xs, k, n, rfl, rfl, h, hn, q⟩
theorem g_bits {to : TE} (q : to σ H fun x H1 => ∃ i, x = .int i ∧ Q (.int (Builtin.Int.intBits i : Nat)) H1) : tBits to σ H Q := q
theorem g_exint {a : Int} {P : Int → Prop} (h : P a) : ∃ i, V.int a = V.int i ∧ P i := ⟨a, rfl, h⟩
/-- a for's turns, the source known -/
def FW (g : TG) (tb : TS) (D : Ends) (J : It) (σ : L2.St) (H : Hp) : Prop := ∃ W : Nat → Nat → L2.St → Hp → Prop, (∃ m, W 0 m σ H) ∧ ∀ i m σ H, W i m σ H →
  (J.stop i H ∧ D.nx σ H) ∨ (J.go i H ∧ ∃ N : L2.St → Hp → Prop, (∀ σ' H', N σ' H' → ∃ m', m' < m ∧ W (i + 1) m' σ' H') ∧ ∀ x H', J.yld i H x H' → g x σ H' fun σ2 H2 => tb { D with nx := N, ct := N, bk := D.nx } σ2 H2)
theorem g_for {wi : TI} {g : TG} {tb : TS} (q : wi σ H fun J H1 => FW g tb D J σ H1) : tFor wi g tb D σ H := q
theorem g_iRng1 {ta : TA} {R : It → Hp → Prop} (q : ta σ H fun vs H1 => ∃ n : Int, vs = [.int n] ∧ -(2 ^ 62) ≤ n ∧ n < 2 ^ 62 ∧ R (Itr 0 n.toNat) H1) : iRng1 ta σ H R := q
theorem g_exR1 {n : Int} {R : Int → Prop} (h1 : -(2 ^ 62) ≤ n) (h2 : n < 2 ^ 62) (q : R n) : ∃ k : Int, [V.int n] = [V.int k] ∧ -(2 ^ 62) ≤ k ∧ k < 2 ^ 62 ∧ R k := ⟨n, rfl, h1, h2, q⟩
theorem g_iRng2 {ta : TA} {R : It → Hp → Prop} (q : ta σ H fun vs H1 => ∃ i j : Int, vs = [.int i, .int j] ∧ (-(2 ^ 62) ≤ i ∧ i < 2 ^ 62 ∧ -(2 ^ 62) ≤ j ∧ j < 2 ^ 62) ∧ R (Itr i (j - i).toNat) H1) : iRng2 ta σ H R := q
theorem g_exR2 {n m : Int} {R : Int → Int → Prop} (h : -(2 ^ 62) ≤ n ∧ n < 2 ^ 62 ∧ -(2 ^ 62) ≤ m ∧ m < 2 ^ 62) (q : R n m) : ∃ i j : Int, [V.int n, V.int m] = [V.int i, V.int j] ∧ (-(2 ^ 62) ≤ i ∧ i < 2 ^ 62 ∧ -(2 ^ 62) ≤ j ∧ j < 2 ^ 62) ∧ R i j := ⟨n, m, rfl, h, q⟩
theorem g_iList {tl : TE} {R : It → Hp → Prop} (q : tl σ H fun x H1 => ∃ a, x = .ref a ∧ (∃ xs, SqL K H1 a xs) ∧ R (Itl K a) H1) : iList K tl σ H R := q
theorem g_exL {a : Addr} {xs : List V} {R : Addr → Prop} (h : SqL K H a xs) (q : R a) : ∃ b, V.ref a = V.ref b ∧ (∃ xs, SqL K H b xs) ∧ R b := ⟨a, rfl, ⟨xs, h⟩, q⟩
theorem g_iTup {tl : TE} {R : It → Hp → Prop} (q : tl σ H fun x H1 => ∃ a, x = .ref a ∧ (∃ xs, SqT K H1 a xs) ∧ R (Itt K a) H1) : iTup K tl σ H R := q
theorem g_exT {a : Addr} {xs : List V} {R : Addr → Prop} (h : SqT K H a xs) (q : R a) : ∃ b, V.ref a = V.ref b ∧ (∃ xs, SqT K H b xs) ∧ R b := ⟨a, rfl, ⟨xs, h⟩, q⟩
theorem fw_range {lo : Int} {n : Nat} {g : TG} {tb : TS} (Pv : Nat → L2.St → Hp → Prop) (h0 : Pv 0 σ H)
    (hs : ∀ i σ H, i < n → Pv i σ H → g (.int (lo + (i : Int))) σ H fun σ2 H2 => tb { D with nx := Pv (i + 1), ct := Pv (i + 1), bk := D.nx } σ2 H2) (hd : ∀ σ H, Pv n σ H → D.nx σ H) : FW g tb D (Itr lo n) σ H := for_range Pv h0 hs hd
theorem fw_list {a : Addr} {xs : List V} {g : TG} {tb : TS} (Pv : Nat → L2.St → Hp → Prop) (h0 : Pv 0 σ H) (hl : ∀ i σ H, i ≤ xs.length → Pv i σ H → SqL K H a xs)
    (hs : ∀ i x σ H, xs[i]? = some x → Pv i σ H → g x σ H fun σ2 H2 => tb { D with nx := Pv (i + 1), ct := Pv (i + 1), bk := D.nx } σ2 H2) (hd : ∀ σ H, Pv xs.length σ H → D.nx σ H) : FW g tb D (Itl K a) σ H := for_list Pv h0 hl hs hd
theorem fw_tup {a : Addr} {xs : List V} {g : TG} {tb : TS} (Pv : Nat → L2.St → Hp → Prop) (h0 : Pv 0 σ H) (hl : ∀ i σ H, i ≤ xs.length → Pv i σ H → SqT K H a xs)
    (hs : ∀ i x σ H, xs[i]? = some x → Pv i σ H → g x σ H fun σ2 H2 => tb { D with nx := Pv (i + 1), ct := Pv (i + 1), bk := D.nx } σ2 H2) (hd : ∀ σ H, Pv xs.length σ H → D.nx σ H) : FW g tb D (Itt K a) σ H := for_tup Pv h0 hl hs hd
end
end Gx

namespace Gx
open PySem L2
/-- the built-in names that the text leaves alone -/
structure Bt (mg : Str → Option Value) : Prop where
  n_len : mg "len" = none
  n_abs : mg "abs" = none
  n_max : mg "max" = none
  n_min : mg "min" = none
  n_range : mg "range" = none
  n_sorted : mg "sorted" = none
  n_set : mg "set" = none
  n_list : mg "list" = none
  n_tuple : mg "tuple" = none
  n_dict : mg "dict" = none
  n_int : mg "int" = none
  n_str : mg "str" = none
  n_bool : mg "bool" = none
  n_all : mg "all" = none
  n_any : mg "any" = none
  n_sum : mg "sum" = none
  n_isinstance : mg "isinstance" = none
  n_repr : mg "repr" = none
  n_zip : mg "zip" = none
  n_enumerate : mg "enumerate" = none
/-- a def of the module, as it stands behind the top -/
structure Dn (K : PySem.W.Frag) (mg : Str → Option Value) (x : Str) (st : Stmt) (ps : List Str) (f : Addr) (fd : FuncData) : Prop where
  fn : Fun K x x st f fd
  mgf : mg x = some (.ref f)
  bd : Binds K fd ps []
section
variable {P : Program} {w : World} {K : PySem.W.Frag} {mg : Str → Option Value} {base : Heap}
theorem cal_of {x : Str} {st : Stmt} {ps : List Str} {f : Addr} {fd : FuncData} {k : Nat} {sp : Sp} (D : Dn K mg x st ps f fd) (F : FnOk P w K mg base CX0 k f fd ps sp) : C8.Cal P w K mg base k x sp [] :=
  ⟨f, fd, ps, [], F, D.mgf, D.fn.kp, D.bd, .nil⟩
end
/-! ### what a draw's def does to the list that it draws from -/
def spDip0 : Sp := fun vs H Q _ => ∃ (f : Addr) (x y z m : Int), vs = [.ref f, .int m] ∧ H f = some (three x y z) ∧ 0 ≤ x ∧ 0 < m ∧ m.natAbs < 2 ^ 1000 ∧
  ∀ r x' y' z' : Int, 0 ≤ r → r < m → 0 ≤ x' → Q (.int r) (upd H f (three x' y' z'))
/-- a number from 0 below m; all that was tracked stays -/
def spDip : Sp := fun vs H Q _ => ∃ (f : Addr) (m : Int), vs = [.ref f, .int m] ∧ H f = some (FlowO f) ∧ 0 < m ∧ m.natAbs < 2 ^ 1000 ∧
  ∀ (r : Int) (H' : Hp), 0 ≤ r → r < m → Same H H' → Q (.int r) H'
theorem dip_view {P : Program} {w : World} {K : PySem.W.Frag} {mg : Str → Option Value} {base : Heap} {k : Nat} {fa : Addr} {fd : FuncData} {ps : List Str} (F : FnOk P w K mg base CX0 k fa fd ps spDip0) : FnOk P w K mg base CX0 k fa fd ps spDip := by
  refine flow_view F fun vs H Q E h => ?_
  obtain ⟨f, m, rfl, hf, h0, hm, k⟩ := h
  refine ⟨f, hf, fun x y z hx => ⟨f, x, y, z, m, rfl, upd_same, hx, h0, hm, fun r x' y' z' h1 h2 h3 => ⟨⟨x', y', z', h3, upd_same⟩, k r _ h1 h2 fun b o e => ?_⟩⟩⟩
  by_cases hb : b = f
  · subst hb
    rw [hf] at e
    cases e
    exact upd_same
  · rw [upd_ne hb, upd_ne hb, upd_ne hb]
    exact e
/-- a def that makes such a list -/
theorem flow_made {P : Program} {w : World} {K : PySem.W.Frag} {mg : Str → Option Value} {base : Heap} {k : Nat} {fa : Addr} {fd : FuncData} {ps : List Str} {sp sp' : Sp} (F : FnOk P w K mg base CX0 k fa fd ps sp)
    (hs : ∀ vs H Q E, sp' vs H Q E → sp vs H (fun v H' => ∃ f x y z, v = .ref f ∧ 0 ≤ x ∧ H' f = some (three x y z) ∧ Q v (upd H' f (FlowO f))) E) : FnOk P w K mg base CX0 k fa fd ps sp' := by
  refine ⟨fun vs H Q E q => F.len _ _ _ _ (hs vs H Q E q), fun A outer s H args us vs Q E hr he hb hv q => ?_⟩
  refine codeAny_mono (F.run A outer s _ args us vs _ E hr he hb hv (hs vs H Q E q)) fun r s' hq => ?_
  cases r with
  | error e => exact hq.elim
  | ok fl =>
    cases fl with
    | ret u =>
      obtain ⟨v, H', os, bare, un, hok, rv, f, x, y, z, ev, hx, e', q'⟩ := hq
      have there : ∃ o, s'.heap.get? f = some o := by
        have q : ObjOk P w H' s'.heap f (three x y z) := hok f _ e'
        obtain ⟨_, its, n, r, e⟩ := q
        exact ⟨_, e⟩
      exact ⟨v, upd H' f (FlowO f), os, bare, un.trans (Un.write (by rw [e']; trivial) (Or.inl rfl) (fun _ _ _ q => q) there), flow_close hok e' hx, rv, q'⟩
    | next => exact hq.elim
    | brk => exact hq.elim
    | cont => exact hq.elim
end Gx

namespace Gx
open PySem L2
/-! ### heaps that keep what they had -/
theorem same_get {H H' : Hp} {a : Addr} {o : HO} (s : Same H H') (h : H a = some o) : H' a = some o := s a o h
theorem same_new {H : Hp} {p : Addr} {o : HO} (h : H p = none) : Same H (upd H p o) := fun a u e => by
  rw [upd_ne (ne_of_none e h)]
  exact e
theorem same_mut {H H' : Hp} {p : Addr} {o : HO} (s : Same H H') (h : H p = none) : Same H (upd H' p o) := fun a u ha => by
  rw [upd_ne (ne_of_none ha h)]
  exact s a u ha
theorem same_sq {K : PySem.W.Frag} {H H' : Hp} {a : Addr} {xs : List V} (e : Same H H') (h : SqL K H a xs) : SqL K H' a xs := e.seq h
theorem same_rd {H H' : Hp} {a : Addr} {u : HO} (e : Same H H') (h : Rd H a u) : Rd H' a u := by
  rcases h with h | ⟨o, h⟩
  · exact Or.inl (e a _ h)
  · exact Or.inr ⟨o, e a _ h⟩
theorem same_sqT {K : PySem.W.Frag} {H H' : Hp} {a : Addr} {xs : List V} (e : Same H H') (h : SqT K H a xs) : SqT K H' a xs := by
  rcases h with h | h
  · exact Or.inl (same_rd e h)
  · exact Or.inr h
theorem same_free {H H' : Hp} {p : Addr} (e : Same H H') (h : H' p = none) : H p = none := e.free h
theorem big_le {n : Nat} (h : n ≤ 100000) : n ≤ sizeLine := Nat.le_trans h (by decide)
theorem big_lt {n : Nat} (h : n < 100000) : n < sizeLine := Nat.lt_of_lt_of_le h (by decide)
section
variable {σ : L2.St} {H H0 : Hp} {Q : VK} {K : PySem.W.Frag} {v x y : V} {E : XK}
/-! ### displays -/
def MkL (xs : List V) (H : Hp) (Q : VK) : Prop := xs.length ≤ sizeLine ∧ ∀ p, H p = none → Q (.ref p) (upd H p (.lst xs))
def MkT (xs : List V) (H : Hp) (Q : VK) : Prop := xs.length ≤ sizeLine ∧ ∀ p, H p = none → Q (.ref p) (upd H p (.tup xs))
theorem g_lst {ts : TA} (q : ts σ H fun xs H1 => MkL xs H1 Q) : tLst ts σ H Q := q
theorem g_tup {ts : TA} (q : ts σ H fun xs H1 => MkT xs H1 Q) : tTup ts σ H Q := q
theorem g_mkL {xs : List V} (hl : xs.length ≤ 100000) (k : ∀ p H', H p = none → Same H H' → H' p = some (.lst xs) → Q (.ref p) H') : MkL xs H Q :=
  ⟨big_le hl, fun p hp => k p _ hp (same_new hp) upd_same⟩
theorem g_mkT {xs : List V} (hl : xs.length ≤ 100000) (k : ∀ p H', H p = none → Same H H' → H' p = some (.tup xs) → Q (.ref p) H') : MkT xs H Q :=
  ⟨big_le hl, fun p hp => k p _ hp (same_new hp) upd_same⟩
/-! ### an item of a written list at a drawn place: what all of them have -/
theorem atI_in {xs : List V} {i : Int} (h0 : 0 ≤ i) (h1 : i < xs.length) : ∃ v, atI xs i = some v ∧ v ∈ xs := by
  have hj : i.toNat < xs.length := by omega
  refine ⟨xs[i.toNat], ?_, List.getElem_mem hj⟩
  have e : ((i.toNat : Nat) : Int) = i := by omega
  have z := atI_nat (List.getElem?_eq_getElem hj)
  rw [e] at z
  exact z
theorem g_ixP {p : Addr} {xs : List V} {i : Int} (P : V → Prop) (h : H p = some (.lst xs)) (h0 : 0 ≤ i) (h1 : i < xs.length) (all : ∀ x ∈ xs, P x) (q : ∀ v, P v → Q v H) : rIxL K (.ref p) (.int i) H Q := by
  obtain ⟨v, e, m⟩ := atI_in h0 h1
  exact ⟨p, xs, i, v, rfl, rfl, SqL.of h, e, q v (all v m)⟩
/-- .. of ints -/
theorem g_ixI {p : Addr} {xs : List V} {i : Int} (P : Int → Prop) (h : H p = some (.lst xs)) (h0 : 0 ≤ i) (h1 : i < xs.length) (all : ∀ x ∈ xs, ∃ n, x = .int n ∧ P n) (q : ∀ n, P n → Q (.int n) H) : rIxL K (.ref p) (.int i) H Q :=
  g_ixP _ h h0 h1 all fun v ⟨n, e, pn⟩ => by subst e; exact q n pn
theorem all_nil {P : V → Prop} : ∀ x ∈ ([] : List V), P x := fun _ h => nomatch h
theorem all_cons {P : V → Prop} {x : V} {xs : List V} (h : P x) (r : ∀ y ∈ xs, P y) : ∀ y ∈ x :: xs, P y := fun y hy => by
  rcases List.mem_cons.mp hy with rfl | hy
  · exact h
  · exact r y hy
/-- an int of a list of ints, at any place of it -/
theorem g_ixN {p : Addr} {ns : List Int} {i : Int} (h : SqL K H p (ns.map V.int)) (h0 : 0 ≤ i) (h1 : i < ns.length) (q : ∀ n, n ∈ ns → ns[i.toNat]? = some n → Q (.int n) H) : rIxL K (.ref p) (.int i) H Q := by
  have hj : i.toNat < ns.length := by omega
  have e : ((i.toNat : Nat) : Int) = i := by omega
  have z : (ns.map V.int)[i.toNat]? = some (.int ns[i.toNat]) := by rw [List.getElem?_map, List.getElem?_eq_getElem hj] <;> rfl
  have z2 := atI_nat z
  rw [e] at z2
  exact ⟨p, _, i, _, rfl, rfl, h, z2, q _ (List.getElem_mem hj) (List.getElem?_eq_getElem hj)⟩
/-! ### append, and calls of built-ins -/
theorem g_BM {T : String} {r : V → List V → Hp → VK → Prop} {to : TE} {t : TA} (q : to σ H fun x H1 => tyV K T x H1 ∧ t σ H1 fun xs H2 => r x xs H2 Q) : tBM K T r to t σ H Q := q
theorem g_BM0 {T : String} {r : V → List V → Hp → VK → Prop} {to : TE} (q : to σ H fun x H1 => tyV K T x H1 ∧ r x [] H1 Q) : tBM0 K T r to σ H Q := q
theorem ty_list {p : Addr} {xs : List V} (h : H p = some (.lst xs)) : tyV K "list" (.ref p) H := Or.inl ⟨rfl, xs, SqL.of h⟩
theorem g_tyL {p : Addr} {xs : List V} {P : Prop} (h : H p = some (.lst xs)) (q : P) : tyV K "list" (.ref p) H ∧ P := ⟨ty_list h, q⟩
theorem g_app {p : Addr} {xs : List V} (s : Same H0 H) (n : H0 p = none) (h : H p = some (.lst xs)) (hl : xs.length < 100000) (k : ∀ H', Same H0 H' → H' p = some (.lst (xs ++ [y])) → Q .non H') : rAppend (.ref p) [y] H Q :=
  ⟨p, xs, y, rfl, rfl, h, big_lt hl, k _ (same_mut s n) upd_same⟩
def rLenQ (K : PySem.W.Frag) : List V → Hp → VK → Prop := fun xs H Q => ∃ p ys, xs = [.ref p] ∧ (SqL K H p ys ∨ SqT K H p ys) ∧ Q (.int ys.length) H
def rAbsQ : List V → Hp → VK → Prop := fun xs H Q => ∃ i, xs = [.int i] ∧ Q (.int (if i < 0 then -i else i)) H
def rMaxQ : List V → Hp → VK → Prop := fun xs H Q => ∃ i j, xs = [.int i, .int j] ∧ Q (.int (if j > i then j else i)) H
def rMinQ : List V → Hp → VK → Prop := fun xs H Q => ∃ i j, xs = [.int i, .int j] ∧ Q (.int (if j < i then j else i)) H
def rIntQ : List V → Hp → VK → Prop := fun xs H Q => (∃ i, xs = [.int i] ∧ Q (.int i) H) ∨ ∃ k, xs = [.bl k] ∧ Q (.int (if k then 1 else 0)) H
def rListQ (K : PySem.W.Frag) : List V → Hp → VK → Prop := fun xs H Q => ∃ p ys, xs = [.ref p] ∧ (SqL K H p ys ∨ SqT K H p ys) ∧ ∀ l, H l = none → Q (.ref l) (upd H l (.lst ys))
theorem cr_lenQ {X : Cx} : CallR X (.builtin "len") (rLenQ X.K) := call_len_seq
theorem cr_absQ {X : Cx} : CallR X (.builtin "abs") rAbsQ := call_abs
theorem cr_maxQ {X : Cx} (hc : X.calm = true) : CallR X (.builtin "max") rMaxQ := call_max2 hc
theorem cr_minQ {X : Cx} (hc : X.calm = true) : CallR X (.builtin "min") rMinQ := call_min2 hc
theorem cr_intQ {X : Cx} : CallR X (.type "int") rIntQ := call_int1
theorem cr_listQ {X : Cx} : CallR X (.type "list") (rListQ X.K) := call_list_of
theorem g_len {p : Addr} {xs : List V} (h : SqL K H p xs) (q : Q (.int (xs.length : Int)) H) : rLenQ K [V.ref p] H Q := ⟨p, xs, rfl, .inl h, q⟩
theorem g_lenT {p : Addr} {xs : List V} (h : SqT K H p xs) (q : Q (.int (xs.length : Int)) H) : rLenQ K [V.ref p] H Q := ⟨p, xs, rfl, .inr h, q⟩
theorem g_min2 {a b : Int} (q : ∀ c, c ≤ a → c ≤ b → (c = a ∨ c = b) → Q (.int c) H) : rMinQ [V.int a, V.int b] H Q :=
  ⟨a, b, rfl, by split <;> exact q _ (by omega) (by omega) (by omega)⟩
theorem g_max2 {a b : Int} (q : ∀ c, a ≤ c → b ≤ c → (c = a ∨ c = b) → Q (.int c) H) : rMaxQ [V.int a, V.int b] H Q :=
  ⟨a, b, rfl, by split <;> exact q _ (by omega) (by omega) (by omega)⟩
theorem g_abs {a : Int} (q : ∀ c, 0 ≤ c → (c = a ∨ c = -a) → Q (.int c) H) : rAbsQ [V.int a] H Q :=
  ⟨a, rfl, by split <;> exact q _ (by omega) (by omega)⟩
theorem g_intB {b : Bool} (q : Q (.int (if b = true then 1 else 0)) H) : rIntQ [V.bl b] H Q := .inr ⟨b, rfl, q⟩
theorem g_listof {p : Addr} {xs : List V} (h : SqL K H p xs) (k : ∀ l H', H l = none → Same H H' → H' l = some (.lst xs) → Q (.ref l) H') : rListQ K [V.ref p] H Q :=
  ⟨p, xs, rfl, .inl h, fun l hl => k l _ hl (same_new hl) upd_same⟩
theorem bt_len : bootBuiltins "len" = some (.builtin "len") := by decide +kernel
theorem bt_abs : bootBuiltins "abs" = some (.builtin "abs") := by decide +kernel
theorem bt_max : bootBuiltins "max" = some (.builtin "max") := by decide +kernel
theorem bt_min : bootBuiltins "min" = some (.builtin "min") := by decide +kernel
theorem bt_sorted : bootBuiltins "sorted" = some (.builtin "sorted") := by decide +kernel
theorem bt_all : bootBuiltins "all" = some (.builtin "all") := by decide +kernel
theorem bt_any : bootBuiltins "any" = some (.builtin "any") := by decide +kernel
theorem bt_sum : bootBuiltins "sum" = some (.builtin "sum") := by decide +kernel
theorem bt_repr : bootBuiltins "repr" = some (.builtin "repr") := by decide +kernel
theorem bt_isinstance : bootBuiltins "isinstance" = some (.builtin "isinstance") := by decide +kernel
theorem bt_int : bootBuiltins "int" = some (.type "int") := by decide +kernel
theorem bt_bool : bootBuiltins "bool" = some (.type "bool") := by decide +kernel
theorem bt_str : bootBuiltins "str" = some (.type "str") := by decide +kernel
theorem bt_list : bootBuiltins "list" = some (.type "list") := by decide +kernel
theorem bt_tuple : bootBuiltins "tuple" = some (.type "tuple") := by decide +kernel
theorem bt_dict : bootBuiltins "dict" = some (.type "dict") := by decide +kernel
theorem bt_set : bootBuiltins "set" = some (.type "set") := by decide +kernel
/-! ### a power, written out -/
theorem g_pow {a b c : Int} (hc : CPow a b) (e : a ^ b.toNat = c) (q : Q (.int c) H) : rI CPow (fun i j => .int (i ^ j.toNat)) (.int a) (.int b) H Q := ⟨a, b, rfl, rfl, hc, by show Q (.int (a ^ b.toNat)) H; rw [e]; exact q⟩
/-! ### calls of defs -/
theorem g_call {sp : Sp} {dvs : List V} {t : TA} (q : t σ H fun vs H1 => sp (vs ++ dvs) H1 Q E) : tCall sp dvs E t σ H Q := q
theorem g_dip {f : Addr} {m : Int} (hf : H f = some (FlowO f)) (hm : 0 < m) (hb : m.natAbs < 2 ^ 1000) (k : ∀ r H', 0 ≤ r → r < m → Same H H' → Q (.int r) H') : spDip ([V.ref f, V.int m] ++ []) H Q E :=
  ⟨f, m, rfl, hf, hm, hb, fun r H' h0 h1 s => k r H' h0 h1 s⟩
end
/-- below ten thousand million .. (a hundred signs) a number has fewer than a thousand bits -/
theorem small_bits {m : Int} (h : -10000000000000000000000000000000000000000000000000000000000000000000000000000000 ≤ m) (h2 : m ≤ 10000000000000000000000000000000000000000000000000000000000000000000000000000000) : m.natAbs < 2 ^ 1000 := by
  have e : (10000000000000000000000000000000000000000000000000000000000000000000000000000000 : Nat) < 2 ^ 1000 := by decide
  exact Nat.lt_of_le_of_lt (show m.natAbs ≤ 10000000000000000000000000000000000000000000000000000000000000000000000000000000 by omega) e
end Gx

/-! Defs that call repr: they run where no repr is under way (guards), so their promise is kept there -/
namespace Gx
open PySem L2 PySem.Spec PyProof.Rows
structure FnG (P : Program) (w : World) (K : PySem.W.Frag) (mg : Str → Option Value) (base : Heap) (k : Nat) (f : Addr) (fd : FuncData) (ps : List Str) (sp : Sp) : Prop where
  size : ∀ vs H Q E, sp vs H Q E → vs.length = ps.length
  goes : ∀ (A : Around) (outer : List Env) (s : Shared) (H : Hp) (args : Args) (us : List Value) (vs : List V) (Q : VK) (E : XK), A.guards = some [] → Room k A → Env0 P w K mg base A outer s H →
    BindsTo s fd args (ps.zip us) → Vals vs us → sp vs H Q E → codeAny (model P w) A (.call (.ref f) args) (CR CX0 outer P w H s Q E) s
section
variable {P : Program} {w : World} {K : PySem.W.Frag} {mg : Str → Option Value} {base : Heap}
/-- such a def, by its body -/
theorem fnG_of {x qual : Str} {st : Stmt} {f : Addr} {fd : FuncData} {N ps : List Str} {k : Nat} {sp : Sp} (F : Fun K x qual st f fd) (S : FnScope N ps (defScope st)) (size : ∀ vs H Q E, sp vs H Q E → vs.length = ps.length)
    (body : ∀ (cdv : Value) (A : Around) (outer : List Env) (s : Shared) (H : Hp) (vs : List V) (Q : VK) (E : XK), A.guards = some [] → Room k (A.deeper (envOfC qual (defScope st) s.heap.objs.size f cdv)) → sp vs H Q E →
      ∃ t, PSs (cxOf CX0 P w K mg base N qual (defScope st) f cdv A outer s H E).nox (defBody st) t ∧ t { nx := fun _ H' => Q .non H', rt := Q } (start N vs) H) : FnG P w K mg base (k + 1) f fd ps sp := by
  obtain ⟨oc, od, kV, doc, pm, an, cdv, ct, osl, rfl, at_f, code⟩ := F.ex
  refine ⟨size, fun A outer s H args us vs Q E gd room e0 bnd rel hsp => ?_⟩
  have inK : K.In s.heap := e0.mod.kin.keeps fun b o e => (e0.bs b o e).1
  have named : ∀ y ∈ ps.zip us, (defScope st).names.lookup y.1 = some .local ∨ ((defScope st).names.lookup y.1 = some .cell ∧ ((cellsFrom (s.heap.objs.size + 1) (defScope st).names []).lookup y.1).isSome = true) := fun y hy =>
    (S.par y.1 (List.of_mem_zip hy).1).imp id fun q => ⟨q, PySem.W.cellsFrom_some _ _ _ (.inl q)⟩
  refine codeAny_call_function room.depth (inK _ _ at_f) rfl S.co S.gen rfl (PySem.W.codeRec_of inK code) (bnd _ _ _ _ (wpAny_newFunctionEnv_cells S.kind named fun env eqn s1 inc => ?_))
  subst eqn
  refine ⟨(e0.mod.nolimit.keeps fun b o e => (e0.bs b o e).1).keeps inc.toInCall.keep, codeAny_func ?_⟩
  obtain ⟨t, der, rd⟩ := body cdv A outer s H vs Q E gd (room.deeper _) hsp
  have I1 := inv_start (CX := CX0) (E := E) S room.hd e0 (size _ _ _ _ hsp) rel inc
  refine wpAny_mono (der.nox.run [] s1 (start N vs) H _ I1 rd) (fun fl s2 done => ?_) fun _ _ z => z
  cases fl with
  | ret u => obtain ⟨v, σ2, H2, J, rv, q⟩ := done; exact ⟨v, H2, J.os, J.bare, J.base, J.hok, rv, q⟩
  | next => obtain ⟨σ2, H2, J, q⟩ := done; exact ⟨V.non, H2, J.os, J.bare, J.base, J.hok, rfl, q⟩
  | brk => obtain ⟨_, _, _, no⟩ := done; exact no.elim
  | cont => obtain ⟨_, _, _, no⟩ := done; exact no.elim
/-- .. by its name -/
structure CalG (P : Program) (w : World) (K : PySem.W.Frag) (mg : Str → Option Value) (base : Heap) (k : Nat) (x : Str) (sp : Sp) : Prop where
  at_ : ∃ (f : Addr) (fd : FuncData) (ps : List Str), FnG P w K mg base k f fd ps sp ∧ mg x = some (.ref f) ∧ PySem.W.keepIn K (.ref f) = true ∧ Binds K fd ps []
theorem calG_of {x : Str} {st : Stmt} {ps : List Str} {f : Addr} {fd : FuncData} {k : Nat} {sp : Sp} (D : Dn K mg x st ps f fd) (F : FnG P w K mg base k f fd ps sp) : CalG P w K mg base k x sp :=
  ⟨f, fd, ps, F, D.mgf, D.fn.kp, D.bd⟩
end
section
variable {X : Cx} {k j : Nat} {x : Str} {sp : Sp} {e : Expr} {es : List Expr} {t : TA} {p pos : Pos}
theorem pe_cG (c : CalG X.prog X.w X.K X.mg X.base k x sp) (gd : X.A.guards = some []) (hr : Room j X.A) (hk : k ≤ j) (hg : Gl X x) (ha : PA X (e :: es) t)
    (hdb : (x == ("__debug__" : Str)) = false := by decide) (he : starEach (e :: es) X.env = (false, eval e X.env) :: starEach es X.env := by rfl) (hpl : (backTo pos (starEach es X.env)).any (·.1) = false := by rfl) :
    PE X (.Call (.Name x p) (e :: es) [] pos) (tCall sp [] (fun _ _ _ => False) t) := by
  obtain ⟨f, fd, ps, F, named, kept, bnd⟩ := c.at_
  refine ⟨fun pins s σ H Q I h => wpAny_Call_Name_kw (ld_glob I hg named ?_ hdb)⟩
  refine PySem.W.callWith_K (h₀ := X.base) I.ok.mod.kin kept (thn (ha.run pos pins s σ H _ I h) fun us s1 got => ?_) he hpl
  obtain ⟨vs, H1, I1, rel, q⟩ := got
  rw [List.append_nil] at q
  refine ⟨I1.kIn, wpAny_call (codeAny_mono (F.goes X.A X.stack s1 H1 ⟨us, []⟩ us vs Q _ gd (hr.mono hk) I1.env0 ?_ rel q) fun r s2 done => ?_)⟩
  · have b := bnd s1 us I1.kIn (by rw [List.append_nil, ← rel.length]; exact F.size _ _ _ _ q)
    rw [List.append_nil] at b
    exact b
  · cases r with
    | error er => exact done.elim
    | ok fl =>
      cases fl with
      | ret u => exact I1.after done
      | next => exact done.elim
      | brk => exact done.elim
      | cont => exact done.elim
/-- repr of data at any depth -/
def rReprQ (K : PySem.W.Frag) : List V → Hp → VK → Prop := fun xs H Q => ∃ a d, xs = [V.ref a] ∧ Dp K H (.ref a) d ∧ SeqAt.shaped d = true ∧ d.showable = true ∧ d.shown.length ≤ sizeLine ∧ Q (.str d.shown) H
theorem cr_repr (gd : X.A.guards = some []) (hr : Room j X.A) : CallR X (.builtin "repr") (rReprQ X.K) := by
  intro pins s σ H xs us Q I rel h
  obtain ⟨a, d, rfl, dp, sh, sw, sz, q⟩ := h
  cases rel with
  | cons r1 r2 =>
    cases r2
    obtain rfl := r1
    obtain ⟨as, rd⟩ := Dp.reads I d _ _ dp rfl
    have u := hr.units
    have dd := SeqAt.depth_of_shaped sh
    refine repr_of_reads' rd sw (PyData.noDict_hsm (PyData.hasDict_of_canLay d (SeqAt.canLay_of_shaped sh))) gd (by have := hr.un; omega) (fun _ _ z => z) (fun h' u tk kept => ?_) sz
    exact ⟨.str d.shown, H, I.kept kept, ⟨u, rfl⟩, q⟩
end
/-! ### the law's own call -/
section
theorem law_callG {P : Program} {w : World} {K : PySem.W.Frag} {mg mb : Str → Option Value} {k : Nat} {fa a : Addr} {fd : FuncData} {x : Str} {sp : Sp} {s1 : Shared} {vs : List Value} {ns : List Int}
    (inK : K.In s1.heap) (gn : s1.heap.Ns mainGlobals mg) (bn : s1.heap.Ns builtinsNs mb) (bb : ∀ x : Str, x ≠ "__name__" → mb x = bootBuiltins x) (lim : s1.heap.NoLimit) (gens : s1.gens = #[])
    (la : s1.heap.get? a = some { cls := .type "list", data := .seq vs.toArray }) (li : IntsAre vs ns) (ll : ns.length ≤ sizeLine) (room : Room k callerA)
    (F : ∀ base : Heap, K.In base → base.Ns mainGlobals mg → FnG P w K mg base k fa fd [x] sp) (bnd : ∀ (s : Shared) (u : Value), BindsTo s fd ⟨[u], []⟩ [(x, u)])
    (goal : ∀ H : Hp, SqL K H a (ns.map V.int) → sp [.ref a] H (fun v _ => v = .bl true) fun _ _ _ => False) :
    codeAny (model P w) callerA (.call (.ref fa) ⟨[.ref a], []⟩) (fun r s' => r = .ok (.ret (.bool true)) ∧ OldK s1.heap s'.heap ∧ s'.os = s1.os ∧ AllBare s'.gens) s1 := by
  have rel := vals_ints li
  have key : ∀ H : Hp, Only H → SqL K H a (ns.map V.int) → HOk P w H s1.heap → (∀ b u, H b = some u → b = a ∧ K.lookup a = none) →
      codeAny (model P w) callerA (.call (.ref fa) ⟨[.ref a], []⟩) (fun r s' => r = .ok (.ret (.bool true)) ∧ OldK s1.heap s'.heap ∧ s'.os = s1.os ∧ AllBare s'.gens) s1 := by
    intro H only sq hok at_a
    have nd : ∀ {b : Addr} {o : Obj} {es : Array DictEntry} {ep : Nat}, s1.heap.get? b = some o → o.data = .dict es ep → H b = none := fun {b o es ep} e d => by
      cases q : H b with
      | none => rfl
      | some u =>
        obtain ⟨rfl, _⟩ := at_a b u q
        rw [la] at e
        obtain rfl := Option.some.inj e
        exact (show False by cases (show Data.seq vs.toArray _ = Data.dict es ep from d)).elim
    have hid : ∀ {b : Addr} {m : Str → Option Value}, s1.heap.Ns b m → (hidT s1.heap H).Ns b m := fun {b m} ⟨o, es, ep, e, d, r⟩ => ⟨o, es, ep, hidT_get e (nd e d), d, r⟩
    have inB : K.In (hidT s1.heap H) := fun b o e => hidT_get (inK b o e) (by
      cases q : H b with
      | none => rfl
      | some u =>
        obtain ⟨rfl, no⟩ := at_a b u q
        rw [no] at e
        cases e)
    have md : Mod K mg (hidT s1.heap H) := ⟨inB, hid gn, ⟨mb, hid bn, bb⟩, (by obtain ⟨mc, h1, h2⟩ := lim; exact ⟨mc, hid h1, h2⟩)⟩
    have st : Env0 P w K mg (hidT s1.heap H) callerA [] s1 H := ⟨rfl, md, fun b o e => of_hidT e, Nat.le_of_eq (hidT_size _ _), trivial, (fun b hb => nomatch hb), hok, .of_eq gens⟩
    refine codeAny_mono ((F _ inB (hid gn)).goes callerA [] s1 H ⟨[.ref a], []⟩ [.ref a] [.ref a] _ _ rfl room st (bnd s1 (.ref a)) (.cons rfl .nil) (goal H sq)) fun r s2 done => ?_
    cases r with
    | error e => exact done.elim
    | ok fl =>
      cases fl with
      | next => exact done.elim
      | brk => exact done.elim
      | cont => exact done.elim
      | ret u =>
        obtain ⟨v, H2, os, bare, un, hok2, rv, q⟩ := done
        obtain rfl : v = .bl true := q
        obtain rfl : u = Value.bool true := rv
        refine ⟨rfl, OldK.of_keep fun b o e => ?_, os, bare⟩
        cases q : H b with
        | none => exact un.keep b o e q (fun z => nomatch z) (fun z => nomatch z)
        | some u =>
          rcases only b with z | ⟨ob, xs, z⟩
          · exact absurd (q.symm.trans z) (by simp)
          · have e1 := (hok b _ z).1
            have e2 := (hok2 b _ (un.frzs b ob _ z)).1
            obtain rfl := Option.some.inj (e.symm.trans e1)
            exact e2
  cases hk : K.lookup a with
  | some o =>
    have e := (inK a o hk).symm.trans la
    obtain rfl := Option.some.inj e
    exact key (fun _ => none) (fun _ => .inl rfl) (.inr ⟨_, vs.toArray, _, hk, rfl, rfl, rfl, by rw [List.size_toArray, li.length]; exact ll, by simpa using rel⟩) (fun b u z => by cases (show (none : Option HO) = some u from z)) fun b u z => by cases (show (none : Option HO) = some u from z)
  | none =>
    have one : ∀ (b : Addr) (u : HO), (if b = a then some (HO.frz { cls := .type "list", data := .seq vs.toArray } (.lst (ns.map V.int))) else none) = some u → b = a ∧ u = HO.frz { cls := .type "list", data := .seq vs.toArray } (.lst (ns.map V.int)) := fun b u z => by
      split at z
      · exact ⟨by assumption, (Option.some.inj z).symm⟩
      · cases z
    refine key (fun b => if b = a then some (.frz { cls := .type "list", data := .seq vs.toArray } (.lst (ns.map V.int))) else none) (fun b => ?_) (.inl (.inr ⟨{ cls := .type "list", data := .seq vs.toArray }, if_pos rfl⟩)) (fun b u z => ?_) fun b u z => ⟨(one b u z).1, hk⟩
    · by_cases hb : b = a
      · exact .inr ⟨_, _, if_pos hb⟩
      · exact .inl (if_neg hb)
    · obtain ⟨rfl, rfl⟩ := one b u z
      exact ⟨la, by rw [List.length_map]; exact ll, vs, _, rel, la⟩
theorem walkG {l : PySem.W.OpenLaw} {n k : Nat} {q : Program} {loose : List Str} {XP : (Str → Option Value) → Heap → Prop} {YP : World → Heap → Prop} {d : DefRec} {K : Params → PySem.W.Frag} {sp : PySem.W.Frag → Sp} {x : Str}
    (hn : l.most = some n) (hn2 : n ≤ sizeLine) (hdf : d.params.defaults = []) (hr : Room k callerA) (hY : ∀ (w : World) (h : Heap), YP w h → (K w.params).In h)
    (F : ∀ (w : World) (mg : Str → Option Value) (fa : Addr) (h : Heap), (K w.params).In h → h.Ns mainGlobals mg → mg d.name = some (.ref fa) →
      ∃ fd : FuncData, (∀ (s : Shared) (u : Value), BindsTo s fd ⟨[u], []⟩ [(x, u)]) ∧ ∀ base : Heap, (K w.params).In base → base.Ns mainGlobals mg → FnG l.prog w (K w.params) mg base k fa fd [x] (sp (K w.params)))
    (hsp : ∀ (K : PySem.W.Frag) (H : Hp) (a : Addr) (ns : List Int), ns.length ≤ n → SqL K H a (ns.map V.int) → sp K [.ref a] H (fun v _ => v = .bl true) fun _ _ _ => False) :
    PySem.W.WalkO q loose XP YP l.row.toRowW d [] (fun f vs => PySem.call f vs) := by
  refine Att.attach_call hn hdf fun w s₀ s1 mg mb fa o pm cd doc a vs ns G Y ho hd hcd named hobj hints few hg => ?_
  have inK := hY w _ Y
  obtain ⟨fd, bnd, mk⟩ := F w mg fa _ inK G.T.g named
  exact law_callG inK G.T.g G.T.b G.T.builtins G.T.nolimit hg hobj hints (Nat.le_trans few hn2) hr mk bnd fun H sq => hsp (K w.params) H a ns few sq
end
end Gx

set_option exponentiation.threshold 5000
/-! Data: what two of them have in common, how long their texts are -/
namespace Gx
open PySem L2
mutual
/-- no truth value, no dict -/
def bare : PyData → Bool
  | .none | .int _ | .str _ => true
  | .bool _ | .dict _ => false
  | .list xs | .tuple xs => bareAll xs
def bareAll : List PyData → Bool
  | [] => true
  | x :: xs => bare x && bareAll xs
end
theorem bareAll_iff : ∀ {xs : List PyData}, bareAll xs = true ↔ ∀ x ∈ xs, bare x = true
  | [] => by simp [bareAll]
  | x :: xs => by simp [bareAll, bareAll_iff (xs := xs)]
mutual
theorem eqv_is : ∀ d e : PyData, bare d = true → bare e = true → (PyData.eqv d e = true ↔ d = e)
  | .none, .none, _, _ => by simp [PyData.eqv]
  | .none, .int _, _, _ => by simp [PyData.eqv]
  | .none, .str _, _, _ => by simp [PyData.eqv]
  | .none, .list _, _, _ => by simp [PyData.eqv]
  | .none, .tuple _, _, _ => by simp [PyData.eqv]
  | .int _, .none, _, _ => by simp [PyData.eqv]
  | .int i, .int j, _, _ => by simp [PyData.eqv]
  | .int _, .str _, _, _ => by simp [PyData.eqv]
  | .int _, .list _, _, _ => by simp [PyData.eqv]
  | .int _, .tuple _, _, _ => by simp [PyData.eqv]
  | .str _, .none, _, _ => by simp [PyData.eqv]
  | .str _, .int _, _, _ => by simp [PyData.eqv]
  | .str x, .str y, _, _ => by simp [PyData.eqv]
  | .str _, .list _, _, _ => by simp [PyData.eqv]
  | .str _, .tuple _, _, _ => by simp [PyData.eqv]
  | .list _, .none, _, _ => by simp [PyData.eqv]
  | .list _, .int _, _, _ => by simp [PyData.eqv]
  | .list _, .str _, _, _ => by simp [PyData.eqv]
  | .list xs, .list ys, h1, h2 => by
    simp only [PyData.eqv, PyData.list.injEq]
    exact eqv_isAll xs ys (by simpa [bare] using h1) (by simpa [bare] using h2)
  | .list _, .tuple _, _, _ => by simp [PyData.eqv]
  | .tuple _, .none, _, _ => by simp [PyData.eqv]
  | .tuple _, .int _, _, _ => by simp [PyData.eqv]
  | .tuple _, .str _, _, _ => by simp [PyData.eqv]
  | .tuple _, .list _, _, _ => by simp [PyData.eqv]
  | .tuple xs, .tuple ys, h1, h2 => by
    simp only [PyData.eqv, PyData.tuple.injEq]
    exact eqv_isAll xs ys (by simpa [bare] using h1) (by simpa [bare] using h2)
  | .bool _, _, h, _ => by simp [bare] at h
  | .dict _, _, h, _ => by simp [bare] at h
  | _, .bool _, _, h => by simp [bare] at h
  | _, .dict _, _, h => by simp [bare] at h
theorem eqv_isAll : ∀ xs ys : List PyData, bareAll xs = true → bareAll ys = true → (PyData.eqvAll xs ys = true ↔ xs = ys)
  | [], [], _, _ => by simp [PyData.eqvAll]
  | [], _ :: _, _, _ => by simp [PyData.eqvAll]
  | _ :: _, [], _, _ => by simp [PyData.eqvAll]
  | x :: xs, y :: ys, h1, h2 => by
    simp only [bareAll, Bool.and_eq_true] at h1 h2
    simp only [PyData.eqvAll, Bool.and_eq_true, eqv_is x y h1.1 h2.1, eqv_isAll xs ys h1.2 h2.2, List.cons.injEq]
end
theorem eqv_yes {d e : PyData} (h1 : bare d = true) (h2 : bare e = true) (h : d = e) : PyData.eqv d e = true := (eqv_is d e h1 h2).mpr h
theorem eqv_no {d e : PyData} (h1 : bare d = true) (h2 : bare e = true) (h : ¬ d = e) : PyData.eqv d e = false := by
  cases q : PyData.eqv d e with
  | false => rfl
  | true => exact absurd ((eqv_is d e h1 h2).mp q) h
/-! ### small data -/
mutual
/-- ints of at most eighty digits, short texts, lists and tuples of such -/
def small : PyData → Bool
  | .none | .bool _ => true
  | .int i => decide (-100000000000000000000000000000000000000000000000000000000000000000000000000000000 ≤ i) && decide (i ≤ 100000000000000000000000000000000000000000000000000000000000000000000000000000000)
  | .str x => decide ((PySem.reprText x).length ≤ 100) && PyData.strOk x
  | .list xs | .tuple xs => smallAll xs
  | .dict _ => false
def smallAll : List PyData → Bool
  | [] => true
  | x :: xs => small x && smallAll xs
end
theorem smallAll_iff : ∀ {xs : List PyData}, smallAll xs = true ↔ ∀ x ∈ xs, small x = true
  | [] => by simp [smallAll]
  | x :: xs => by simp [smallAll, smallAll_iff (xs := xs)]
theorem log_of {i : Int} (h : (decide (-100000000000000000000000000000000000000000000000000000000000000000000000000000000 ≤ i) && decide (i ≤ 100000000000000000000000000000000000000000000000000000000000000000000000000000000)) = true) : i.natAbs.log2 < 1920 := by
  simp only [Bool.and_eq_true, decide_eq_true_eq] at h
  have b : i.natAbs < 2 ^ 1000 := by
    have e : (100000000000000000000000000000000000000000000000000000000000000000000000000000000 : Nat) < 2 ^ 1000 := by decide
    omega
  exact Nat.lt_of_lt_of_le (PySem.Flt.log2_lt_of (by decide : 0 < 1000) b) (by decide)
mutual
theorem small_show : ∀ d : PyData, small d = true → d.showable = true
  | .none, _ => by simp only [PyData.showable]
  | .bool _, _ => by simp only [PyData.showable]
  | .str _, _ => by simp only [PyData.showable]
  | .int i, h => by
    simp only [small] at h
    simp only [PyData.showable, decide_eq_true_eq]
    exact log_of h
  | .list xs, h => by
    simp only [small] at h
    simp only [PyData.showable]
    exact small_showAll xs h
  | .tuple xs, h => by
    simp only [small] at h
    simp only [PyData.showable]
    exact small_showAll xs h
  | .dict _, h => by simp [small] at h
theorem small_showAll : ∀ xs : List PyData, smallAll xs = true → PyData.showableAll xs = true
  | [], _ => by simp only [PyData.showableAll]
  | x :: xs, h => by
    simp only [smallAll, Bool.and_eq_true] at h
    simp only [PyData.showableAll, small_show x h.1, small_showAll xs h.2, Bool.and_self]
end
mutual
theorem small_lay : ∀ d : PyData, small d = true → d.canLay0 = true
  | .none, _ => by simp only [PyData.canLay0]
  | .bool _, _ => by simp only [PyData.canLay0]
  | .str _, h => by
    simp only [small, Bool.and_eq_true] at h
    simp only [PyData.canLay0]
    exact h.2
  | .int i, h => by simp only [PyData.canLay0]
  | .list xs, h => by
    simp only [small] at h
    simp only [PyData.canLay0]
    exact small_layAll xs h
  | .tuple xs, h => by
    simp only [small] at h
    simp only [PyData.canLay0]
    exact small_layAll xs h
  | .dict _, h => by simp [small] at h
theorem small_layAll : ∀ xs : List PyData, smallAll xs = true → PyData.canLayAll0 xs = true
  | [], _ => by simp only [PyData.canLayAll0]
  | x :: xs, h => by
    simp only [smallAll, Bool.and_eq_true] at h
    simp only [PyData.canLayAll0, small_lay x h.1, small_layAll xs h.2, Bool.and_self]
end
/-! ### the length of a text -/
mutual
def cnt : PyData → Nat
  | .none | .bool _ | .int _ | .str _ | .dict _ => 1
  | .list xs | .tuple xs => cntAll xs + 1
def cntAll : List PyData → Nat
  | [] => 0
  | x :: xs => cnt x + cntAll xs
end
theorem listText_le (ts : List Str) : (listText ts).length ≤ piled ts + 2 := by
  cases ts with
  | nil => exact (by decide : (listText []).length ≤ 0 + 2)
  | cons t r =>
    have h := textFrom_length_pos r 1 (("[" : Str) ++ (if (0 : Nat) > 0 then ", " else "" : String) ++ t) (Nat.succ_pos 0)
    have e : ((("[" : Str) ++ (if (0 : Nat) > 0 then ", " else "" : String) ++ t)).length = 1 + t.length := by
      rw [strLen_append, strLen_append]
      rfl
    have z : (listText (t :: r)).length = (textFrom 1 (("[" : Str) ++ (if (0 : Nat) > 0 then ", " else "" : String) ++ t) r).length + 1 := by
      show ((textFrom 1 (("[" : Str) ++ (if (0 : Nat) > 0 then ", " else "" : String) ++ t) r) ++ "]").length = _
      rw [strLen_append]
      rfl
    rw [z, h, e, piled_cons]
    omega
theorem tupleText_le (ts : List Str) : (tupleText ts).length ≤ piled ts + 3 := by
  unfold tupleText
  rw [strLen_append, strLen_append]
  have e1 : ((("(" : String) : Str)).length = 1 := rfl
  have e3 : (((if ts.length == 1 then ",)" else ")" : String) : Str)).length ≤ 2 := by split <;> decide
  have e2 : (Str.join ", " ts).length ≤ piled ts := by
    by_cases h : ts = []
    · subst h
      exact (by decide : (Str.join ", " []).length ≤ 0)
    · have := join_length_add ts h
      omega
  omega
theorem int_len {i : Int} (h : (decide (-100000000000000000000000000000000000000000000000000000000000000000000000000000000 ≤ i) && decide (i ≤ 100000000000000000000000000000000000000000000000000000000000000000000000000000000)) = true) : (Str.ofString (toString i)).length ≤ 82 := by
  simp only [Bool.and_eq_true, decide_eq_true_eq] at h
  have b : i.natAbs < 10 ^ 81 := by
    have e : (100000000000000000000000000000000000000000000000000000000000000000000000000000000 : Nat) < 10 ^ 81 := by decide
    omega
  have q := int_text_length_le10 (a := i) (k := 81) (by decide) b
  rw [ofString_length]
  exact q
mutual
theorem shown_le : ∀ d : PyData, small d = true → d.shown.length + 6 ≤ 130 * cnt d
  | .none, _ => by
    simp only [PyData.shown, cnt]
    exact (by decide : (("None" : String) : Str).length + 6 ≤ 130 * 1)
  | .bool b, _ => by
    simp only [PyData.shown, cnt]
    cases b <;> decide
  | .str x, h => by
    simp only [small, Bool.and_eq_true, decide_eq_true_eq] at h
    simp only [PyData.shown, cnt]
    have := h.1
    omega
  | .int i, h => by
    simp only [small] at h
    have := int_len h
    simp only [PyData.shown, cnt]
    show (Str.ofString (toString i)).length + 6 ≤ 130 * 1
    omega
  | .list xs, h => by
    simp only [small] at h
    have q := shown_leAll xs h
    have z := listText_le (PyData.shownAll xs)
    simp only [PyData.shown, cnt]
    omega
  | .tuple xs, h => by
    simp only [small] at h
    have q := shown_leAll xs h
    have z := tupleText_le (PyData.shownAll xs)
    simp only [PyData.shown, cnt]
    omega
  | .dict _, h => by simp [small] at h
theorem shown_leAll : ∀ xs : List PyData, smallAll xs = true → piled (PyData.shownAll xs) ≤ 130 * cntAll xs
  | [], _ => by simp [PyData.shownAll, cntAll, piled]
  | x :: xs, h => by
    simp only [smallAll, Bool.and_eq_true] at h
    have a := shown_le x h.1
    have b := shown_leAll xs h.2
    simp only [PyData.shownAll, cntAll, piled_cons]
    omega
end
theorem cntAll_le {c : Nat} : ∀ {xs : List PyData}, (∀ x ∈ xs, cnt x ≤ c) → cntAll xs ≤ c * xs.length
  | [], _ => by simp [cntAll]
  | x :: xs, h => by
    have a := h x List.mem_cons_self
    have b := cntAll_le (xs := xs) fun y hy => h y (List.mem_cons_of_mem _ hy)
    simp only [cntAll, List.length_cons, Nat.mul_succ]
    omega
theorem depthAll_le {c : Nat} : ∀ {xs : List PyData}, (∀ x ∈ xs, x.depth ≤ c) → PyData.depthAll xs ≤ c
  | [], _ => by simp [PyData.depthAll]
  | x :: xs, h => by
    have a := h x List.mem_cons_self
    have b := depthAll_le (xs := xs) fun y hy => h y (List.mem_cons_of_mem _ hy)
    simp only [PyData.depthAll]
    omega
/-- small, nested at most n deep, of at most m parts -/
structure Fine (n m : Nat) (d : PyData) : Prop where
  sm : small d = true
  dp : d.depth ≤ n
  ct : cnt d ≤ m
theorem Fine.shaped {n m : Nat} {d : PyData} (h : Fine n m d) (hn : n ≤ 64) : SeqAt.shaped d = true := by
  unfold SeqAt.shaped
  rw [small_lay d h.sm, decide_eq_true (Nat.le_trans h.dp hn)]
  rfl
theorem Fine.text {n m : Nat} {d : PyData} (h : Fine n m d) (hm : m ≤ 100000) : d.shown.length ≤ sizeLine := by
  have a := shown_le d h.sm
  have b := h.ct
  rw [sizeLine_eq]
  omega
theorem fine_none {n : Nat} : Fine n 1 .none := ⟨by simp [small], by simp [PyData.depth], by simp [cnt]⟩
theorem fine_bool {n : Nat} (b : Bool) : Fine n 1 (.bool b) := ⟨by simp [small], by simp [PyData.depth], by simp [cnt]⟩
theorem fine_int {n : Nat} {i : Int} (h1 : -100000000000000000000000000000000000000000000000000000000000000000000000000000000 ≤ i) (h2 : i ≤ 100000000000000000000000000000000000000000000000000000000000000000000000000000000) : Fine n 1 (.int i) :=
  ⟨by simp [small, h1, h2], by simp [PyData.depth], by simp [cnt]⟩
theorem fine_str {n : Nat} {x : Str} (h1 : (PySem.reprText x).length ≤ 100) (h2 : PyData.strOk x = true) : Fine n 1 (.str x) := ⟨by simp [small, h1, h2], by simp [PyData.depth], by simp [cnt]⟩
theorem fine_list {n m : Nat} {xs : List PyData} (h : ∀ x ∈ xs, Fine n m x) : Fine (n + 1) (m * xs.length + 1) (.list xs) :=
  ⟨by simp only [small]; exact smallAll_iff.mpr fun x hx => (h x hx).sm, by simp only [PyData.depth]; have := depthAll_le fun x hx => (h x hx).dp; omega, by simp only [cnt]; have := cntAll_le fun x hx => (h x hx).ct; omega⟩
theorem fine_tuple {n m : Nat} {xs : List PyData} (h : ∀ x ∈ xs, Fine n m x) : Fine (n + 1) (m * xs.length + 1) (.tuple xs) :=
  ⟨by simp only [small]; exact smallAll_iff.mpr fun x hx => (h x hx).sm, by simp only [PyData.depth]; have := depthAll_le fun x hx => (h x hx).dp; omega, by simp only [cnt]; have := cntAll_le fun x hx => (h x hx).ct; omega⟩
theorem Fine.mono {n m n' m' : Nat} {d : PyData} (h : Fine n m d) (hn : n ≤ n') (hm : m ≤ m') : Fine n' m' d := ⟨h.sm, Nat.le_trans h.dp hn, Nat.le_trans h.ct hm⟩
/-! ### data in a heap that keeps what it had -/
section
variable {K : PySem.W.Frag} {H H' : Hp}
mutual
theorem dp_same (s : Same H H') : ∀ (d : PyData) (v : V), Dp K H v d → Dp K H' v d
  | .none, _, h => by cases h; exact .non
  | .bool b, _, h => by cases h; exact .bl b
  | .int i, _, h => by cases h; exact .int i
  | .str x, _, h => by cases h; exact .str x
  | .list ds, _, h => by
    cases h with
    | lst a b => exact .lst (same_sq s a) (dp_sameAll s ds _ b)
  | .tuple ds, _, h => by
    cases h with
    | tup a b => exact .tup (same_sqT s a) (dp_sameAll s ds _ b)
  | .dict _, _, h => by cases h
theorem dp_sameAll (s : Same H H') : ∀ (ds : List PyData) (vs : List V), DpAll K H vs ds → DpAll K H' vs ds
  | [], _, h => by cases h; exact .nil
  | d :: ds, _, h => by
    cases h with
    | cons a b => exact .cons (dp_same s d _ a) (dp_sameAll s ds _ b)
end
theorem dpAll_ints : ∀ (ns : List Int), DpAll K H (ns.map V.int) (ns.map PyData.int)
  | [] => .nil
  | n :: ns => .cons (.int n) (dpAll_ints ns)
theorem dpAll_len : ∀ {vs : List V} {ds : List PyData}, DpAll K H vs ds → vs.length = ds.length
  | _, _, .nil => rfl
  | _, _, .cons _ r => congrArg (· + 1) (dpAll_len r)
theorem dpAll_append : ∀ {vs ws : List V} {ds es : List PyData}, DpAll K H vs ds → DpAll K H ws es → DpAll K H (vs ++ ws) (ds ++ es)
  | _, _, _, _, .nil, s => s
  | _, _, _, _, .cons a r, s => .cons a (dpAll_append r s)
theorem dpAll_get : ∀ {vs : List V} {ds : List PyData} {i : Nat} {v : V}, DpAll K H vs ds → vs[i]? = some v → ∃ d, ds[i]? = some d ∧ Dp K H v d
  | _, _, _, _, .nil, e => by simp at e
  | _, _, 0, _, .cons a _, e => by
    simp at e
    subst e
    exact ⟨_, rfl, a⟩
  | _, _, i + 1, _, .cons _ r, e => by
    obtain ⟨d, h1, h2⟩ := dpAll_get (i := i) r (by simpa using e)
    exact ⟨d, by simpa using h1, h2⟩
variable {Q : VK} {x y : V} {d e : PyData}
theorem g_eqD (h1 : Dp K H x d) (h2 : Dp K H y e) (s1 : SeqAt.shaped d = true) (s2 : SeqAt.shaped e = true) (q : Q (.bl (PyData.eqv d e)) H) : rEqD K x y H Q := ⟨d, e, h1, h2, s1, s2, q⟩
theorem g_neD (h1 : Dp K H x d) (h2 : Dp K H y e) (s1 : SeqAt.shaped d = true) (s2 : SeqAt.shaped e = true) (q : Q (.bl (!PyData.eqv d e)) H) : rNeD K x y H Q := ⟨d, e, h1, h2, s1, s2, q⟩
theorem g_repr {a : Addr} {n m : Nat} (h : Dp K H (.ref a) d) (f : Fine n m d) (hn : n ≤ 64) (hm : m ≤ 100000) (q : Q (.str d.shown) H) : rReprQ K [V.ref a] H Q := ⟨a, d, rfl, h, f.shaped hn, small_show d f.sm, f.text hm, q⟩
/-- == of a list of ints with the empty list -/
theorem shaped_ints (ns : List Int) : SeqAt.shaped (.list (ns.map PyData.int)) = true := by
  unfold SeqAt.shaped
  have h1 : PyData.canLayAll0 (ns.map PyData.int) = true := by
    induction ns with
    | nil => simp [PyData.canLayAll0]
    | cons n ns ih => simp [PyData.canLayAll0, PyData.canLay0, ih]
  have h2 : PyData.depthAll (ns.map PyData.int) ≤ 0 := depthAll_le fun x hx => by
    obtain ⟨n, _, rfl⟩ := List.mem_map.mp hx
    simp [PyData.depth]
  have h3 : PyData.depthAll (ns.map PyData.int) + 1 ≤ 64 := by omega
  simp [PyData.canLay0, PyData.depth, h1, h3]
theorem bare_ints (ns : List Int) : bare (.list (ns.map PyData.int)) = true := by
  simp only [bare]
  exact bareAll_iff.mpr fun x hx => by
    obtain ⟨n, _, rfl⟩ := List.mem_map.mp hx
    simp [bare]
theorem dp_ints {p : Addr} {ns : List Int} (h : SqL K H p (ns.map V.int)) : Dp K H (.ref p) (.list (ns.map PyData.int)) := .lst h (dpAll_ints ns)
theorem ints_inj {ns ms : List Int} : PyData.list (ns.map PyData.int) = PyData.list (ms.map PyData.int) ↔ ns = ms := by
  constructor
  · intro h
    injection h with h
    induction ns generalizing ms with
    | nil => cases ms with
      | nil => rfl
      | cons m ms => simp at h
    | cons n ns ih => cases ms with
      | nil => simp at h
      | cons m ms =>
        simp only [List.map_cons, List.cons.injEq, PyData.int.injEq] at h
        rw [h.1, ih h.2]
  · intro h
    rw [h]
theorem g_eqI {p q : Addr} {ns ms : List Int} (h1 : SqL K H p (ns.map V.int)) (h2 : SqL K H q (ms.map V.int)) (k : Q (.bl (decide (ns = ms))) H) : rEqD K (.ref p) (.ref q) H Q := by
  refine g_eqD (dp_ints h1) (dp_ints h2) (shaped_ints _) (shaped_ints _) ?_
  have e : PyData.eqv (.list (ns.map PyData.int)) (.list (ms.map PyData.int)) = decide (ns = ms) := by
    by_cases h : ns = ms
    · rw [decide_eq_true h, eqv_yes (bare_ints _) (bare_ints _) (by rw [h])]
    · rw [decide_eq_false h, eqv_no (bare_ints _) (bare_ints _) (fun z => h (ints_inj.mp z))]
  rw [e]
  exact k
end
end Gx

/-! Comprehensions: what the new list is, by a word of the turn and what is made so far -/
namespace Gx
open PySem L2
/-- the turns of a comprehension, its source known -/
def LC (g : TG) (tt : TT) (te : TE) (vs : List Nat) (J : It) (σ : L2.St) (H1 : Hp) (Q : VK) : Prop := ∀ D, H1 D = none → ∃ W : Nat → Nat → Hp → Prop, (∃ m, W 0 m (upd H1 D (.lst []))) ∧ ∀ i m H, W i m H →
  (J.stop i H ∧ Q (.ref D) H) ∨ (J.go i H ∧ ∃ Nx : Hp → Prop, (∀ H', Nx H' → ∃ m', m' < m ∧ W (i + 1) m' H') ∧ ∀ x H', J.yld i H x H' → g x (wipe σ vs) H' fun σ2 H2 => wipe σ2 vs = wipe σ vs ∧ tt σ2 H2 fun b H3 =>
    if b = true then te σ2 H3 fun y H4 => ∃ acc, H4 D = some (.lst acc) ∧ acc.length < sizeLine ∧ Nx (upd H4 D (.lst (acc ++ [y]))) else Nx H3)
/-- a source of n items -/
def Src (J : It) (H1 : Hp) (n : Nat) (item : Nat → V → Hp → Prop) : Prop := ∀ i H, Same H1 H → (i < n → J.go i H ∧ ∀ x H', J.yld i H x H' → Same H H' ∧ item i x H') ∧ (n ≤ i → J.stop i H)
/-- all but one address stay -/
def But (D : Addr) (H H' : Hp) : Prop := ∀ a o, a ≠ D → H a = some o → H' a = some o
section
variable {σ : L2.St} {H H1 : Hp} {Q : VK} {K : PySem.W.Frag} {te tl : TE} {tt : TT} {g : TG} {vs : List Nat} {J : It} {n j : Nat}
theorem g_lc {wi : TI} (q : wi σ H fun J H1 => LC g tt te vs J σ H1 Q) : tLc wi g tt te vs σ H Q := q
theorem src_list {a : Addr} {xs : List V} (h : SqL K H1 a xs) : Src (Itl K a) H1 xs.length (fun i x _ => xs[i]? = some x) := fun i H s => by
  have hh := same_sq s h
  refine ⟨fun hi => ⟨⟨xs, xs[i], hh, List.getElem?_eq_getElem hi⟩, fun x H' y => ?_⟩, fun hi => ⟨xs, hh, hi⟩⟩
  obtain ⟨rfl, q⟩ := y
  exact ⟨Same.refl _, q xs hh⟩
theorem src_tup {a : Addr} {xs : List V} (h : SqT K H1 a xs) : Src (Itt K a) H1 xs.length (fun i x _ => xs[i]? = some x) := fun i H s => by
  have hh := same_sqT s h
  refine ⟨fun hi => ⟨⟨xs, xs[i], hh, List.getElem?_eq_getElem hi⟩, fun x H' y => ?_⟩, fun hi => ⟨xs, hh, hi⟩⟩
  obtain ⟨rfl, q⟩ := y
  exact ⟨Same.refl _, q xs hh⟩
theorem src_rng {lo : Int} : Src (Itr lo n) H1 n (fun i x _ => x = .int (lo + i)) := fun i H s =>
  ⟨fun hi => ⟨hi, fun x H' y => by obtain ⟨rfl, q⟩ := y; exact ⟨Same.refl _, q⟩⟩, fun hi => hi⟩
theorem src_zip {a b : Addr} {xs ys : List V} (ha : SqL K H1 a xs) (hb : SqL K H1 b ys) : Src (Itz K a b) H1 (min xs.length ys.length) (fun i v H => ∃ T x y, v = .ref T ∧ H T = some (.tup [x, y]) ∧ xs[i]? = some x ∧ ys[i]? = some y) := fun i H s => by
  have h1 := same_sq s ha
  have h2 := same_sq s hb
  refine ⟨fun hi => ⟨⟨xs, ys, xs[i]'(by omega), ys[i]'(by omega), h1, h2, List.getElem?_eq_getElem _, List.getElem?_eq_getElem _⟩, fun v H' q => ?_⟩, fun hi => ⟨xs, ys, h1, h2, by omega⟩⟩
  obtain ⟨T, x, y, rfl, hT, rfl, qx, qy⟩ := q
  exact ⟨same_new hT, T, x, y, rfl, upd_same, qx xs h1, qy ys h2⟩
/-- THE RULE: A is true of the turn and of what is made so far -/
theorem lc_src {item : Nat → V → Hp → Prop} (src : Src J H1 n item) (hn : n ≤ 100000) (A : Nat → List V → Hp → Prop)
    (mono : ∀ i acc l D H H', H D = some (.lst l) → H1 D = none → Same H1 H → But D H H' → A i acc H → A i acc H') (A0 : ∀ H, Same H1 H → A 0 [] H)
    (turn : ∀ i x acc H' (Nx : V → Hp → Prop) (No : Hp → Prop), i < n → Same H1 H' → item i x H' → A i acc H' → acc.length ≤ i → (∀ y H4, Same H' H4 → A (i + 1) (acc ++ [y]) H4 → Nx y H4) → (∀ H4, Same H' H4 → A (i + 1) acc H4 → No H4) →
      g x (wipe σ vs) H' fun σ2 H2 => wipe σ2 vs = wipe σ vs ∧ tt σ2 H2 fun b H3 => if b = true then te σ2 H3 Nx else No H3)
    (done : ∀ D acc H', H1 D = none → Same H1 H' → H' D = some (.lst acc) → A n acc H' → acc.length ≤ n → Q (.ref D) H') : LC g tt te vs J σ H1 Q := by
  intro D hD
  refine ⟨fun i m H => m = n - i ∧ i ≤ n ∧ ∃ acc, Same H1 H ∧ H D = some (.lst acc) ∧ A i acc H ∧ acc.length ≤ i, ⟨n, rfl, Nat.zero_le _, [], same_new hD, upd_same, A0 _ (same_new hD), Nat.le_refl _⟩, ?_⟩
  rintro i m H ⟨rfl, hi, acc, s, e, a, hl⟩
  rcases Nat.lt_or_ge i n with lt | ge
  · right
    obtain ⟨go, yl⟩ := (src i H s).1 lt
    refine ⟨go, fun H' => i + 1 ≤ n ∧ ∃ acc, Same H1 H' ∧ H' D = some (.lst acc) ∧ A (i + 1) acc H' ∧ acc.length ≤ i + 1, fun H' ⟨l1, q⟩ => ⟨n - (i + 1), by omega, rfl, l1, q⟩, fun x H' y => ?_⟩
    obtain ⟨s2, it⟩ := yl x H' y
    have s12 := s.trans s2
    refine turn i x acc H' _ _ lt s12 it (mono i acc acc D H H' e hD s (fun b o _ z => s2 b o z) a) hl (fun y H4 s4 a4 => ?_) (fun H4 s4 a4 => ?_)
    · have e4 := s4 _ _ (s2 _ _ e)
      have s14 := s12.trans s4
      refine ⟨acc, e4, big_lt (by omega), lt, acc ++ [y], same_mut s14 hD, upd_same, mono (i + 1) (acc ++ [y]) acc D H4 _ e4 hD s14 (fun b o nb z => by rw [upd_ne nb]; exact z) a4, by rw [List.length_append]; exact Nat.succ_le_succ hl⟩
    · exact ⟨lt, acc, s12.trans s4, s4 _ _ (s2 _ _ e), a4, Nat.le_succ_of_le hl⟩
  · left
    have e0 : i = n := Nat.le_antisymm hi ge
    subst e0
    exact ⟨(src i H s).2 ge, done D acc H hD s e a hl⟩
/-- no test; each item makes a value that is what P says -/
theorem lc_map {item : Nat → V → Hp → Prop} (src : Src J H1 n item) (hn : n ≤ 100000) (P : Nat → V → Prop)
    (turn : ∀ i x H' (Nx : V → Hp → Prop), i < n → Same H1 H' → item i x H' → (∀ y H4, Same H' H4 → P i y → Nx y H4) → g x (wipe σ vs) H' fun σ2 H2 => wipe σ2 vs = wipe σ vs ∧ te σ2 H2 Nx)
    (done : ∀ D acc H', H1 D = none → Same H1 H' → H' D = some (.lst acc) → acc.length = n → (∀ (i : Nat) y, acc[i]? = some y → P i y) → Q (.ref D) H') : LC g tYes te vs J σ H1 Q := by
  refine lc_src src hn (fun i acc _ => acc.length = i ∧ ∀ (k : Nat) y, acc[k]? = some y → P k y) (fun _ _ _ _ _ _ _ _ _ _ a => a) (fun _ _ => ⟨rfl, fun k y z => by simp at z⟩) (fun i x acc H' Nx No lt s it a hl k1 k2 => ?_) fun D acc H' h1 s e a _ => done D acc H' h1 s e a.1 a.2
  have q := turn i x H' Nx lt s it fun y H4 s4 p => k1 y H4 s4 ⟨by rw [List.length_append, a.1]; rfl, fun k z hz => ?_⟩
  · exact q
  · rcases Nat.lt_or_ge k acc.length with h | h
    · rw [List.getElem?_append_left h] at hz
      exact a.2 k z hz
    · rw [List.getElem?_append_right h] at hz
      have e0 : k - acc.length = 0 := by
        rcases Nat.eq_zero_or_pos (k - acc.length) with z0 | z0
        · exact z0
        · rw [List.getElem?_eq_none (by simp; omega)] at hz
          cases hz
      rw [e0] at hz
      simp only [List.getElem?_cons_zero, Option.some.injEq] at hz
      subst hz
      have : k = i := by have := a.1; omega
      rw [this]
      exact p
/-- items of a list, a test that each one answers, a value that each one makes -/
theorem lc_filter {item : Nat → V → Hp → Prop} {xs : List V} (src : Src J H1 xs.length item) (hx : ∀ i x H, item i x H → xs[i]? = some x) (hn : xs.length ≤ 100000) (c : V → Bool) (f : V → V)
    (turn : ∀ (i : Nat) x H' (Nx : V → Hp → Prop) (No : Hp → Prop), xs[i]? = some x → Same H1 H' → (∀ H4, Same H' H4 → c x = true → Nx (f x) H4) → (∀ H4, Same H' H4 → c x = false → No H4) →
      g x (wipe σ vs) H' fun σ2 H2 => wipe σ2 vs = wipe σ vs ∧ tt σ2 H2 fun b H3 => if b = true then te σ2 H3 Nx else No H3)
    (done : ∀ D H', H1 D = none → Same H1 H' → H' D = some (.lst ((xs.filter c).map f)) → Q (.ref D) H') : LC g tt te vs J σ H1 Q := by
  refine lc_src src hn (fun i acc _ => acc = ((xs.take i).filter c).map f) (fun _ _ _ _ _ _ _ _ _ _ a => a) (fun _ _ => rfl) (fun i x acc H' Nx No lt s it a hl k1 k2 => ?_) fun D acc H' h1 s e a _ => done D H' h1 s (by rw [e, a, List.take_length])
  have ex := hx i x H' it
  have tk : xs.take (i + 1) = xs.take i ++ [x] := by
    rw [List.take_succ, ex]
    rfl
  refine turn i x H' Nx No ex s (fun H4 s4 h => k1 _ H4 s4 ?_) (fun H4 s4 h => k2 H4 s4 ?_)
  · rw [tk, List.filter_append, List.map_append, a]
    simp [h]
  · rw [tk, List.filter_append, List.map_append, a]
    simp [h]
theorem g_yes {Q : Bool → Hp → Prop} (q : Q true H) : tYes σ H Q := q
theorem g_iZip {ta : TA} {R : It → Hp → Prop} (q : ta σ H fun vs H1 => ∃ a b xs ys, vs = [.ref a, .ref b] ∧ SqL K H1 a xs ∧ SqL K H1 b ys ∧ R (Itz K a b) H1) : iZip K ta σ H R := q
theorem g_exZ {a b : Addr} {xs ys : List V} {R : Addr → Addr → Prop} (h1 : SqL K H a xs) (h2 : SqL K H b ys) (q : R a b) : ∃ p q xs ys, [V.ref a, V.ref b] = [.ref p, .ref q] ∧ SqL K H p xs ∧ SqL K H q ys ∧ R p q := ⟨a, b, xs, ys, rfl, h1, h2, q⟩
theorem g_gtup {k : Nat} {t : TGs} {a : Addr} {xs : List V} {Q : L2.St → Hp → Prop} (h : SqT K H a xs) (hl : xs.length = k) (q : t xs σ H Q) : gTup K k t (.ref a) σ H Q := ⟨a, xs, rfl, h, hl, q⟩
theorem g_gcons {t : TG} {u : TGs} {v : V} {r : List V} {Q : L2.St → Hp → Prop} (q : t v σ H fun σ' H' => u r σ' H' Q) : gCons t u (v :: r) σ H Q := ⟨v, r, rfl, q⟩
theorem g_gnil {Q : L2.St → Hp → Prop} (q : Q σ H) : gNil [] σ H Q := ⟨rfl, q⟩
theorem g_all {a : Addr} {bs : List Bool} (h : SqL K H a (bs.map V.bl)) (q : Q (.bl (bs.all id)) H) : rAll K [V.ref a] H Q := ⟨a, bs, rfl, h, q⟩
theorem g_any {a : Addr} {bs : List Bool} (h : SqL K H a (bs.map V.bl)) (q : Q (.bl (bs.any id)) H) : rAny K [V.ref a] H Q := ⟨a, bs, rfl, h, q⟩
theorem g_slL {a : Addr} {xs : List V} {lo hi : Option Int} (h : SqL K H a xs) (k : ∀ p H', H p = none → Same H H' → H' p = some (.lst (cutV xs lo hi)) → Q (.ref p) H') : rSlL K (.ref a) lo hi H Q := ⟨a, xs, rfl, h, fun p hp => k p _ hp (same_new hp) upd_same⟩
theorem g_sl {r : V → Option Int → Option Int → Hp → VK → Prop} {tl th : TO} (q : te σ H fun x H1 => tl σ H1 fun l H2 => th σ H2 fun u H3 => r x l u H3 Q) : tSl r te tl th σ H Q := q
theorem g_noP {Q : Option Int → Hp → Prop} (q : Q none H) : tNoPart σ H Q := q
theorem g_part {Q : Option Int → Hp → Prop} (q : te σ H fun x H1 => ∃ i, x = .int i ∧ Q (some i) H1) : tPart te σ H Q := q
/-- all of a list of truths that are all true -/
theorem trues {acc : List V} (h : ∀ (i : Nat) y, acc[i]? = some y → y = V.bl true) : acc = (List.replicate acc.length true).map V.bl := by
  apply List.ext_getElem?
  intro i
  rw [List.getElem?_map, List.getElem?_replicate]
  split
  · rename_i lt
    rw [List.getElem?_eq_getElem lt]
    exact congrArg some (h i _ (List.getElem?_eq_getElem lt))
  · rename_i ge
    rw [List.getElem?_eq_none (by omega)]
    rfl
theorem all_trues (n : Nat) : (List.replicate n true).all id = true := by
  induction n with
  | zero => rfl
  | succ n ih => simp
end
end Gx

/-! Objects: attributes, methods (also with keywords alone), makes, isinstance -/
namespace Gx
open PySem L2 PySem.Spec PyProof.Rows
section
variable {σ : L2.St} {H H1 : Hp} {Q : VK} {K : PySem.W.Frag} {te tl ta : TE} {D : Ends} {x v : V} {a C dx : Addr} {fs : List (Str × V)} {f m : Str} {sp : Sp} {dvs : List V} {E : XK} {t : TA}
def FldQ (K : PySem.W.Frag) (f : Str) (x : V) (H : Hp) (Q : VK) : Prop := ∃ a C dx fs v, x = .ref a ∧ H a = some (.ins C dx fs) ∧ Cls K C ∧ NoAttr K C f ∧ fs.lookup f = some v ∧ Q v H
theorem g_tfld (q : ta σ H fun x H1 => FldQ K f x H1 Q) : tFld K ta f σ H Q := q
theorem g_fld (h : H a = some (.ins C dx fs)) (c : Cls K C) (n : NoAttr K C f) (l : fs.lookup f = some v) (q : Q v H) : FldQ K f (.ref a) H Q := ⟨a, C, dx, fs, v, rfl, h, c, n, l, q⟩
def MethQ (C : Addr) (m : Str) (sp : Sp) (dvs : List V) (E : XK) (t : TA) (σ : L2.St) (x : V) (H : Hp) (Q : VK) : Prop := ∃ a dx fs, x = .ref a ∧ H a = some (.ins C dx fs) ∧ fs.lookup m = none ∧ t σ H fun vs H2 => sp (x :: (vs ++ dvs)) H2 Q E
theorem g_tmeth (q : ta σ H fun x H1 => MethQ C m sp dvs E t σ x H1 Q) : tMeth C m sp dvs E ta t σ H Q := q
theorem g_meth (h : H a = some (.ins C dx fs)) (l : fs.lookup m = none) (q : t σ H fun vs H2 => sp (.ref a :: (vs ++ dvs)) H2 Q E) : MethQ C m sp dvs E t σ (.ref a) H Q := ⟨a, dx, fs, rfl, h, l, q⟩
def MakeQ (C : Addr) (sp : Sp) (vs : List V) (H : Hp) (Q : VK) (E : XK) : Prop := ∀ x dx, H x = none → H dx = none → dx ≠ x → sp (.ref x :: vs) (upd (upd H dx (.own x)) x (.ins C dx [])) (fun v H2 => v = .non ∧ Q (.ref x) H2) E
theorem g_tmake (q : t σ H fun vs H1 => MakeQ C sp (vs ++ dvs) H1 Q E) : tMake C sp dvs E t σ H Q := q
theorem g_make {vs : List V} (k : ∀ x dx H', H x = none → Same H H' → H' x = some (.ins C dx []) → sp (.ref x :: vs) H' (fun v H2 => v = .non ∧ Q (.ref x) H2) E) : MakeQ C sp vs H Q E :=
  fun x dx hx hd _ => k x dx _ hx (same_mut (same_new hd) hx) upd_same
def StoreQ (K : PySem.W.Frag) (f : Str) (y x : V) (D : Ends) (σ : L2.St) (H : Hp) : Prop := ∃ a C dx fs, x = .ref a ∧ H a = some (.ins C dx fs) ∧ Cls K C ∧ NoAttr K C f ∧ fs.length < 1000 ∧ D.nx σ (upd H a (.ins C dx (putF f y fs)))
theorem g_sfld {tv : TE} (q : tv σ H fun y H1 => ta σ H1 fun x H2 => StoreQ K f y x D σ H2) : sFld K ta tv f D σ H := q
theorem g_store (h : H a = some (.ins C dx fs)) (c : Cls K C) (n : NoAttr K C f) (l : fs.length < 1000) (q : D.nx σ (upd H a (.ins C dx (putF f v fs)))) : StoreQ K f v (.ref a) D σ H := ⟨a, C, dx, fs, rfl, h, c, n, l, q⟩
theorem g_isi {c : V} {t u : Value} {b : Bool} (k : ClsV c u) (ty : TyX K H x t) (e : PySem.W.kitOne K t u = some b) (q : Q (.bl b) H) : rIsi K [x, c] H Q := ⟨x, c, t, u, b, rfl, k, ty, e, q⟩
def PropQ (C : Addr) (sp : Sp) (dvs : List V) (E : XK) (x : V) (H : Hp) (Q : VK) : Prop := ∃ a dx fs, x = .ref a ∧ H a = some (.ins C dx fs) ∧ sp (.ref a :: dvs) H Q E
theorem g_tprop (q : ta σ H fun x H1 => PropQ C sp dvs E x H1 Q) : tProp C sp dvs E ta σ H Q := q
theorem g_prop (h : H a = some (.ins C dx fs)) (q : sp (.ref a :: dvs) H Q E) : PropQ C sp dvs E (.ref a) H Q := ⟨a, dx, fs, rfl, h, q⟩
def StarQ (K : PySem.W.Frag) (t : TA) (σ : L2.St) (x : V) (H : Hp) (Q : List V → Hp → Prop) : Prop := ∃ p xs, x = V.ref p ∧ (SqT K H p xs ∨ SqL K H p xs) ∧ t σ H fun ys H2 => Q (xs ++ ys) H2
theorem g_tstar {Q : List V → Hp → Prop} (q : te σ H fun x H1 => StarQ K t σ x H1 Q) : StX.tStar K te t σ H Q := q
theorem g_star {xs : List V} {Q : List V → Hp → Prop} (h : SqL K H a xs) (q : t σ H fun ys H2 => Q (xs ++ ys) H2) : StarQ K t σ (.ref a) H Q := ⟨a, xs, rfl, .inr h, q⟩
/-- an if whose answer is known -/
theorem g_ifT {b : Bool} {A B : Prop} (h : b = true) (q : A) : if b = true then A else B := by rw [if_pos h]; exact q
theorem g_ifF {b : Bool} {A B : Prop} (h : b = false) (q : B) : if b = true then A else B := by rw [if_neg (by rw [h]; exact Bool.false_ne_true)]; exact q
end
/-! ### a method called with keywords alone -/
structure MetK (P : Program) (w : World) (K : PySem.W.Frag) (mg : Str → Option Value) (base : Heap) (k : Nat) (C : Addr) (m : Str) (ks : List Str) (gV : List V → List V → List V) (sp : Sp) : Prop where
  ex : ∃ (f : Addr) (fd : FuncData) (ps : List Str) (g : List Value → List Value → List Value), Cls K C ∧ Meth K C m f ∧ FnOk P w K mg base CX0 k f fd ps sp ∧ KBinds K fd ps ks g gV
/-- o.m(k = e, ..) -/
def tMethK (C : Addr) (m : Str) (sp : Sp) (gV : List V → List V → List V) (ta : TE) (tk : TA) : TE := fun σ H Q => ta σ H fun x H1 => ∃ a dx fs, x = .ref a ∧ H1 a = some (.ins C dx fs) ∧ fs.lookup m = none ∧
  tk σ H1 fun zs H2 => sp (gV [x] zs) H2 Q (fun _ _ _ => False)
section
variable {X : Cx} {k j : Nat} {C : Addr} {m : Str} {ks : List Str} {gV : List V → List V → List V} {sp : Sp} {o : Expr} {kws : List Keyword} {ta : TE} {tk : TA} {pos apos : Pos}
theorem pe_mtK {pl : Sem Bool} (c : MetK X.prog X.w X.K X.mg X.base k C m ks gV sp) (hr : Room j X.A) (hk : k ≤ j) (ho : PE X o ta) (hkw : PK X kws tk)
    (hall : (backToKw pos (keywordEach kws X.env)).all (·.1.isSome) = true := by rfl) (hks : (backToKw pos (keywordEach kws X.env)).filterMap (·.1) = ks := by rfl)
    (hpl : ((backTo pos (starEach [] X.env)).any (·.1) || (backToKw pos (keywordEach kws X.env)).any (·.1.isNone)) = false := by rfl)
    (form : eval (.Call (.Attribute o m apos) [] kws pos) X.env = (do
      let obj ← eval o X.env
      standAt apos.atName
      let (fn, firsts) ← holding [obj] (getMethod obj m pl)
      callWith pos fn firsts (backTo pos (starEach [] X.env)) (backToKw pos (keywordEach kws X.env))) := by rfl) :
    PE X (.Call (.Attribute o m apos) [] kws pos) (tMethK C m sp gV ta tk) := by
  obtain ⟨f, fd, ps, g, cl, me, F, kb⟩ := c.ex
  refine ⟨fun pins s σ H Q I h => PySem.W.methodCall_KW (pl := pl) (thn (ho.run pins s σ H _ I h) fun u s1 got => ?_) form⟩
  obtain ⟨x, H1, I1, rx, a, dx, fs, ex, ea, l, q⟩ := got
  subst ex
  obtain rfl : u = Value.ref a := rx
  refine getmeth_ok I1 ea cl me l ?_
  refine PySem.W.callWith_KW0 (h₀ := X.base) I1.ok.mod.kin me.kp hall (thn (hkw.run pos pins s1 σ H1 _ I1 q) fun ws s2 got2 => ?_) hpl
  obtain ⟨zs, H2, I2, rz, q2⟩ := got2
  refine ⟨I2.kIn, ?_⟩
  rw [hks]
  exact run_fnk (us := [.ref a]) (vs := [.ref a]) F (hr.mono hk) kb pass0 I2 (.cons rfl .nil) rz q2
def MethKQ (C : Addr) (m : Str) (sp : Sp) (gV : List V → List V → List V) (tk : TA) (σ : L2.St) (x : V) (H : Hp) (Q : VK) : Prop := ∃ a dx fs, x = .ref a ∧ H a = some (.ins C dx fs) ∧ fs.lookup m = none ∧ tk σ H fun zs H2 => sp (gV [x] zs) H2 Q (fun _ _ _ => False)
theorem g_tmethK {σ : L2.St} {H : Hp} {Q : VK} (q : ta σ H fun x H1 => MethKQ C m sp gV tk σ x H1 Q) : tMethK C m sp gV ta tk σ H Q := q
theorem g_methK {σ : L2.St} {H : Hp} {Q : VK} {a dx : Addr} {fs : List (Str × V)} (h : H a = some (.ins C dx fs)) (l : fs.lookup m = none) (q : tk σ H fun zs H2 => sp (gV [.ref a] zs) H2 Q (fun _ _ _ => False)) : MethKQ C m sp gV tk σ (.ref a) H Q := ⟨a, dx, fs, rfl, h, l, q⟩
end
/-! ### a property -/
structure PropR (P : Program) (w : World) (K : PySem.W.Frag) (mg : Str → Option Value) (base : Heap) (k : Nat) (C : Addr) (f : Str) (sp : Sp) : Prop where
  ex : ∃ (p g : Addr) (fd : FuncData) (ps : List Str), Cls K C ∧ PropOf K C f p g ∧ FnOk P w K mg base CX0 k g fd ps sp ∧ Binds K fd ps []
theorem pe_pr {X : Cx} {k j : Nat} {C : Addr} {f : Str} {sp : Sp} {e : Expr} {ta : TE} {pos : Pos} (c : PropR X.prog X.w X.K X.mg X.base k C f sp) (hr : Room j X.A) (hk : k + 1 ≤ j) (he : PE X e ta) (hab : attributeBase e f X.env (eval e X.env) = eval e X.env := by rfl) :
    PE X (.Attribute e f pos) (tProp C sp [] (fun _ _ _ => False) ta) := by
  obtain ⟨p, g, fd, ps, cl, pr, F, b⟩ := c.ex
  exact pe_prop he cl pr F (hr.mono hk) b .nil pass0 hab
/-- two keywords, the second parameter's value comes last -/
def swapV : List V → List V → List V
  | [a], [y, x] => [a, x, y]
  | _, _ => []
def swapU : List Value → List Value → List Value
  | [a], [y, x] => [a, x, y]
  | _, _ => []
theorem swap_rel {vs : List V} {us : List Value} {zs : List V} {ws : List Value} (r : Vals vs us) (rz : Vals zs ws) : Vals (swapV vs zs) (swapU us ws) := by
  cases r with
  | nil => exact .nil
  | cons r1 r =>
    cases r with
    | nil =>
      cases rz with
      | nil => exact .nil
      | cons z1 rz =>
        cases rz with
        | nil => exact .nil
        | cons z2 rz =>
          cases rz with
          | nil => exact .cons r1 (.cons z2 (.cons z1 .nil))
          | cons _ _ => exact .nil
    | cons _ _ => exact .nil
/-- one keyword -/
def oneV : List V → List V → List V
  | [a], [x] => [a, x]
  | _, _ => []
def oneU : List Value → List Value → List Value
  | [a], [x] => [a, x]
  | _, _ => []
theorem one_rel {vs : List V} {us : List Value} {zs : List V} {ws : List Value} (r : Vals vs us) (rz : Vals zs ws) : Vals (oneV vs zs) (oneU us ws) := by
  cases r with
  | nil => exact .nil
  | cons r1 r =>
    cases r with
    | nil =>
      cases rz with
      | nil => exact .nil
      | cons z1 rz =>
        cases rz with
        | nil => exact .cons r1 (.cons z1 .nil)
        | cons _ _ => exact .nil
    | cons _ _ => exact .nil
theorem kbinds_one {K : PySem.W.Frag} {fd : FuncData} {s k : Str} (h : ∀ a x : Value, bindArgs fd ⟨[a], [(k, x)]⟩ = pure [(s, a), (k, x)]) : KBinds K fd [s, k] [k] oneU oneV := by
  refine ⟨fun st us ws _ hl => ?_, one_rel⟩
  match us, ws, hl with
  | [a], [x], _ => exact .of_eq (h a x)
  | [], _, hl => simp [oneU] at hl
  | [_], [], hl => simp [oneU] at hl
  | [_], _ :: _ :: _, hl => simp [oneU] at hl
  | _ :: _ :: _, _, hl => simp [oneU] at hl
theorem kbinds_swap {K : PySem.W.Frag} {fd : FuncData} {s k1 k2 : Str} (h : ∀ a x y : Value, bindArgs fd ⟨[a], [(k2, y), (k1, x)]⟩ = pure [(s, a), (k1, x), (k2, y)]) : KBinds K fd [s, k1, k2] [k2, k1] swapU swapV := by
  refine ⟨fun st us ws _ hl => ?_, swap_rel⟩
  match us, ws, hl with
  | [a], [y, x], _ => exact .of_eq (h a x y)
  | [], _, hl => simp [swapU] at hl
  | [_], [], hl => simp [swapU] at hl
  | [_], [_], hl => simp [swapU] at hl
  | [_], _ :: _ :: _ :: _, hl => simp [swapU] at hl
  | _ :: _ :: _, _, hl => simp [swapU] at hl
end Gx

/-! Lines of points: what stands at such an object, the promises of its methods -/
namespace Gx
open PySem L2
/-- whether an object is a whole number (no truth value) -/
inductive WholeV (K : PySem.W.Frag) (H : Hp) : V → Bool → Prop
  | int (i : Int) : WholeV K H (.int i) true
  | bl (c : Bool) : WholeV K H (.bl c) false
  | other {x : V} {t : Value} (ty : TyX K H x t) (no : PySem.W.kitOne K t (.type "int") = some false) : WholeV K H x false
def spWhole (K : PySem.W.Frag) : Sp := fun vs H Q _ => ∃ x b, vs = [x] ∧ WholeV K H x b ∧ Q (.bl b) H
def spPoint (K : PySem.W.Frag) : Sp := fun vs H Q _ => ∃ p x b, vs = [.ref p, x] ∧ WholeV K H x b ∧ Q (.bl b) H
/-- the attributes of a line -/
def lf (q : Addr) : List (Str × V) := [("own_points", .ref q)]
theorem lf_own (q : Addr) : (lf q).lookup ("own_points" : Str) = some (.ref q) := by simp [lf, List.lookup]
theorem lf_no (q : Addr) {m : Str} (h : (m == ("own_points" : Str)) = false) : (lf q).lookup m = none := by simp [lf, List.lookup, h]
/-- a line of the class at C stands at p, its points are xs -/
def LineAt (C : Addr) (H : Hp) (p : Addr) (xs : List V) : Prop := ∃ dx q, H p = some (.ins C dx (lf q)) ∧ H q = some (.lst xs)
theorem LineAt.same {C : Addr} {H H' : Hp} {p : Addr} {xs : List V} (h : LineAt C H p xs) (s : Same H H') : LineAt C H' p xs := by
  obtain ⟨dx, q, h1, h2⟩ := h
  exact ⟨dx, q, s _ _ h1, s _ _ h2⟩
/-- what the walk asks of the class of a line -/
structure LineC (K : PySem.W.Frag) (C : Addr) : Prop where
  cl : Cls K C
  own : NoAttr K C "own_points"
/-- a line of ints is made -/
def spInitI (K : PySem.W.Frag) (C : Addr) : Sp := fun vs H Q _ => ∃ (p a dx : Addr) (ns : List Int), vs = [.ref p, .ref a] ∧ H p = some (.ins C dx []) ∧ H a = some (.lst (ns.map V.int)) ∧ ns.length ≤ 500 ∧ ns.Pairwise (· < ·) ∧
  ∀ H', LineAt C H' p (ns.map V.int) → But p H H' → Q .non H'
/-- its points, as a new list -/
def spPoints (K : PySem.W.Frag) (C : Addr) : Sp := fun vs H Q _ => ∃ (p : Addr) (xs : List V), vs = [.ref p] ∧ LineAt C H p xs ∧ ∀ l H', H l = none → Same H H' → H' l = some (.lst xs) → Q (.ref l) H'
theorem rising_zip {ns : List Int} (h : ns.Pairwise (· < ·)) {i : Nat} {a b : Int} (ha : ns[i]? = some a) (hb : (ns.drop 1)[i]? = some b) : a < b := by
  rw [List.getElem?_drop] at hb
  have h1 := List.getElem?_eq_some_iff.mp ha
  have h2 := List.getElem?_eq_some_iff.mp hb
  obtain ⟨l1, e1⟩ := h1
  obtain ⟨l2, e2⟩ := h2
  have q := List.pairwise_iff_getElem.mp h i (1 + i) l1 l2 (by omega)
  rw [e1, e2] at q
  exact q
theorem ints_at {ns : List Int} {i : Nat} {x : V} (h : (ns.map V.int)[i]? = some x) : ∃ n, ns[i]? = some n ∧ x = V.int n := by
  rw [List.getElem?_map] at h
  cases e : ns[i]? with
  | none => rw [e] at h; cases h
  | some n => rw [e] at h; exact ⟨n, rfl, (Option.some.inj h).symm⟩
theorem but_same {p : Addr} {H H' : Hp} {o : HO} (s : Same H H') : But p H (upd H' p o) := fun b u nb e => by
  rw [upd_ne nb]
  exact s b u e
theorem cut_one (xs : List V) : cutV xs (some 1) none = xs.drop 1 := by
  unfold cutV
  cases xs with
  | nil => rfl
  | cons x r =>
    have e1 : HT.sIx (x :: r).length 0 (some 1) = 1 := by
      simp [HT.sIx]
    have e2 : HT.sIx (x :: r).length (x :: r).length none = (x :: r).length := rfl
    rw [e1, e2]
    exact List.take_of_length_le (by simp)
end Gx

/-! Cells of a line of ints -/
namespace Gx
open PySem L2
theorem g_isN1 {H : Hp} {Q : VK} {x : V} (q : Q (.bl (decide (x = .non))) H) : rIsN x .non H Q := ⟨rfl, q⟩
theorem g_notN1 {H : Hp} {Q : VK} {x : V} (q : Q (.bl (!decide (x = .non))) H) : rNotN x .non H Q := ⟨rfl, q⟩
theorem g_iteF {c : Prop} [Decidable c] {A B : Prop} (h : ¬ c) (q : B) : if decide c = true then A else B := g_ifF (decide_eq_false h) q
theorem g_iteT {c : Prop} [Decidable c] {A B : Prop} (h : c) (q : A) : if decide c = true then A else B := g_ifT (decide_eq_true h) q
abbrev oV : Option Int → V
  | none => .non
  | some i => .int i
def oD : Option Int → PyData
  | none => .none
  | some i => .int i
def leastOf (lo : Int) : Option Int → Int
  | none => lo
  | some x => if x + 1 > lo then x + 1 else lo
def mostOf (hi : Int) : Option Int → Int
  | none => hi
  | some y => if y - 1 < hi then y - 1 else hi
def gapIn (l r : Option Int) (lo hi : Int) : Bool := decide (leastOf lo l ≤ mostOf hi r)
def gapD (l r : Option Int) : PyData := .tuple [.str "gap", oD l, oD r]
def pointD (y : Int) : PyData := .tuple [.str "point", .int y]
def ptStep (lo hi : Int) : Option Int → List PyData
  | none => []
  | some y => if lo ≤ y ∧ y ≤ hi then [pointD y] else []
def cellStep (lo hi : Int) (l r : Option Int) : List PyData := (if gapIn l r lo hi = true then [gapD l r] else []) ++ ptStep lo hi r
def cellFold (lo hi : Int) (s : Option Int × List PyData) (r : Option Int) : Option Int × List PyData := (r, s.2 ++ cellStep lo hi s.1 r)
/-- the points of a line and its open end -/
def rights (ns : List Int) : List (Option Int) := ns.map some ++ [none]
def cellsOf (ns : List Int) (lo hi : Int) : List PyData := ((rights ns).foldl (cellFold lo hi) (none, [])).2
theorem rights_len (ns : List Int) : (rights ns).length = ns.length + 1 := by simp [rights]
theorem rights_V (ns : List Int) : ns.map V.int ++ [V.non] = (rights ns).map oV := by simp [rights, oV, Function.comp_def]
theorem step_len (lo hi : Int) (l r : Option Int) : (cellStep lo hi l r).length ≤ 2 := by
  unfold cellStep
  rw [List.length_append]
  have h1 : (if gapIn l r lo hi = true then [gapD l r] else []).length ≤ 1 := by split <;> simp
  have h2 : (ptStep lo hi r).length ≤ 1 := by
    cases r with
    | none => simp [ptStep]
    | some y =>
      show (if lo ≤ y ∧ y ≤ hi then [pointD y] else []).length ≤ 1
      by_cases c : lo ≤ y ∧ y ≤ hi
      · rw [if_pos c]
        exact Nat.le_refl 1
      · rw [if_neg c]
        exact Nat.zero_le 1
  omega
theorem fold_next {α β : Type} (f : β → α → β) {l : List α} {i : Nat} {x : α} (b : β) (h : l[i]? = some x) : (l.take (i + 1)).foldl f b = f ((l.take i).foldl f b) x := by
  rw [List.take_succ, h, List.foldl_append]
  rfl
mutual
/-- data without lists: it stays whatever list is changed -/
def noLst : PyData → Bool
  | .none | .bool _ | .int _ | .str _ => true
  | .list _ | .dict _ => false
  | .tuple xs => noLstAll xs
def noLstAll : List PyData → Bool
  | [] => true
  | x :: xs => noLst x && noLstAll xs
end
theorem noLstAll_iff : ∀ {xs : List PyData}, noLstAll xs = true ↔ ∀ x ∈ xs, noLst x = true
  | [] => by simp [noLstAll]
  | x :: xs => by simp [noLstAll, noLstAll_iff (xs := xs)]
section
variable {K : PySem.W.Frag} {H H' : Hp} {p : Addr} {l : List V}
theorem sqT_but (hp : H p = some (.lst l)) (b : But p H H') {a : Addr} {xs : List V} (h : SqT K H a xs) : SqT K H' a xs := by
  rcases h with (h | ⟨o, h⟩) | h
  · exact .inl (.inl (b a _ (ne_of h hp (by intro z; cases z)) h))
  · exact .inl (.inr ⟨o, b a _ (ne_of h hp (by intro z; cases z)) h⟩)
  · exact .inr h
mutual
theorem dp_but (hp : H p = some (.lst l)) (b : But p H H') : ∀ (d : PyData) (v : V), noLst d = true → Dp K H v d → Dp K H' v d
  | .none, _, _, h => by cases h; exact .non
  | .bool c, _, _, h => by cases h; exact .bl c
  | .int i, _, _, h => by cases h; exact .int i
  | .str x, _, _, h => by cases h; exact .str x
  | .list _, _, n, _ => by simp [noLst] at n
  | .dict _, _, n, _ => by simp [noLst] at n
  | .tuple ds, _, n, h => by
    cases h with
    | tup a c => exact .tup (sqT_but hp b a) (dp_butAll hp b ds _ (by simpa [noLst] using n) c)
theorem dp_butAll (hp : H p = some (.lst l)) (b : But p H H') : ∀ (ds : List PyData) (vs : List V), noLstAll ds = true → DpAll K H vs ds → DpAll K H' vs ds
  | [], _, _, h => by cases h; exact .nil
  | d :: ds, _, n, h => by
    simp only [noLstAll, Bool.and_eq_true] at n
    cases h with
    | cons a c => exact .cons (dp_but hp b d _ n.1 a) (dp_butAll hp b ds _ n.2 c)
end
end
theorem dp_o {K : PySem.W.Frag} {H : Hp} : ∀ (o : Option Int), Dp K H (oV o) (oD o)
  | none => .non
  | some i => .int i
theorem noLst_gap (l r : Option Int) : noLst (gapD l r) = true := by
  cases l <;> cases r <;> simp [gapD, noLst, noLstAll, oD]
theorem noLst_point (y : Int) : noLst (pointD y) = true := by simp [pointD, noLst, noLstAll]
theorem noLst_step (lo hi : Int) (l r : Option Int) : ∀ d ∈ cellStep lo hi l r, noLst d = true := by
  intro d hd
  unfold cellStep at hd
  rcases List.mem_append.mp hd with h | h
  · split at h
    · rw [List.mem_singleton.mp h]
      exact noLst_gap l r
    · cases h
  · cases r with
    | none => cases h
    | some y =>
      have h : d ∈ (if lo ≤ y ∧ y ≤ hi then [pointD y] else []) := h
      by_cases c : lo ≤ y ∧ y ≤ hi
      · rw [if_pos c] at h
        rw [List.mem_singleton.mp h]
        exact noLst_point _
      · rw [if_neg c] at h
        cases h
theorem cells_keep (P : PyData → Prop) (lo hi : Int) : ∀ (rs : List (Option Int)) (s : Option Int × List PyData), (∀ l r, ∀ d ∈ cellStep lo hi l r, P d) → (∀ d ∈ s.2, P d) → ∀ d ∈ (rs.foldl (cellFold lo hi) s).2, P d
  | [], s, _, h2 => h2
  | r :: rs, s, h1, h2 => cells_keep P lo hi rs (cellFold lo hi s r) h1 fun d hd => by
    rcases List.mem_append.mp hd with h | h
    · exact h2 d h
    · exact h1 _ _ d h
theorem noLst_cells (lo hi : Int) (rs : List (Option Int)) : noLstAll (rs.foldl (cellFold lo hi) (none, [])).2 = true :=
  noLstAll_iff.mpr (cells_keep _ lo hi rs _ (fun l r => noLst_step lo hi l r) fun d h => nomatch h)
theorem same_but {p : Addr} {H H1 H2 : Hp} (s : Same H H1) (n : H p = none) (b : But p H1 H2) : Same H H2 := fun a o e => b a o (ne_of_none e n) (s a o e)
theorem g_appB {p : Addr} {H : Hp} {Q : VK} {xs : List V} {y : V} (h : H p = some (.lst xs)) (hl : xs.length < 100000) (k : ∀ H', But p H H' → H' p = some (.lst (xs ++ [y])) → Q .non H') : rAppend (.ref p) [y] H Q :=
  ⟨p, xs, y, rfl, rfl, h, big_lt hl, k _ (fun a o n e => by rw [upd_ne n]; exact e) upd_same⟩
theorem g_clear {p : Addr} {H H0 : Hp} {Q : VK} {xs : List V} (s : Same H0 H) (n : H0 p = none) (h : H p = some (.lst xs)) (k : ∀ H', Same H0 H' → H' p = some (.lst []) → Q .non H') : rClear (.ref p) [] H Q :=
  ⟨p, xs, rfl, rfl, h, k _ (same_mut s n) upd_same⟩
theorem g_unl {K : PySem.W.Frag} {k : Nat} {t : TGs} {a : Addr} {xs : List V} {σ : L2.St} {H : Hp} {Q : L2.St → Hp → Prop} (h : SqL K H a xs) (hl : xs.length = k) (q : t xs σ H Q) : gUnl K k t (.ref a) σ H Q := ⟨a, xs, rfl, h, hl, q⟩
theorem g_cat {l b : Addr} {xs zs : List V} {H : Hp} {Q : VK} (h1 : H l = some (.lst xs)) (h2 : H b = some (.lst zs)) (hl : xs.length + zs.length ≤ 100000) (k : ∀ p H', H p = none → Same H H' → H' p = some (.lst (xs ++ zs)) → Q (.ref p) H') : rCat (.ref l) (.ref b) H Q :=
  ⟨l, b, xs, zs, rfl, rfl, h1, h2, big_le hl, fun p hp => k p _ hp (same_new hp) upd_same⟩
theorem g_sorted {K : PySem.W.Frag} {a : Addr} {ns : List Int} {H : Hp} {Q : VK} (h : SqL K H a (ns.map V.int)) (few : ns.length < 64) (k : ∀ (ms : List Int) (p : Addr) (H' : Hp), ms.Perm ns → ms.Pairwise (· ≤ ·) → H p = none → Same H H' → H' p = some (.lst (ms.map V.int)) → Q (.ref p) H') : rSorted K [V.ref a] H Q :=
  ⟨a, ns, rfl, h, few, fun ms p h1 h2 h3 => k ms p _ h1 h2 h3 (same_new h3) upd_same⟩
/-- two numbers in order -/
theorem two_sorted {ms : List Int} {a b : Int} (p : ms.Perm [a, b]) (u : ms.Pairwise (· ≤ ·)) : ∃ x y, ms = [x, y] ∧ x ≤ y ∧ (x = a ∨ x = b) ∧ (y = a ∨ y = b) := by
  have l := p.length_eq
  match ms, l with
  | [x, y], _ =>
    refine ⟨x, y, rfl, ?_, ?_, ?_⟩
    · have := List.pairwise_cons.mp u
      exact this.1 y List.mem_cons_self
    · have : x ∈ [a, b] := p.mem_iff.mp List.mem_cons_self
      simpa using this
    · have : y ∈ [a, b] := p.mem_iff.mp (List.mem_cons_of_mem _ List.mem_cons_self)
      simpa using this
theorem ors_at {rs : List (Option Int)} {i : Nat} {x : V} (h : (rs.map oV)[i]? = some x) : ∃ r, rs[i]? = some r ∧ x = oV r := by
  rw [List.getElem?_map] at h
  cases e : rs[i]? with
  | none => rw [e] at h; cases h
  | some n => rw [e] at h; exact ⟨n, rfl, (Option.some.inj h).symm⟩
/-! ### the promises -/
def spAhead : Sp := fun vs H Q _ => ∃ (p : Addr) (a lo : Int), vs = [.ref p, .int a, .int lo] ∧ Q (.bl (decide (a < lo))) H
def spBeyond : Sp := fun vs H Q _ => ∃ (p : Addr) (a hi : Int), vs = [.ref p, .int a, .int hi] ∧ Q (.bl (decide (hi < a))) H
def spBetween : Sp := fun vs H Q _ => ∃ (p : Addr) (l r : Option Int) (lo hi : Int), vs = [.ref p, oV l, oV r, .int lo, .int hi] ∧ Q (.bl (gapIn l r lo hi)) H
def spCells (K : PySem.W.Frag) (C : Addr) : Sp := fun vs H Q _ => ∃ (p : Addr) (ns : List Int) (lo hi : Int), vs = [.ref p, .int lo, .int hi] ∧ LineAt C H p (ns.map V.int) ∧ lo ≤ hi ∧ ns.length ≤ 500 ∧
  ∀ (a : Addr) (acc : List V) (H' : Hp), H a = none → Same H H' → H' a = some (.lst acc) → DpAll K H' acc (cellsOf ns lo hi) → acc.length ≤ 1002 → Q (.ref a) H'
end Gx

/-! Cells found by trying numbers -/
namespace Gx
open PySem L2
theorem g_cutE {te : TE} {σ : L2.St} {H : Hp} {Q : VK} (P : V → Hp → Prop) (h : ∀ Q' : VK, (∀ v H', P v H' → Q' v H') → te σ H Q') (q : ∀ v H', P v H' → Q v H') : te σ H Q := h Q q
theorem g_cutT {tt : TT} {σ : L2.St} {H : Hp} {Q : Bool → Hp → Prop} (P : Bool → Hp → Prop) (h : ∀ Q' : Bool → Hp → Prop, (∀ b H', P b H' → Q' b H') → tt σ H Q') (q : ∀ b H', P b H' → Q b H') : tt σ H Q := h Q q
theorem dpAll_last {K : PySem.W.Frag} {H : Hp} {vs : List V} {ds : List PyData} {e : PyData} (h : DpAll K H vs ds) (he : ds.getLast? = some e) : ∃ v, vs.getLast? = some v ∧ Dp K H v e := by
  have l := dpAll_len h
  rw [List.getLast?_eq_getElem?] at he
  have hi := (List.getElem?_eq_some_iff.mp he).1
  have hv : vs[ds.length - 1]? = some (vs[ds.length - 1]'(by omega)) := List.getElem?_eq_getElem _
  obtain ⟨d, h1, h2⟩ := dpAll_get h hv
  rw [he] at h1
  obtain rfl := Option.some.inj h1
  refine ⟨_, ?_, h2⟩
  rw [List.getLast?_eq_getElem?]
  exact (congrArg (fun n => vs[n - 1]?) l).trans hv
theorem filter_ints (ns : List Int) (c : V → Bool) (d : Int → Bool) (h : ∀ n, c (.int n) = d n) : ((ns.map V.int).filter c).map (fun x => x) = (ns.filter d).map V.int := by
  induction ns with
  | nil => rfl
  | cons n ns ih =>
    rw [List.map_cons, List.filter_cons, List.filter_cons, h n]
    cases d n with
    | true => simp only [if_true, List.map_cons, ih]
    | false => simpa using ih
theorem eqV_int (a b : Int) : eqV (.int a) (.int b) = decide (a = b) := by
  show (a == b) = decide (a = b)
  by_cases h : a = b
  · subst h; simp
  · simp [h]
theorem inV_ints (n : Int) : ∀ ns : List Int, inV (.int n) (ns.map V.int) = decide (n ∈ ns)
  | [] => by simp [inV]
  | m :: ns => by
    have ih := inV_ints n ns
    unfold inV at ih ⊢
    rw [List.map_cons, List.any_cons, eqV_int, ih]
    by_cases h : m = n
    · subst h; simp
    · by_cases h2 : n ∈ ns <;> simp [h, h2, Ne.symm h, eq_comm]
theorem flat_ints (ns : List Int) : (ns.map V.int).all flatV = true := by
  rw [List.all_eq_true]
  intro x hx
  obtain ⟨n, _, rfl⟩ := List.mem_map.mp hx
  rfl
theorem g_inI {K : PySem.W.Frag} {H : Hp} {Q : VK} {p : Addr} {ns : List Int} {n : Int} (h : SqL K H p (ns.map V.int)) (q : Q (.bl (decide (n ∈ ns))) H) : rIn K false (.int n) (.ref p) H Q :=
  ⟨p, _, rfl, .inl h, rfl, flat_ints ns, by rw [inV_ints]; exact q⟩
theorem g_notInI {K : PySem.W.Frag} {H : Hp} {Q : VK} {p : Addr} {ns : List Int} {n : Int} (h : SqL K H p (ns.map V.int)) (q : Q (.bl (!decide (n ∈ ns))) H) : rIn K true (.int n) (.ref p) H Q :=
  ⟨p, _, rfl, .inl h, rfl, flat_ints ns, by rw [inV_ints]; exact q⟩
theorem eqv_ints (ns ms : List Int) : PyData.eqv (.list (ns.map PyData.int)) (.list (ms.map PyData.int)) = decide (ns = ms) := by
  by_cases h : ns = ms
  · rw [decide_eq_true h, eqv_yes (bare_ints _) (bare_ints _) (by rw [h])]
  · rw [decide_eq_false h, eqv_no (bare_ints _) (bare_ints _) (fun z => h (ints_inj.mp z))]
theorem g_neI {K : PySem.W.Frag} {H : Hp} {Q : VK} {p q : Addr} {ns ms : List Int} (h1 : SqL K H p (ns.map V.int)) (h2 : SqL K H q (ms.map V.int)) (k : Q (.bl (!decide (ns = ms))) H) : rNeD K (.ref p) (.ref q) H Q := by
  refine g_neD (dp_ints h1) (dp_ints h2) (shaped_ints _) (shaped_ints _) ?_
  rw [eqv_ints]
  exact k
theorem atI_neg1 {xs : List V} {v : V} (h : xs.getLast? = some v) : atI xs (-1) = some v := by
  have ne : xs ≠ [] := fun e => by rw [e] at h; cases h
  have e : xs = xs.dropLast ++ [v] := by
    have := List.dropLast_concat_getLast ne
    rw [List.getLast?_eq_some_getLast ne] at h
    rw [Option.some.inj h] at this
    exact this.symm
  rw [e]
  exact atI_last _ _
theorem atI_head {xs : List V} {v : V} (h : xs.head? = some v) : atI xs 0 = some v := by
  cases xs with
  | nil => cases h
  | cons x r => exact atI_nat (j := 0) h
theorem oV_last (ns : List Int) (h : ns ≠ []) : (ns.map V.int).getLast? = some (oV ns.getLast?) := by
  rw [List.getLast?_map, List.getLast?_eq_some_getLast h]
  rfl
theorem oV_head (ns : List Int) (h : ns ≠ []) : (ns.map V.int).head? = some (oV ns.head?) := by
  cases ns with
  | nil => exact absurd rfl h
  | cons n r => rfl
/-- the cell of a number -/
def cellAt (ns : List Int) (m : Int) : PyData := if m ∈ ns then pointD m else gapD (ns.filter fun n => decide (n < m)).getLast? (ns.filter fun n => decide (m < n)).head?
def sameLast (acc : List PyData) (d : PyData) : Bool := match acc.getLast? with
  | none => false
  | some e => PyData.eqv e d
def dueStep (ns : List Int) (acc : List PyData) (m : Int) : List PyData := if sameLast acc (cellAt ns m) = true then acc else acc ++ [cellAt ns m]
def dueOf (ns : List Int) (lo : Int) (k : Nat) : List PyData := (List.range k).foldl (fun acc (i : Nat) => dueStep ns acc (lo + (i : Int))) []
theorem due_succ (ns : List Int) (lo : Int) (k : Nat) : dueOf ns lo (k + 1) = dueStep ns (dueOf ns lo k) (lo + (k : Int)) := by
  unfold dueOf
  rw [List.range_succ, List.foldl_append]
  rfl
theorem eqv_nil (ds : List PyData) : PyData.eqv (.list ds) (.list []) = ds.isEmpty := by cases ds <;> simp [PyData.eqv, PyData.eqvAll]
/-! ### cells are small data -/
/-- numbers of at most eighty digits -/
def In80 (i : Int) : Prop := -100000000000000000000000000000000000000000000000000000000000000000000000000000000 ≤ i ∧ i ≤ 100000000000000000000000000000000000000000000000000000000000000000000000000000000
theorem fine_o {n : Nat} {o : Option Int} (h : ∀ i, o = some i → In80 i) : Fine n 1 (oD o) := by
  cases o with
  | none => exact fine_none
  | some i => exact fine_int (h i rfl).1 (h i rfl).2
theorem fine_gap {l r : Option Int} (hl : ∀ i, l = some i → In80 i) (hr : ∀ i, r = some i → In80 i) : Fine 1 4 (gapD l r) := by
  refine (fine_tuple (n := 0) (m := 1) (xs := [.str "gap", oD l, oD r]) fun x hx => ?_).mono (Nat.le_refl _) (by simp)
  simp only [List.mem_cons, List.not_mem_nil, or_false] at hx
  rcases hx with rfl | rfl | rfl
  · exact fine_str (by decide +kernel) (by decide +kernel)
  · exact fine_o hl
  · exact fine_o hr
theorem fine_point {y : Int} (h : In80 y) : Fine 1 4 (pointD y) := by
  refine (fine_tuple (n := 0) (m := 1) (xs := [.str "point", .int y]) fun x hx => ?_).mono (Nat.le_refl _) (by simp)
  simp only [List.mem_cons, List.not_mem_nil, or_false] at hx
  rcases hx with rfl | rfl
  · exact fine_str (by decide +kernel) (by decide +kernel)
  · exact fine_int h.1 h.2
theorem bare_gap (l r : Option Int) : bare (gapD l r) = true := by cases l <;> cases r <;> simp [gapD, oD, bare, bareAll]
theorem bare_point (y : Int) : bare (pointD y) = true := by simp [pointD, bare, bareAll]
theorem bare_cellAt (ns : List Int) (m : Int) : bare (cellAt ns m) = true := by
  unfold cellAt
  split
  · exact bare_point m
  · exact bare_gap _ _
theorem noLst_cellAt (ns : List Int) (m : Int) : noLst (cellAt ns m) = true := by
  unfold cellAt
  split
  · exact noLst_point m
  · exact noLst_gap _ _
theorem fine_cellAt {ns : List Int} (h : ∀ n ∈ ns, In80 n) {m : Int} (hm : In80 m) : Fine 1 4 (cellAt ns m) := by
  unfold cellAt
  split
  · exact fine_point hm
  · refine fine_gap (fun i e => h i ?_) (fun i e => h i ?_)
    · exact (List.mem_filter.mp (List.mem_of_getLast? e)).1
    · exact (List.mem_filter.mp (List.mem_of_head? e)).1
theorem due_all (P : PyData → Prop) {ns : List Int} {lo : Int} : ∀ (k : Nat), (∀ i : Nat, i < k → P (cellAt ns (lo + (i : Int)))) → ∀ d ∈ dueOf ns lo k, P d
  | 0, _, d, h => nomatch h
  | k + 1, hp, d, h => by
    rw [due_succ] at h
    unfold dueStep at h
    split at h
    · exact due_all P k (fun i hi => hp i (by omega)) d h
    · rcases List.mem_append.mp h with h | h
      · exact due_all P k (fun i hi => hp i (by omega)) d h
      · rw [List.mem_singleton.mp h]
        exact hp k (Nat.lt_succ_self k)
theorem due_len (ns : List Int) (lo : Int) : ∀ k : Nat, (dueOf ns lo k).length ≤ k
  | 0 => Nat.le_refl 0
  | k + 1 => by
    have ih := due_len ns lo k
    rw [due_succ]
    unfold dueStep
    split
    · omega
    · rw [List.length_append]
      exact Nat.succ_le_succ ih
def spDue (K : PySem.W.Frag) : Sp := fun vs H Q _ => ∃ (a : Addr) (ns : List Int) (lo hi : Int), vs = [.ref a, .int lo, .int hi] ∧ H a = some (.lst (ns.map V.int)) ∧ ns.length ≤ 500 ∧ (∀ n ∈ ns, In80 n) ∧ -1000 ≤ lo ∧ lo ≤ hi ∧ hi ≤ 1000 ∧
  ∀ (l : Addr) (acc : List V) (H' : Hp), H l = none → Same H H' → H' l = some (.lst acc) → DpAll K H' acc (dueOf ns lo (hi + 1 - lo).toNat) → Q (.ref l) H'
end Gx

/-! The cells found by trying all numbers are those that meet the range -/
namespace Gx
open PySem L2
def tryStep (f : Int → PyData) (acc : List PyData) (m : Int) : List PyData := if sameLast acc (f m) = true then acc else acc ++ [f m]
def tryN (f : Int → PyData) (acc : List PyData) (lo : Int) : Nat → List PyData
  | 0 => acc
  | n + 1 => tryStep f (tryN f acc lo n) (lo + (n : Int))
theorem tryN_due (ns : List Int) (lo : Int) : ∀ n, dueOf ns lo n = tryN (cellAt ns) [] lo n
  | 0 => rfl
  | n + 1 => by
    rw [due_succ, tryN_due ns lo n]
    rfl
theorem tryN_add (f : Int → PyData) (acc : List PyData) (lo : Int) (a : Nat) : ∀ b, tryN f acc lo (a + b) = tryN f (tryN f acc lo a) (lo + (a : Int)) b
  | 0 => rfl
  | b + 1 => by
    show tryStep f (tryN f acc lo (a + b)) (lo + ((a + b : Nat) : Int)) = tryStep f (tryN f (tryN f acc lo a) (lo + (a : Int)) b) (lo + (a : Int) + (b : Int))
    rw [tryN_add f acc lo a b, show lo + ((a + b : Nat) : Int) = lo + (a : Int) + (b : Int) by omega]
theorem tryN_congr {f g : Int → PyData} (acc : List PyData) (lo : Int) : ∀ n, (∀ i : Nat, i < n → f (lo + (i : Int)) = g (lo + (i : Int))) → tryN f acc lo n = tryN g acc lo n
  | 0, _ => rfl
  | n + 1, h => by
    show tryStep f (tryN f acc lo n) _ = tryStep g (tryN g acc lo n) _
    unfold tryStep
    rw [tryN_congr acc lo n fun i hi => h i (by omega), h n (by omega)]
theorem sameLast_add (acc : List PyData) (c d : PyData) : sameLast (acc ++ [c]) d = PyData.eqv c d := by
  unfold sameLast
  rw [List.getLast?_concat]
theorem tryN_const {f : Int → PyData} {c : PyData} {acc : List PyData} {lo : Int} (hb : bare c = true) (ha : sameLast acc c = false) : ∀ n, 0 < n → (∀ i : Nat, i < n → f (lo + (i : Int)) = c) → tryN f acc lo n = acc ++ [c]
  | 1, _, h => by
    show tryStep f acc (lo + ((0 : Nat) : Int)) = _
    unfold tryStep
    rw [h 0 (by omega), ha, if_neg Bool.false_ne_true]
  | n + 2, _, h => by
    show tryStep f (tryN f acc lo (n + 1)) (lo + ((n + 1 : Nat) : Int)) = _
    rw [tryN_const hb ha (n + 1) (by omega) fun i hi => h i (by omega)]
    unfold tryStep
    rw [h (n + 1) (by omega), sameLast_add, eqv_yes hb hb rfl, if_pos rfl]
/-- the cell of a number, left of it l, beyond it the points rs -/
def cellR (l : Option Int) : List Int → Int → PyData
  | [], _ => gapD l none
  | y :: ys, m => if m < y then gapD l (some y) else if m = y then pointD y else cellR (some y) ys m
def cellsR (lo hi : Int) (l : Option Int) : List Int → List PyData
  | [] => cellStep lo hi l none
  | y :: ys => cellStep lo hi l (some y) ++ cellsR lo hi (some y) ys
theorem fold_cellsR (lo hi : Int) : ∀ (ns : List Int) (l : Option Int) (acc : List PyData), ((rights ns).foldl (cellFold lo hi) (l, acc)).2 = acc ++ cellsR lo hi l ns
  | [], l, acc => rfl
  | y :: ys, l, acc => by
    show ((rights ys).foldl (cellFold lo hi) (some y, acc ++ cellStep lo hi l (some y))).2 = _
    rw [fold_cellsR lo hi ys (some y) _]
    show _ = acc ++ (cellStep lo hi l (some y) ++ cellsR lo hi (some y) ys)
    rw [List.append_assoc]
theorem bare_cellR : ∀ (rs : List Int) (l : Option Int) (m : Int), bare (cellR l rs m) = true
  | [], l, m => bare_gap l none
  | y :: ys, l, m => by
    unfold cellR
    split
    · exact bare_gap _ _
    · split
      · exact bare_point _
      · exact bare_cellR ys _ m
/-- beyond a point none of the cells is that point's -/
theorem cellR_ne : ∀ (rs : List Int) (l : Option Int) (m y : Int), y < m → PyData.eqv (pointD y) (cellR l rs m) = false
  | [], l, m, y, _ => (eqv_no (bare_point y) (bare_gap l none) (by simp [pointD, gapD]) : PyData.eqv (pointD y) (gapD l none) = false)
  | z :: zs, l, m, y, h => by
    unfold cellR
    split
    · exact eqv_no (bare_point y) (bare_gap _ _) (by simp [pointD, gapD])
    · split
      · rename_i h1 h2
        exact eqv_no (bare_point y) (bare_point z) (by simp [pointD]; omega)
      · exact cellR_ne zs _ m y h
theorem gap_point (l r : Option Int) (y : Int) : PyData.eqv (gapD l r) (pointD y) = false := eqv_no (bare_gap _ _) (bare_point y) (by simp [pointD, gapD])
theorem step_some (lo hi : Int) (l : Option Int) (y : Int) : cellStep lo hi l (some y) = (if gapIn l (some y) lo hi = true then [gapD l (some y)] else []) ++ (if lo ≤ y ∧ y ≤ hi then [pointD y] else []) := rfl
theorem step_none (lo hi : Int) (l : Option Int) : cellStep lo hi l none = (if gapIn l none lo hi = true then [gapD l none] else []) ++ [] := rfl
/-- beyond the range there are no cells -/
theorem cellsR_none {lo hi : Int} : ∀ (rs : List Int) (y : Int), hi ≤ y → (y :: rs).Pairwise (· < ·) → cellsR lo hi (some y) rs = []
  | [], y, h, _ => by
    have g : gapIn (some y) none lo hi = false := by
      unfold gapIn leastOf mostOf
      apply decide_eq_false
      simp only
      split <;> omega
    show cellStep lo hi (some y) none = []
    rw [step_none, g, if_neg Bool.false_ne_true]
    rfl
  | z :: zs, y, h, p => by
    have yz : y < z := (List.pairwise_cons.mp p).1 z List.mem_cons_self
    have g : gapIn (some y) (some z) lo hi = false := by
      unfold gapIn leastOf mostOf
      apply decide_eq_false
      simp only
      split <;> split <;> omega
    show cellStep lo hi (some y) (some z) ++ cellsR lo hi (some z) zs = []
    rw [cellsR_none zs z (by omega) (List.pairwise_cons.mp p).2]
    rw [step_some, g, if_neg Bool.false_ne_true, if_neg (by omega)]
    rfl
/-- numbers at or below a point don't matter behind it -/
theorem cellsR_lo {hi lo lo' : Int} : ∀ (rs : List Int) (y : Int), lo ≤ y + 1 → lo' ≤ y + 1 → (y :: rs).Pairwise (· < ·) → cellsR lo hi (some y) rs = cellsR lo' hi (some y) rs
  | [], y, h, h', _ => by
    have e : leastOf lo (some y) = leastOf lo' (some y) := by
      unfold leastOf
      simp only
      split <;> split <;> omega
    show cellStep lo hi (some y) none = cellStep lo' hi (some y) none
    unfold cellStep gapIn
    rw [e]
    rfl
  | z :: zs, y, h, h', p => by
    have yz : y < z := (List.pairwise_cons.mp p).1 z List.mem_cons_self
    have e : leastOf lo (some y) = leastOf lo' (some y) := by
      unfold leastOf
      simp only
      split <;> split <;> omega
    show cellStep lo hi (some y) (some z) ++ cellsR lo hi (some z) zs = cellStep lo' hi (some y) (some z) ++ cellsR lo' hi (some z) zs
    rw [cellsR_lo (lo := lo) (lo' := lo') zs z (by omega) (by omega) (List.pairwise_cons.mp p).2, step_some, step_some]
    unfold gapIn
    rw [e]
    have q : (lo ≤ z ∧ z ≤ hi) ↔ (lo' ≤ z ∧ z ≤ hi) := by omega
    simp only [q]
theorem try_cells : ∀ (rs : List Int) (l : Option Int) (acc : List PyData) (lo hi : Int), lo ≤ hi → (∀ x, l = some x → x < lo) → (∀ x, l = some x → ∀ y ∈ rs, x < y) → rs.Pairwise (· < ·) → sameLast acc (cellR l rs lo) = false →
    tryN (cellR l rs) acc lo (hi + 1 - lo).toNat = acc ++ cellsR lo hi l rs
  | [], l, acc, lo, hi, h, hl, _, _, ha => by
    rw [tryN_const (c := gapD l none) (bare_gap _ _) ha _ (by omega) fun _ _ => rfl]
    have g : gapIn l none lo hi = true := by
      unfold gapIn leastOf mostOf
      apply decide_eq_true
      cases l with
      | none => exact h
      | some x =>
        have := hl x rfl
        simp only
        split <;> omega
    show _ = acc ++ cellStep lo hi l none
    unfold cellStep
    rw [g, if_pos rfl]
    rfl
  | y :: ys, l, acc, lo, hi, h, hl, hy, p, ha => by
    have pys := (List.pairwise_cons.mp p).2
    have py := (List.pairwise_cons.mp p).1
    show _ = acc ++ (cellStep lo hi l (some y) ++ cellsR lo hi (some y) ys)
    rcases Int.lt_or_le hi y with c | c
    · -- all numbers below the first point
      have ha' : sameLast acc (gapD l (some y)) = false := by
        have : cellR l (y :: ys) lo = gapD l (some y) := by
          unfold cellR
          rw [if_pos (by omega)]
        rw [← this]
        exact ha
      rw [tryN_const (c := gapD l (some y)) (bare_gap _ _) ha' _ (by omega) fun i hi' => by
        unfold cellR
        rw [if_pos (by omega)]]
      have g : gapIn l (some y) lo hi = true := by
        unfold gapIn leastOf mostOf
        apply decide_eq_true
        cases l with
        | none => simp only; split <;> omega
        | some x =>
          have := hl x rfl
          simp only
          split <;> split <;> omega
      rw [cellsR_none ys y (by omega) p]
      rw [step_some, g, if_pos rfl, if_neg (by omega)]
      simp
    · rcases Int.lt_or_le y lo with c2 | c2
      · -- all numbers beyond it
        have e : tryN (cellR l (y :: ys)) acc lo (hi + 1 - lo).toNat = tryN (cellR (some y) ys) acc lo (hi + 1 - lo).toNat := tryN_congr _ _ _ fun i hi' => by
          show (if lo + (i : Int) < y then gapD l (some y) else if lo + (i : Int) = y then pointD y else cellR (some y) ys (lo + (i : Int))) = _
          rw [if_neg (by omega), if_neg (by omega)]
        have ha' : sameLast acc (cellR (some y) ys lo) = false := by
          have : cellR l (y :: ys) lo = cellR (some y) ys lo := by
            show (if lo < y then gapD l (some y) else if lo = y then pointD y else cellR (some y) ys lo) = _
            rw [if_neg (by omega), if_neg (by omega)]
          rw [← this]
          exact ha
        rw [e, try_cells ys (some y) acc lo hi h (fun x e => by cases e; exact c2) (fun x e z hz => by cases e; exact py z hz) pys ha']
        have g : gapIn l (some y) lo hi = false := by
          unfold gapIn leastOf mostOf
          apply decide_eq_false
          cases l with
          | none => simp only; split <;> omega
          | some x =>
            have := hl x rfl
            simp only
            split <;> split <;> omega
        rw [step_some, g, if_neg Bool.false_ne_true, if_neg (by omega)]
        rfl
      · -- below, at and beyond it
        have e0 : (hi + 1 - lo).toNat = (y - lo).toNat + (1 + (hi - y).toNat) := by omega
        rw [e0, tryN_add]
        have e1 : lo + ((y - lo).toNat : Int) = y := by omega
        rw [e1, tryN_add]
        -- the gap ahead of it
        have g : (if gapIn l (some y) lo hi = true then [gapD l (some y)] else []) = if lo < y then [gapD l (some y)] else [] := by
          have q : gapIn l (some y) lo hi = decide (lo < y) := by
            unfold gapIn leastOf mostOf
            cases l with
            | none =>
              simp only
              congr 1
              apply propext
              split <;> omega
            | some x =>
              have := hl x rfl
              simp only
              congr 1
              apply propext
              split <;> split <;> omega
          rw [q]
          by_cases z : lo < y <;> simp [z]
        have A1 : tryN (cellR l (y :: ys)) acc lo (y - lo).toNat = acc ++ (if lo < y then [gapD l (some y)] else []) := by
          by_cases z : lo < y
          · rw [if_pos z]
            refine tryN_const (bare_gap _ _) ?_ _ (by omega) fun i hi' => ?_
            · have : cellR l (y :: ys) lo = gapD l (some y) := by
                unfold cellR
                rw [if_pos z]
              rw [← this]
              exact ha
            · unfold cellR
              rw [if_pos (by omega)]
          · rw [if_neg z, List.append_nil, show (y - lo).toNat = 0 by omega]
            rfl
        have at_y : cellR l (y :: ys) y = pointD y := by
          unfold cellR
          rw [if_neg (by omega), if_pos rfl]
        have A2 : tryN (cellR l (y :: ys)) (acc ++ (if lo < y then [gapD l (some y)] else [])) y 1 = acc ++ (if lo < y then [gapD l (some y)] else []) ++ [pointD y] := by
          refine tryN_const (bare_point y) ?_ 1 (by omega) fun i hi' => ?_
          · by_cases z : lo < y
            · rw [if_pos z, sameLast_add]
              exact gap_point _ _ _
            · rw [if_neg z, List.append_nil]
              have : lo = y := by omega
              rw [this, at_y] at ha
              exact ha
          · have : i = 0 := by omega
            subst this
            show cellR l (y :: ys) (y + ((0 : Nat) : Int)) = _
            rw [show y + ((0 : Nat) : Int) = y by omega]
            exact at_y
        rw [A1, A2]
        have A3 : tryN (cellR l (y :: ys)) (acc ++ (if lo < y then [gapD l (some y)] else []) ++ [pointD y]) (y + ((1 : Nat) : Int)) (hi - y).toNat = acc ++ (if lo < y then [gapD l (some y)] else []) ++ [pointD y] ++ cellsR lo hi (some y) ys := by
          by_cases z : y < hi
          · have e3 : tryN (cellR l (y :: ys)) (acc ++ (if lo < y then [gapD l (some y)] else []) ++ [pointD y]) (y + ((1 : Nat) : Int)) (hi - y).toNat = tryN (cellR (some y) ys) (acc ++ (if lo < y then [gapD l (some y)] else []) ++ [pointD y]) (y + 1) (hi + 1 - (y + 1)).toNat := by
              rw [show (hi + 1 - (y + 1)).toNat = (hi - y).toNat by omega]
              refine tryN_congr _ _ _ fun i hi' => ?_
              show (if y + 1 + (i : Int) < y then gapD l (some y) else if y + 1 + (i : Int) = y then pointD y else cellR (some y) ys (y + 1 + (i : Int))) = _
              rw [if_neg (by omega), if_neg (by omega)]
              rfl
            rw [e3, try_cells ys (some y) (acc ++ (if lo < y then [gapD l (some y)] else []) ++ [pointD y]) (y + 1) hi (by omega) (fun x e => by cases e; omega) (fun x e z hz => by cases e; exact py z hz) pys (by rw [sameLast_add]; exact cellR_ne ys _ _ _ (by omega))]
            rw [cellsR_lo ys y (Int.le_refl _) (by omega : lo ≤ y + 1) p]
          · rw [show (hi - y).toNat = 0 by omega, cellsR_none ys y (by omega) p, List.append_nil]
            rfl
        rw [A3]
        rw [step_some, g, if_pos (by omega : lo ≤ y ∧ y ≤ hi)]
        simp only [List.append_assoc]
theorem filter_none {ns : List Int} {p : Int → Bool} (h : ∀ n ∈ ns, p n = false) : ns.filter p = [] := List.filter_eq_nil_iff.mpr fun n hn => by rw [h n hn]; exact Bool.false_ne_true
/-- the cell of a number, said by all points or by those beyond -/
theorem cellAt_R : ∀ (rs pre : List Int) (m : Int), (pre ++ rs).Pairwise (· < ·) → (∀ x ∈ pre, x < m) → cellAt (pre ++ rs) m = cellR pre.getLast? rs m
  | [], pre, m, p, h => by
    rw [List.append_nil]
    unfold cellAt cellR
    rw [if_neg (fun q => by have := h m q; omega), List.filter_eq_self.mpr fun n hn => decide_eq_true (h n hn), filter_none fun n hn => decide_eq_false (by have := h n hn; omega)]
    rfl
  | y :: ys, pre, m, p, h => by
    have pp := List.pairwise_append.mp p
    have py := List.pairwise_cons.mp pp.2.1
    show _ = (if m < y then gapD pre.getLast? (some y) else if m = y then pointD y else cellR (some y) ys m)
    by_cases c : m < y
    · rw [if_pos c]
      unfold cellAt
      have nm : ¬ m ∈ pre ++ y :: ys := fun q => by
        rcases List.mem_append.mp q with q | q
        · have := h m q
          omega
        · rcases List.mem_cons.mp q with q | q
          · omega
          · have := py.1 m q
            omega
      rw [if_neg nm, List.filter_append, List.filter_append, List.filter_eq_self.mpr fun n hn => decide_eq_true (h n hn), filter_none (ns := pre) fun n hn => decide_eq_false (by have := h n hn; omega)]
      have f1 : (y :: ys).filter (fun n => decide (n < m)) = [] := filter_none fun n hn => by
        apply decide_eq_false
        rcases List.mem_cons.mp hn with q | q
        · omega
        · have := py.1 n q
          omega
      rw [f1, List.append_nil, List.filter_cons, if_pos (decide_eq_true c)]
      rfl
    · rw [if_neg c]
      by_cases c2 : m = y
      · rw [if_pos c2]
        unfold cellAt
        rw [if_pos (by rw [c2]; exact List.mem_append_right _ List.mem_cons_self), c2]
      · rw [if_neg c2]
        have q := cellAt_R ys (pre ++ [y]) m (by rw [List.append_assoc]; exact p) (fun x hx => by
          rcases List.mem_append.mp hx with z | z
          · exact h x z
          · rw [List.mem_singleton.mp z]
            omega)
        rw [List.append_assoc, List.getLast?_concat] at q
        exact q
/-- THE LAW of cells_in: the cells found number by number are those of the line -/
theorem due_cells {ns : List Int} (p : ns.Pairwise (· < ·)) {lo hi : Int} (h : lo ≤ hi) : dueOf ns lo (hi + 1 - lo).toNat = cellsOf ns lo hi := by
  rw [tryN_due]
  have e : tryN (cellAt ns) [] lo (hi + 1 - lo).toNat = tryN (cellR none ns) [] lo (hi + 1 - lo).toNat := tryN_congr _ _ _ fun i _ => cellAt_R ns [] _ p (fun x hx => nomatch hx)
  rw [e, try_cells ns none [] lo hi h (fun x e => nomatch e) (fun x e => nomatch e) p rfl]
  unfold cellsOf
  rw [fold_cellsR]
end Gx

/-! Any list that a def changes, known to its callers by what stays true of it -/
namespace Gx
open PySem L2
/-- at f stands a list whose items are as G says -/
def HidP (G : List V → Prop) (f : Addr) (h : Heap) : Prop := ∃ (vs : List V) (its : List Value) (n : Nat), G vs ∧ vs.length ≤ sizeLine ∧ Vals vs its ∧ h.get? f = some { cls := .type "list", data := .seq its.toArray n }
def HidO (G : List V → Prop) (f : Addr) : HO := .ext (HidP G f)
section
variable {P : Program} {w : World} {K : PySem.W.Frag} {mg : Str → Option Value} {base : Heap} {H : Hp} {h : Heap} {f : Addr} {G : List V → Prop}
theorem hid_open (ok : HOk P w H h) (hf : H f = some (HidO G f)) : ∃ vs, G vs ∧ HOk P w (upd H f (.lst vs)) h := by
  have q : ObjOk P w H h f (HidO G f) := ok f _ hf
  obtain ⟨⟨vs, its, n, g, l, r, e⟩, _, _⟩ := q
  refine ⟨vs, g, ok.write (by rw [hf]; trivial) (Or.inl rfl) (fun _ _ _ q => q) ⟨_, e⟩ ?_⟩
  exact ⟨l, its, n, r, e⟩
theorem hid_close {vs : List V} (ok : HOk P w H h) (hf : H f = some (.lst vs)) (g : G vs) : HOk P w (upd H f (HidO G f)) h := by
  have q : ObjOk P w H h f (.lst vs) := ok f _ hf
  obtain ⟨l, its, n, r, e⟩ := q
  refine ok.write (by rw [hf]; trivial) (Or.inl rfl) (fun _ _ _ q => q) ⟨_, e⟩ ?_
  exact ⟨⟨vs, its, n, g, l, r, e⟩, ⟨_, e⟩, fun h1 h2 p1 k => by
    obtain ⟨vs, its, n, g, l, r, e⟩ := p1
    exact ⟨vs, its, n, g, l, r, k _ e⟩⟩
theorem hid_view {k : Nat} {fa : Addr} {fd : FuncData} {ps : List Str} {sp sp' : Sp} (F : FnOk P w K mg base CX0 k fa fd ps sp) (some_ : sp' = sp' → ∀ vs H Q E, sp' vs H Q E → vs.length = ps.length)
    (hs : ∀ vs H Q E, sp' vs H Q E → ∃ (f : Addr) (G G2 : List V → Prop), H f = some (HidO G f) ∧ ∀ xs, G xs → sp vs (upd H f (.lst xs)) (fun v H' => (∃ ys, G2 ys ∧ H' f = some (.lst ys)) ∧ Q v (upd H' f (HidO G2 f))) E) :
    FnOk P w K mg base CX0 k fa fd ps sp' := by
  refine ⟨some_ rfl, fun A outer s H args us vs Q E hr he hb hv q => ?_⟩
  obtain ⟨f, G, G2, hf, k⟩ := hs vs H Q E q
  obtain ⟨xs, g, ok1⟩ := hid_open he.hok hf
  have nf : ∀ b, H b = none → b ≠ f := fun b n e => by rw [e, hf] at n; cases n
  have mu : Mut (H f) := by rw [hf]; trivial
  have hof : ∃ o, s.heap.get? f = some o := by
    have q : ObjOk P w H s.heap f (HidO G f) := he.hok f _ hf
    exact q.2.1
  have he1 : Env0 P w K mg base A outer s (upd H f (.lst xs)) :=
    ⟨he.frames, he.mod, fun b o e => ⟨(he.bs b o e).1, by rw [upd_ne (nf b (he.bs b o e).2)]; exact (he.bs b o e).2⟩, he.bsz, he.funs, fun b hb => by rw [upd_ne (nf b (he.frf b hb))]; exact he.frf b hb, ok1, he.bare⟩
  refine codeAny_mono (F.run A outer s _ args us vs _ E hr he1 hb hv (k xs g)) fun r s' hq => ?_
  cases r with
  | error e => exact hq.elim
  | ok fl =>
    cases fl with
    | ret u =>
      obtain ⟨v, H', os, bare, un, hok, rv, ⟨ys, g', e'⟩, q'⟩ := hq
      refine ⟨v, upd H' f (HidO G2 f), os, bare, ?_, hid_close hok e' g', rv, q'⟩
      have u1 : Un (frs outer) [] H (upd H f (.lst xs)) s.heap s.heap := Un.write mu (Or.inl rfl) (fun _ _ _ q => q) hof
      have hof' : ∃ o, s'.heap.get? f = some o := by
        have q : ObjOk P w H' s'.heap f (.lst ys) := hok f _ e'
        obtain ⟨_, its, n, r, e⟩ := q
        exact ⟨_, e⟩
      have u2 : Un (frs outer) [] H' (upd H' f (HidO G2 f)) s'.heap s'.heap := Un.write (by rw [e']; trivial) (Or.inl rfl) (fun _ _ _ q => q) hof'
      exact (u1.trans un).trans u2
    | next => exact hq.elim
    | brk => exact hq.elim
    | cont => exact hq.elim
/-- a def that makes such a list -/
theorem hid_made {k : Nat} {fa : Addr} {fd : FuncData} {ps : List Str} {sp sp' : Sp} (F : FnOk P w K mg base CX0 k fa fd ps sp)
    (hs : ∀ vs H Q E, sp' vs H Q E → sp vs H (fun v H' => ∃ (f : Addr) (G : List V → Prop) (ys : List V), G ys ∧ H' f = some (.lst ys) ∧ Q v (upd H' f (HidO G f))) E) : FnOk P w K mg base CX0 k fa fd ps sp' := by
  refine ⟨fun vs H Q E q => F.len _ _ _ _ (hs vs H Q E q), fun A outer s H args us vs Q E hr he hb hv q => ?_⟩
  refine codeAny_mono (F.run A outer s _ args us vs _ E hr he hb hv (hs vs H Q E q)) fun r s' hq => ?_
  cases r with
  | error e => exact hq.elim
  | ok fl =>
    cases fl with
    | ret u =>
      obtain ⟨v, H', os, bare, un, hok, rv, f, G, ys, g, e', q'⟩ := hq
      have there : ∃ o, s'.heap.get? f = some o := by
        have q : ObjOk P w H' s'.heap f (.lst ys) := hok f _ e'
        obtain ⟨_, its, n, r, e⟩ := q
        exact ⟨_, e⟩
      exact ⟨v, upd H' f (HidO G f), os, bare, un.trans (Un.write (by rw [e']; trivial) (Or.inl rfl) (fun _ _ _ q => q) there), hid_close hok e' g, rv, q'⟩
    | next => exact hq.elim
    | brk => exact hq.elim
    | cont => exact hq.elim
end
/-! ### a flask of draws: two lists -/
/-- numbers from 0 on -/
def Nats (vs : List V) : Prop := ∃ ns : List Int, vs = ns.map V.int ∧ ∀ n ∈ ns, 0 ≤ n
/-- what is not hidden stays -/
def vis : HO → Bool
  | .ext _ => false
  | _ => true
def SmV (H H' : Hp) : Prop := ∀ a o, vis o = true → H a = some o → H' a = some o
theorem SmV.refl (H : Hp) : SmV H H := fun _ _ _ e => e
theorem SmV.trans {H1 H2 H3 : Hp} (a : SmV H1 H2) (b : SmV H2 H3) : SmV H1 H3 := fun p o v e => b p o v (a p o v e)
theorem Same.smv {H H' : Hp} (s : Same H H') : SmV H H' := fun a o _ e => s a o e
theorem SmV.lst {H H' : Hp} (s : SmV H H') {a : Addr} {xs : List V} (e : H a = some (.lst xs)) : H' a = some (.lst xs) := s a _ rfl e
theorem SmV.tup {H H' : Hp} (s : SmV H H') {a : Addr} {xs : List V} (e : H a = some (.tup xs)) : H' a = some (.tup xs) := s a _ rfl e
theorem SmV.sqL {K : PySem.W.Frag} {H H' : Hp} (s : SmV H H') {a : Addr} {xs : List V} (h : SqL K H a xs) : SqL K H' a xs := by
  rcases h with (h | ⟨o, h⟩) | h
  · exact .inl (.inl (s a _ rfl h))
  · exact .inl (.inr ⟨o, s a _ rfl h⟩)
  · exact .inr h
theorem SmV.sqT {K : PySem.W.Frag} {H H' : Hp} (s : SmV H H') {a : Addr} {xs : List V} (h : SqT K H a xs) : SqT K H' a xs := by
  rcases h with (h | ⟨o, h⟩) | h
  · exact .inl (.inl (s a _ rfl h))
  · exact .inl (.inr ⟨o, s a _ rfl h⟩)
  · exact .inr h
mutual
theorem dp_smv {K : PySem.W.Frag} {H H' : Hp} (s : SmV H H') : ∀ (d : PyData) (v : V), Dp K H v d → Dp K H' v d
  | .none, _, h => by cases h; exact .non
  | .bool c, _, h => by cases h; exact .bl c
  | .int i, _, h => by cases h; exact .int i
  | .str x, _, h => by cases h; exact .str x
  | .list ds, _, h => by
    cases h with
    | lst a b => exact .lst (s.sqL a) (dp_smvAll s ds _ b)
  | .dict _, _, h => by cases h
  | .tuple ds, _, h => by
    cases h with
    | tup a b => exact .tup (s.sqT a) (dp_smvAll s ds _ b)
theorem dp_smvAll {K : PySem.W.Frag} {H H' : Hp} (s : SmV H H') : ∀ (ds : List PyData) (vs : List V), DpAll K H vs ds → DpAll K H' vs ds
  | [], _, h => by cases h; exact .nil
  | d :: ds, _, h => by
    cases h with
    | cons a c => exact .cons (dp_smv s d _ a) (dp_smvAll s ds _ c)
end
abbrev flC : Int := 170141183460469231731687303715884105727
def FlaskG (q : Addr) (c : Nat) (vs : List V) : Prop := ∃ b n : Int, vs = [.ref q, .int b, .int n] ∧ 0 ≤ b ∧ b < flC ∧ 0 ≤ n ∧ n ≤ (c : Int)
/-- f is a flask that was asked at most c times -/
def Flask (c : Nat) (H : Hp) (f : Addr) : Prop := ∃ q, q ≠ f ∧ H f = some (HidO (FlaskG q c) f) ∧ H q = some (HidO Nats q)
theorem Flask.same {c : Nat} {H H' : Hp} {f : Addr} (h : Flask c H f) (s : Same H H') : Flask c H' f := by
  obtain ⟨q, n, h1, h2⟩ := h
  exact ⟨q, n, s _ _ h1, s _ _ h2⟩
/-- a flask with two open lists -/
def spDrip0 : Sp := fun vs H Q _ => ∃ (f q : Addr) (b n m : Int) (ns : List Int), vs = [.ref f, .int m] ∧ q ≠ f ∧ H f = some (.lst [.ref q, .int b, .int n]) ∧ H q = some (.lst (ns.map V.int)) ∧ (∀ n ∈ ns, 0 ≤ n) ∧
  0 ≤ b ∧ b < flC ∧ 0 ≤ n ∧ n ≤ 1000000 ∧ 0 < m ∧ m.natAbs < 2 ^ 1000 ∧
  ∀ (r b' n' : Int) (ns' : List Int) (H' : Hp), 0 ≤ r → r < m → 0 ≤ b' → b' < flC → 0 ≤ n' → n' ≤ n + 1 → (∀ n ∈ ns', 0 ≤ n) → (∀ a o, a ≠ f → a ≠ q → H a = some o → H' a = some o) → H' q = some (.lst (ns'.map V.int)) → H' f = some (.lst [.ref q, .int b', .int n']) → Q (.int r) H'
def spDrip : Sp := fun vs H Q _ => ∃ (f : Addr) (c : Nat) (m : Int), vs = [.ref f, .int m] ∧ Flask c H f ∧ c ≤ 1000000 ∧ 0 < m ∧ m.natAbs < 2 ^ 1000 ∧ ∀ (r : Int) (H' : Hp), 0 ≤ r → r < m → SmV H H' → Flask (c + 1) H' f → Q (.int r) H'
def spDrip1 : Sp := fun vs H Q _ => ∃ (f q : Addr) (b n m : Int), vs = [.ref f, .int m] ∧ q ≠ f ∧ H f = some (.lst [.ref q, .int b, .int n]) ∧ H q = some (HidO Nats q) ∧
  0 ≤ b ∧ b < flC ∧ 0 ≤ n ∧ n ≤ 1000000 ∧ 0 < m ∧ m.natAbs < 2 ^ 1000 ∧
  ∀ (r b' n' : Int) (H' : Hp), 0 ≤ r → r < m → 0 ≤ b' → b' < flC → 0 ≤ n' → n' ≤ n + 1 → (∀ a o, a ≠ f → H a = some o → H' a = some o) → H' f = some (.lst [.ref q, .int b', .int n']) → Q (.int r) H'
section
variable {P : Program} {w : World} {K : PySem.W.Frag} {mg : Str → Option Value} {base : Heap}
theorem drip_view {k : Nat} {fa : Addr} {fd : FuncData} {ps : List Str} (hl : ps.length = 2) (F : FnOk P w K mg base CX0 k fa fd ps spDrip0) : FnOk P w K mg base CX0 k fa fd ps spDrip := by
  have F1 : FnOk P w K mg base CX0 k fa fd ps spDrip1 := by
    refine hid_view F (fun _ vs H Q E h => ?_) fun vs H Q E h => ?_
    · obtain ⟨f, q, b, n, m, rfl, _⟩ := h
      exact hl.symm
    · obtain ⟨f, q, b, n, m, rfl, hn, hf, hq, b0, b1, n0, n1, m0, m1, k⟩ := h
      refine ⟨q, Nats, Nats, hq, fun xs g => ?_⟩
      obtain ⟨ns, rfl, pos⟩ := g
      refine ⟨f, q, b, n, m, ns, rfl, hn, by rw [upd_ne (Ne.symm hn)]; exact hf, upd_same, pos, b0, b1, n0, n1, m0, m1, fun r b' n' ns' H' r0 r1 c0 c1 d0 d1 pos' ke kq kf => ?_⟩
      refine ⟨⟨_, ⟨ns', rfl, pos'⟩, kq⟩, ?_⟩
      refine k r b' n' _ r0 r1 c0 c1 d0 d1 (fun a o na e => ?_) (by rw [upd_ne (Ne.symm hn)]; exact kf)
      by_cases ha : a = q
      · subst ha
        rw [upd_same]
        rw [hq] at e
        exact e
      · rw [upd_ne ha]
        exact ke a o na ha (by rw [upd_ne ha]; exact e)
  refine hid_view F1 (fun _ vs H Q E h => ?_) fun vs H Q E h => ?_
  · obtain ⟨f, c, m, rfl, _⟩ := h
    exact hl.symm
  · obtain ⟨f, c, m, rfl, ⟨q, hn, hf, hq⟩, c1, m0, m1, k⟩ := h
    refine ⟨f, FlaskG q c, FlaskG q (c + 1), hf, fun xs g => ?_⟩
    obtain ⟨b, n, rfl, b0, b1, n0, n1⟩ := g
    refine ⟨f, q, b, n, m, rfl, hn, upd_same, by rw [upd_ne hn]; exact hq, b0, b1, n0, by omega, m0, m1, fun r b' n' H' r0 r1 c0 c1 d0 d1 ke kf => ?_⟩
    refine ⟨⟨_, ⟨b', n', rfl, c0, c1, d0, by omega⟩, kf⟩, ?_⟩
    refine k r _ r0 r1 (fun a o vo e => ?_) ⟨q, hn, upd_same, ?_⟩
    · have na : a ≠ f := fun z => by
        subst z
        rw [hf] at e
        obtain rfl := Option.some.inj e
        cases vo
      rw [upd_ne na]
      exact ke a o na (by rw [upd_ne na]; exact e)
    · rw [upd_ne hn]
      exact ke q _ hn (by rw [upd_ne hn]; exact hq)
end
end Gx

/-! A comprehension over a range whose turns may change hidden things; texts -/
namespace Gx
open PySem L2
section
variable {σ : L2.St} {H H1 : Hp} {Q : VK} {K : PySem.W.Frag} {te tl : TE} {tt : TT} {g : TG} {vs : List Nat} {J : It} {n j : Nat}
theorem smv_new {H : Hp} {a : Addr} {o : HO} (h : H a = none) : SmV H (upd H a o) := Same.smv (same_new h)
theorem smv_mut {H H' : Hp} {a : Addr} {o : HO} (s : SmV H H') (h : H a = none) : SmV H (upd H' a o) := fun b u v e => by
  by_cases c : b = a
  · subst c
    rw [h] at e
    cases e
  · rw [upd_ne c]
    exact s b u v e
theorem lc_rngV {lo : Int} (hn : n ≤ 100000) (A : Nat → List V → Hp → Prop)
    (mono : ∀ i acc l D H H', H D = some (.lst l) → H1 D = none → SmV H1 H → But D H H' → A i acc H → A i acc H') (A0 : ∀ H, Same H1 H → A 0 [] H)
    (turn : ∀ i acc H' (Nx : V → Hp → Prop), i < n → SmV H1 H' → A i acc H' → acc.length = i → (∀ y H4, SmV H' H4 → A (i + 1) (acc ++ [y]) H4 → Nx y H4) →
      g (.int (lo + (i : Int))) (wipe σ vs) H' fun σ2 H2 => wipe σ2 vs = wipe σ vs ∧ te σ2 H2 Nx)
    (done : ∀ D acc H', H1 D = none → SmV H1 H' → H' D = some (.lst acc) → A n acc H' → acc.length = n → Q (.ref D) H') : LC g tYes te vs (Itr lo n) σ H1 Q := by
  intro D hD
  refine ⟨fun i m H => m = n - i ∧ i ≤ n ∧ ∃ acc, SmV H1 H ∧ H D = some (.lst acc) ∧ A i acc H ∧ acc.length = i, ⟨n, rfl, Nat.zero_le _, [], smv_new hD, upd_same, A0 _ (same_new hD), rfl⟩, ?_⟩
  rintro i m H ⟨rfl, hi, acc, s, e, a, hl⟩
  rcases Nat.lt_or_ge i n with lt | ge
  · right
    refine ⟨lt, fun H' => i + 1 ≤ n ∧ ∃ acc, SmV H1 H' ∧ H' D = some (.lst acc) ∧ A (i + 1) acc H' ∧ acc.length = i + 1, fun H' ⟨l1, q⟩ => ⟨n - (i + 1), by omega, rfl, l1, q⟩, fun x H' y => ?_⟩
    obtain ⟨rfl, rfl⟩ := y
    have t := turn i acc H' (fun y H4 => ∃ acc', H4 D = some (.lst acc') ∧ acc'.length < sizeLine ∧ (i + 1 ≤ n ∧ ∃ acc, SmV H1 (upd H4 D (.lst (acc' ++ [y]))) ∧ upd H4 D (.lst (acc' ++ [y])) D = some (.lst acc) ∧ A (i + 1) acc (upd H4 D (.lst (acc' ++ [y]))) ∧ acc.length = i + 1)) lt s a hl fun y H4 s4 a4 => ?_
    · exact t
    · have e4 := s4 _ _ rfl e
      have s14 := s.trans s4
      exact ⟨acc, e4, big_lt (by omega), lt, acc ++ [y], smv_mut s14 hD, upd_same, mono (i + 1) (acc ++ [y]) acc D H4 _ e4 hD s14 (fun b o nb z => by rw [upd_ne nb]; exact z) a4, by rw [List.length_append, hl]; rfl⟩
  · left
    have e0 : i = n := Nat.le_antisymm hi ge
    subst e0
    exact ⟨Nat.le_refl _, done D acc H hD s e a hl⟩
end
end Gx

/-! name, *rest = x; a text times 0 or 1 -/
namespace Gx
open PySem L2 PySem.Spec PyProof.Rows PySem.W
section
variable {X : Cx}
/-- the unpacking itself, one name ahead of the star -/
theorem star_list {a : Addr} {x : Value} {r : List Value} {n : Nat} {Q : List Value → Shared → Prop} {pr : Program} {wo : World} {A : Around} {E : Value → Shared → Prop} {s : Shared} (hd : A.handled = none)
    (hl : s.heap.IsList a (x :: r).toArray) (hz : r.length ≤ 16000) (done : ∀ (h2 : Heap) (tk : Nat), Heap.ExtBut s.heap.objs.size s.heap h2 → Q [x, .ref h2.objs.size] { s with toks := tk, heap := h2.push { cls := .type "list", data := .seq r.toArray } }) :
    wpAny (model pr wo) A (unpackItems (.ref a) 2 (some 1)) Q E s := by
  have ne : a ≠ s.heap.objs.size := by
    obtain ⟨o, ho, _⟩ := hl
    exact Nat.ne_of_lt (Heap.lt_size ho)
  have sz : (x :: r).toArray.size = r.length + 1 := by simp
  unfold unpackItems notIterableAtAll
  refine wpAny_bind (wpAny_bind (wpAny_specialOf hl.typeIs slot_list_iter.lookup (wpAny_pure ?_)))
  rw [if_neg (by simp)]
  refine wpAny_bind (wpAny_holding (wpAny_pyIter_list hl ?_))
  refine wpAny_bind (wpAny_holding (kun_draw ne 1 0 _ _ ⟨_, Heap.get?_push_size _ rfl, rfl, rfl⟩ (hl.push _) (by omega) fun h1 it1 sb1 => ?_))
  have hl1 : h1.IsList a (x :: r).toArray := (hl.push _).extBut sb1.extBut ne
  rw [Nat.zero_add] at it1
  have it2 := it1
  have hl2 := hl1
  obtain ⟨oi, hoi, _⟩ := it2
  obtain ⟨ol, hol, _⟩ := hl2
  rw [if_neg (by simp)]
  refine wpAny_bind (wpAny_holding (kun_collect (s := { s with heap := h1 }) (T := "list_iterator") (.inr (.inr (.inl rfl))) (Walks.list (A := A.in1) hd s.heap.objs.size a ne _) (fun j u st => st.1.typeIs) (k := 1) (by omega) ⟨it1, hl1⟩ (Heap.lt_size hoi) (Heap.lt_size hol) (fun h2 tk kp => ?_) (by rw [sz, sizeLine_eq]; omega)))
  show wpAny _ _ (if r.length < 0 then _ else _) _ _ _
  rw [if_neg (Nat.not_lt_zero _)]
  show wpAny _ _ (newList (r.take r.length) >>= fun d => pure ([x] ++ [d] ++ r.drop r.length)) _ _ _
  rw [List.take_length, List.drop_length]
  refine wpAny_bind (wpAny_newList (wpAny_pure ?_) (by rw [sizeLine_eq]; omega))
  exact done h2 tk fun b o nb e => kp b o nb (sb1.extBut b o nb (Heap.get?_push_of_some _ e))
theorem star_tuple {a : Addr} {x : Value} {r : List Value} {n : Nat} {Q : List Value → Shared → Prop} {pr : Program} {wo : World} {A : Around} {E : Value → Shared → Prop} {s : Shared} (hd : A.handled = none)
    (hl : IsTup s.heap a (x :: r).toArray) (hz : r.length ≤ 16000) (done : ∀ (h2 : Heap) (tk : Nat), Heap.ExtBut s.heap.objs.size s.heap h2 → Q [x, .ref h2.objs.size] { s with toks := tk, heap := h2.push { cls := .type "list", data := .seq r.toArray } }) :
    wpAny (model pr wo) A (unpackItems (.ref a) 2 (some 1)) Q E s := by
  have ne : a ≠ s.heap.objs.size := by
    obtain ⟨o, ho, _⟩ := hl
    exact Nat.ne_of_lt (Heap.lt_size ho)
  have sz : (x :: r).toArray.size = r.length + 1 := by simp
  unfold unpackItems notIterableAtAll
  refine wpAny_bind (wpAny_bind (wpAny_specialOf hl.typeIs slot_tuple_iter.lookup (wpAny_pure ?_)))
  rw [if_neg (by simp)]
  refine wpAny_bind (wpAny_holding (iter_tuple hl ?_))
  refine wpAny_bind (wpAny_holding (draw_tuple ne 1 0 _ _ ⟨_, Heap.get?_push_size _ rfl, rfl, rfl⟩ (hl.push _) (by omega) fun h1 it1 sb1 => ?_))
  have hl1 : IsTup h1 a (x :: r).toArray := (hl.push _).extBut sb1.extBut ne
  rw [Nat.zero_add] at it1
  have it2 := it1
  have hl2 := hl1
  obtain ⟨oi, hoi, _⟩ := it2
  obtain ⟨ol, hol, _⟩ := hl2
  rw [if_neg (by simp)]
  refine wpAny_bind (wpAny_holding (kun_collect (s := { s with heap := h1 }) (T := "tuple_iterator") (.inr (.inr (.inr rfl))) (Walks.tuple (A := A.in1) hd s.heap.objs.size a ne _) (fun j u st => st.1.typeIs) (k := 1) (by omega) ⟨it1, hl1⟩ (Heap.lt_size hoi) (Heap.lt_size hol) (fun h2 tk kp => ?_) (by rw [sz, sizeLine_eq]; omega)))
  show wpAny _ _ (if r.length < 0 then _ else _) _ _ _
  rw [if_neg (Nat.not_lt_zero _)]
  show wpAny _ _ (newList (r.take r.length) >>= fun d => pure ([x] ++ [d] ++ r.drop r.length)) _ _ _
  rw [List.take_length, List.drop_length]
  refine wpAny_bind (wpAny_newList (wpAny_pure ?_) (by rw [sizeLine_eq]; omega))
  exact done h2 tk fun b o nb e => kp b o nb (sb1.extBut b o nb (Heap.get?_push_of_some _ e))
/-- name, *rest = x : x a list or a tuple -/
def gStar (K : PySem.W.Frag) (t : TGs) : TG := fun v σ H Q => ∃ a x r, v = .ref a ∧ (SqL K H a (x :: r) ∨ SqT K H a (x :: r)) ∧ r.length ≤ 16000 ∧ ∀ p, H p = none → t [x, .ref p] σ (upd H p (.lst r)) Q
theorem pg_star {es : List Expr} {k : Nat} {t : TGs} {pos : Pos} (hc : X.calm = true) (h : PGs X es t) (hn : (assignEach es X.env).length = 2 := by rfl) (hst : (assignEach es X.env).findIdx? (·.1) = some 1 := by rfl) : PG X (.Tuple es k pos) (gStar X.K t) := by
  refine ⟨fun pins s σ H v u Q I r hw => ?_⟩
  obtain ⟨a, x, xs, rfl, hq, hl, go⟩ := hw
  cases r
  rw [PyProof.Rows.assign_Tuple]
  refine wpAny_bind (wpAny_standAt ?_)
  unfold unpack
  rw [hn, hst]
  have last : ∀ (y : Value) (ys : List Value), Vals (x :: xs) (y :: ys) → ∀ (h2 : Heap) (tk : Nat), Heap.ExtBut s.heap.objs.size s.heap h2 → wpAny (model X.prog X.w) X.A (assignInOrder ((assignEach es X.env).map (·.2)) [y, .ref h2.objs.size]) (fun _ s' => ∃ σ' H', Inv X pins σ' H' s' ∧ Q σ' H') X.xe
      { s with toks := tk, heap := h2.push { cls := .type "list", data := .seq ys.toArray } } := by
    intro y ys rv h2 tk he
    cases rv with
    | cons r1 rv =>
      have I1 : Inv X pins σ H { s with heap := h2, toks := tk } := I.kept (t' := tk) fun b o e => he b o (Nat.ne_of_lt (Heap.lt_size e)) e
      have np := I1.hok.fresh (Nat.le_refl _)
      have I2 : Inv X pins σ (upd H h2.objs.size (.lst xs)) { s with toks := tk, heap := h2.push { cls := .type "list", data := .seq ys.toArray } } :=
        I1.laid (t' := tk) (fun b u q => Heap.get?_push_of_some _ q) (Nat.le_refl _) ⟨Nat.le_trans hl (by decide), ys, _, rv, Heap.get?_push_size _ rfl⟩
      exact h.run pins _ σ _ [x, .ref h2.objs.size] [y, .ref h2.objs.size] Q I2 (.cons r1 (.cons rfl .nil)) (go _ np)
  rcases hq with hq | hq
  · obtain ⟨its, rv, pl, hz⟩ := I.list hq
    cases its with
    | nil => cases rv
    | cons y ys =>
      have hl' : s.heap.IsList a (y :: ys).toArray := by
        obtain ⟨o, m, e, c, d, q⟩ := pl
        exact ⟨o, e, c, m, q⟩
      have ly : ys.length ≤ 16000 := by
        have := rv.length
        simp at this
        omega
      exact wpAny_bind (wpAny_holding (star_list (n := 0) (I.ok.hd hc) hl' ly fun h2 tk he => last y ys rv h2 tk he))
  · obtain ⟨its, rv, ht, hz⟩ := I.tuple hq
    cases its with
    | nil => cases rv
    | cons y ys =>
      have ly : ys.length ≤ 16000 := by
        have := rv.length
        simp at this
        omega
      exact wpAny_bind (wpAny_holding (star_tuple (n := 0) (I.ok.hd hc) ht ly fun h2 tk he => last y ys rv h2 tk he))
theorem g_starT {K : PySem.W.Frag} {t : TGs} {a : Addr} {x : V} {r : List V} {σ : L2.St} {H : Hp} {Q : L2.St → Hp → Prop} (h : SqL K H a (x :: r) ∨ SqT K H a (x :: r)) (hl : r.length ≤ 16000) (k : ∀ p H', H p = none → Same H H' → H' p = some (.lst r) → t [x, .ref p] σ H' Q) : gStar K t (.ref a) σ H Q :=
  ⟨a, x, r, rfl, h, hl, fun p hp => k p _ hp (same_new hp) upd_same⟩
/-- a text, 0 or 1 times -/
def rRep1 : R2 := fun x y H Q => ∃ (a : Str) (b : Bool), x = .str a ∧ y = .int (if b = true then 1 else 0) ∧ Q (.str (if b = true then a else Str.empty)) H
theorem op_rep1 : OpR X (binaryOp .Mult) rRep1 := by
  intro pins s σ H x y v u Q I rx ry h
  obtain ⟨a, b, rfl, rfl, q⟩ := h
  obtain ⟨t, rfl⟩ := rx
  obtain ⟨t', rfl⟩ := ry
  cases b with
  | true => exact P.mul_str (by decide) (fun _ z => by cases z) (fun _ z => by cases z) ⟨.str a, H, I, ⟨t, rfl⟩, q⟩
  | false => exact P.mul_str_none (by decide) (by decide) ⟨.str Str.empty, H, I.tok _, ⟨_, rfl⟩, q⟩
end
end Gx

/-! Steps for texts; defs called by a keyword; the walk over enumerate -/
namespace Gx
open PySem L2 PySem.Spec PyProof.Rows
section
variable {X : Cx}
theorem pgs_star {e : Expr} {es : List Expr} {t : TG} {u : TGs} {p : Pos} (h1 : PG X e t) (h2 : PGs X es u) (hs : (assignEach (.Starred e p :: es) X.env).map (·.2) = assign e X.env :: (assignEach es X.env).map (·.2) := by rfl) : PGs X (.Starred e p :: es) (gCons t u) := by
  refine ⟨fun pins s σ H vs us Q I r h => ?_⟩
  obtain ⟨v, vr, rfl, h⟩ := h
  cases r with
  | cons r rr =>
    rw [hs]
    exact assignInOrder_cons (thn (h1.run pins s σ H _ _ _ I r h) fun _ s1 ⟨σ1, H1, I1, q1⟩ => h2.run pins s1 σ1 H1 _ _ Q I1 rr q1)
/-- a def called with keywords alone -/
structure CalK (P : Program) (w : World) (K : PySem.W.Frag) (mg : Str → Option Value) (base : Heap) (k : Nat) (x : Str) (ks : List Str) (gV : List V → List V → List V) (sp : Sp) : Prop where
  ex : ∃ (f : Addr) (fd : FuncData) (ps : List Str) (g : List Value → List Value → List Value), FnOk P w K mg base CX0 k f fd ps sp ∧ mg x = some (.ref f) ∧ PySem.W.keepIn K (.ref f) = true ∧ KBinds K fd ps ks g gV
def tCallK0 (sp : Sp) (gV : List V → List V → List V) (tk : TA) : TE := fun σ H Q => tk σ H fun zs H2 => sp (gV [] zs) H2 Q (fun _ _ _ => False)
theorem pe_cK {k j : Nat} {x : Str} {ks : List Str} {gV : List V → List V → List V} {sp : Sp} {kws : List Keyword} {tk : TA} {p pos : Pos} (c : CalK X.prog X.w X.K X.mg X.base k x ks gV sp) (hr : Room j X.A) (hk : k ≤ j) (hg : Gl X x) (hkw : PK X kws tk)
    (hdb : (x == ("__debug__" : Str)) = false := by decide) (hall : (backToKw pos (keywordEach kws X.env)).all (·.1.isSome) = true := by rfl) (hks : (backToKw pos (keywordEach kws X.env)).filterMap (·.1) = ks := by rfl)
    (hpl : ((backTo pos (starEach [] X.env)).any (·.1) || (backToKw pos (keywordEach kws X.env)).any (·.1.isNone)) = false := by rfl) : PE X (.Call (.Name x p) [] kws pos) (tCallK0 sp gV tk) := by
  obtain ⟨f, fd, ps, g, F, named, kept, kb⟩ := c.ex
  refine ⟨fun pins s σ H Q I h => wpAny_Call_Name_kw (ld_glob I hg named ?_ hdb)⟩
  refine PySem.W.callWith_KW0 (h₀ := X.base) I.ok.mod.kin kept hall (thn (hkw.run pos pins s σ H _ I h) fun ws s2 got => ?_) hpl
  obtain ⟨zs, H2, I2, rz, q2⟩ := got
  refine ⟨I2.kIn, ?_⟩
  rw [hks]
  exact run_fnk (us := []) (vs := []) F (hr.mono hk) kb pass0 I2 .nil rz q2
def soleV : List V → List V → List V
  | [], [x] => [x]
  | _, _ => []
def soleU : List Value → List Value → List Value
  | [], [x] => [x]
  | _, _ => []
theorem sole_rel {vs : List V} {us : List Value} {zs : List V} {ws : List Value} (r : Vals vs us) (rz : Vals zs ws) : Vals (soleV vs zs) (soleU us ws) := by
  cases r with
  | nil =>
    cases rz with
    | nil => exact .nil
    | cons z1 rz =>
      cases rz with
      | nil => exact .cons z1 .nil
      | cons _ _ => exact .nil
  | cons r1 r => exact .nil
theorem kbinds_sole {K : PySem.W.Frag} {fd : FuncData} {k : Str} (h : ∀ x : Value, bindArgs fd ⟨[], [(k, x)]⟩ = pure [(k, x)]) : KBinds K fd [k] [k] soleU soleV := by
  refine ⟨fun st us ws _ hl => ?_, sole_rel⟩
  match us, ws, hl with
  | [], [x], _ => exact .of_eq (h x)
  | [], [], hl => simp [soleU] at hl
  | [], _ :: _ :: _, hl => simp [soleU] at hl
  | _ :: _, _, hl => simp [soleU] at hl
end
section
variable {σ : L2.St} {H H1 : Hp} {Q : VK} {K : PySem.W.Frag} {te to ta : TE} {tk : TA} {R : It → Hp → Prop} {a : Addr} {xs : List V}
theorem g_callK0 {sp : Sp} {gV : List V → List V → List V} (q : tk σ H fun zs H2 => sp (gV [] zs) H2 Q (fun _ _ _ => False)) : tCallK0 sp gV tk σ H Q := q
theorem g_m1 {r : V → List V → Hp → VK → Prop} (q : to σ H fun x H1 => (∃ a, x = .str a) ∧ te σ H1 fun y H2 => r x [y] H2 Q) : tM1 r to te σ H Q := q
theorem g_isstr {z : Str} {P : Prop} (q : P) : (∃ a, V.str z = .str a) ∧ P := ⟨⟨z, rfl⟩, q⟩
theorem g_iStr (q : te σ H fun v H1 => ∃ x, v = .str x ∧ R (Its x) H1) : iStr te σ H R := q
theorem g_exS {z : Str} {R : Str → Prop} (q : R z) : ∃ x, V.str z = .str x ∧ R x := ⟨z, rfl, q⟩
theorem g_iEnum {t : TA} (q : t σ H fun vs H1 => ∃ a xs, vs = [.ref a] ∧ SqL K H1 a xs ∧ R (Ite K a) H1) : iEnum K t σ H R := q
theorem g_exEn {R : Addr → Prop} (h : SqL K H a xs) (q : R a) : ∃ b ys, [V.ref a] = [.ref b] ∧ SqL K H b ys ∧ R b := ⟨a, xs, rfl, h, q⟩
theorem src_str {x : Str} : Src (Its x) H1 x.cps.size (fun i v _ => ∃ c, x.cps[i]? = some c ∧ v = .str ⟨#[c]⟩) := fun i H s =>
  ⟨fun hi => ⟨hi, fun v H' y => by obtain ⟨rfl, q⟩ := y; exact ⟨Same.refl _, q⟩⟩, fun hi => hi⟩
theorem fw_enum {g : TG} {tb : TS} {D : Ends} (Pv : Nat → L2.St → Hp → Prop) (h0 : Pv 0 σ H) (hl : ∀ i σ H, i ≤ xs.length → Pv i σ H → SqL K H a xs)
    (hs : ∀ i x t σ H H', xs[i]? = some x → Pv i σ H → Same H H' → H' t = some (.tup [.int (i : Nat), x]) → g (.ref t) σ H' fun σ2 H2 => tb { D with nx := Pv (i + 1), ct := Pv (i + 1), bk := D.nx } σ2 H2) (hd : ∀ σ H, Pv xs.length σ H → D.nx σ H) : FW g tb D (Ite K a) σ H := by
  refine ⟨fun i m σ H => m = xs.length - i ∧ i ≤ xs.length ∧ Pv i σ H, ⟨_, rfl, Nat.zero_le _, h0⟩, ?_⟩
  rintro i m σ H ⟨rfl, hi, p⟩
  have q := hl i σ H hi p
  rcases Nat.lt_or_ge i xs.length with lt | ge
  · refine .inr ⟨⟨xs, xs[i], q, List.getElem?_eq_getElem lt⟩, Pv (i + 1), fun σ' H' p' => ⟨xs.length - (i + 1), by omega, rfl, lt, p'⟩, fun v H' y => ?_⟩
    obtain ⟨t, x, rfl, nt, rfl, at_⟩ := y
    exact hs i x t σ H _ (at_ xs q) p (same_new nt) upd_same
  · have e : i = xs.length := Nat.le_antisymm hi ge
    subst e
    exact .inl ⟨⟨xs, q, Nat.le_refl _⟩, hd σ H p⟩
theorem g_split {a b : Str} (hb : (b.length == 0) = false) (hl : a.length + 2 ≤ sizeLine) (k : ∀ p H', H p = none → Same H H' → H' p = some (.lst ((Txt.split a b).map V.str)) → Q (.ref p) H') :
    (∃ x y, V.str a = .str x ∧ [V.str b] = [.str y] ∧ (y.length == 0) = false ∧ x.length + 2 ≤ sizeLine ∧ rNewStrs (Txt.split x y) H Q) := ⟨a, b, rfl, rfl, hb, hl, fun p hp => k p _ hp (same_new hp) upd_same⟩
theorem g_join {s : Str} {p : Addr} {ys : List Str} (h : SqL K H p (ys.map V.str)) (hl : (ys.map (·.length)).sum + ys.length * s.length ≤ 16777216) (q : Q (.str (Txt.join s ys)) H) :
    (∃ a p', ∃ ys : List Str, V.str s = .str a ∧ [V.ref p] = [.ref p'] ∧ (SqL K H p' (ys.map V.str) ∨ SqT K H p' (ys.map V.str)) ∧ (ys.map (·.length)).sum + ys.length * a.length ≤ 16777216 ∧ Q (.str (Txt.join a ys)) H) := ⟨s, p, ys, rfl, rfl, .inl h, hl, q⟩
end
end Gx

/-! in by an own __contains__; while; dict comprehensions; comprehensions over ints -/
namespace Gx
open PySem L2 PySem.Spec PyProof.Rows
open C8 (Cal Met Mak)
section
variable {X : Cx} {k j : Nat} {C : Addr} {sp : Sp}
/-- y in o, o of the class at C with its own __contains__ -/
def rOwn (C : Addr) (sp : Sp) (neg : Bool) : R2 := fun y x H Q => ∃ a dx fs, x = .ref a ∧ H a = some (.ins C dx fs) ∧ sp [.ref a, y] H (fun r H' => ∃ b, r = .bl b ∧ Q (.bl (if neg = true then !b else b)) H') (fun _ _ _ => False)
theorem own_run {f : Addr} {fd : FuncData} {ps : List Str} {pins : List (Addr × Obj)} {σ : L2.St} {H : Hp} {s : Shared} {vs : List V} {us : List Value} {Q : VK} (F : FnOk X.prog X.w X.K X.mg X.base CX0 k f fd ps sp) (hr : Room k X.A) (hb : Binds X.K fd ps [])
    (I : Inv X pins σ H s) (r : Vals vs us) (h : sp vs H Q (fun _ _ _ => False)) : wpAny (model X.prog X.w) X.A (call (.ref f) us) (EP X pins σ Q) X.xe s := by
  have hl := F.len _ _ _ _ h
  refine wpAny_call (codeAny_mono (F.run X.A X.stack s H ⟨us, []⟩ us vs Q (fun _ _ _ => False) hr I.env0 (by
    have := hb s us I.kIn (by rw [List.append_nil, ← r.length]; exact hl)
    simpa using this) r h) fun r s' hq => ?_)
  cases r with
  | error e => exact hq.elim
  | ok fl =>
    cases fl with
    | ret w => exact I.after hq
    | next => exact False.elim hq
    | brk => exact False.elim hq
    | cont => exact False.elim hq
theorem op_ownIn (c : Met X.prog X.w X.K X.mg X.base k C "__contains__" sp []) (hr : Room j X.A) (hk : k ≤ j) : OpR X (compareOp .In) (rOwn C sp false) := by
  intro pins s σ H y x v u Q I ry rx h
  obtain ⟨a, dx, fs, rfl, ha, q⟩ := h
  cases rx
  obtain ⟨f, fd, ps, ds, hc, hm, F, hb, hd⟩ := c.ex
  cases hd
  obtain ⟨mA, J, _⟩ := ins_get I.hok ha
  obtain ⟨od, J, _⟩ := J.look
  obtain ⟨m, hF⟩ := I.fr
  refine PySem.W.in_K hF I.ok.mod.kin J hm.at_ hm.fn (wpAny_mono (own_run (vs := [.ref a, y]) F (hr.mono hk) hb I (.cons rfl (.cons ry .nil)) q) (fun z s' hz => ?_) fun _ _ e => e)
  obtain ⟨r, H', I', rz, b, rfl, q'⟩ := hz
  cases rz
  exact wpAny_truthy_bool ⟨.bl b, H', I', rfl, q'⟩
theorem op_ownNotIn (c : Met X.prog X.w X.K X.mg X.base k C "__contains__" sp []) (hr : Room j X.A) (hk : k ≤ j) : OpR X (compareOp .NotIn) (rOwn C sp true) := by
  intro pins s σ H y x v u Q I ry rx h
  obtain ⟨a, dx, fs, rfl, ha, q⟩ := h
  cases rx
  obtain ⟨f, fd, ps, ds, hc, hm, F, hb, hd⟩ := c.ex
  cases hd
  obtain ⟨mA, J, _⟩ := ins_get I.hok ha
  obtain ⟨od, J, _⟩ := J.look
  obtain ⟨m, hF⟩ := I.fr
  refine PySem.W.notIn_K hF I.ok.mod.kin J hm.at_ hm.fn (wpAny_mono (own_run (vs := [.ref a, y]) F (hr.mono hk) hb I (.cons rfl (.cons ry .nil)) q) (fun z s' hz => ?_) fun _ _ e => e)
  obtain ⟨r, H', I', rz, b, rfl, q'⟩ := hz
  cases rz
  exact wpAny_truthy_bool ⟨.bl (!b), H', I', rfl, q'⟩
end
section
variable {σ : L2.St} {H H1 : Hp} {Q : VK} {K : PySem.W.Frag} {te tl tk tv : TE} {tt : TT} {g : TG} {vs : List Nat} {J : It} {n j : Nat} {D : Ends} {tb : TS}
theorem g_own {C a dx : Addr} {fs : List (Str × V)} {sp : Sp} {y : V} (h : H a = some (.ins C dx fs)) (q : sp [.ref a, y] H (fun r H' => ∃ b, r = .bl b ∧ Q (.bl (if false = true then !b else b)) H') (fun _ _ _ => False)) : rOwn C sp false y (.ref a) H Q := ⟨a, dx, fs, rfl, h, q⟩
/-- while, by a word and a measure of the state -/
theorem g_while (Pv : Nat → L2.St → Hp → Prop) (m0 : Nat) (h0 : Pv m0 σ H) (hs : ∀ m σ H, Pv m σ H → tt σ H fun b H1 => if b = true then ∃ N : L2.St → Hp → Prop, (∀ σ' H', N σ' H' → ∃ m', m' < m ∧ Pv m' σ' H') ∧ tb { D with nx := N, ct := N, bk := D.nx } σ H1 else D.nx σ H1) : tWhile tt tb D σ H := ⟨Pv, ⟨m0, h0⟩, hs⟩
theorem g_turn (Pv : Nat → L2.St → Hp → Prop) {m : Nat} (q : tb { D with nx := fun σ' H' => ∃ m', m' < m ∧ Pv m' σ' H', ct := fun σ' H' => ∃ m', m' < m ∧ Pv m' σ' H', bk := D.nx } σ H) : ∃ N : L2.St → Hp → Prop, (∀ σ' H', N σ' H' → ∃ m', m' < m ∧ Pv m' σ' H') ∧ tb { D with nx := N, ct := N, bk := D.nx } σ H := ⟨_, fun _ _ h => h, q⟩
/-! ### membership in a dict -/
/-- the turns of a dict comprehension, its source known -/
def DC (g : TG) (tt : TT) (tk tv : TE) (vs : List Nat) (J : It) (σ : L2.St) (H1 : Hp) (Q : VK) : Prop := ∀ D, H1 D = none → ∃ W : Nat → Nat → Hp → Prop, (∃ m, W 0 m (upd H1 D (.dK []))) ∧ ∀ i m H, W i m H →
  (J.stop i H ∧ Q (.ref D) H) ∨ (J.go i H ∧ ∃ Nx : Hp → Prop, (∀ H', Nx H' → ∃ m', m' < m ∧ W (i + 1) m' H') ∧ ∀ x H', J.yld i H x H' → g x (wipe σ vs) H' fun σ2 H2 => wipe σ2 vs = wipe σ vs ∧ tt σ2 H2 fun b H3 =>
    if b = true then tk σ2 H3 fun y H4 => tv σ2 H4 fun z H5 => ∃ kvs k, y = kV k ∧ H5 D = some (.dK kvs) ∧ kvs.length < sizeLine ∧ Nx (upd H5 D (.dK (putK kvs k z))) else Nx H3)
theorem g_dc {wi : TI} (q : wi σ H fun J H1 => DC g tt tk tv vs J σ H1 Q) : tDc wi g tt tk tv vs σ H Q := q
/-- a dict whose keys are some ints -/
def KeysI (H : Hp) (a : Addr) (ns : List Int) : Prop := ∃ kvs : List (Key × V), H a = some (.dK kvs) ∧ ∀ k : Int, (valV kvs (.inl k)).isSome = decide (k ∈ ns)
theorem KeysI.same {H H' : Hp} {a : Addr} {ns : List Int} (h : KeysI H a ns) (s : Same H H') : KeysI H' a ns := by
  obtain ⟨kvs, e, m⟩ := h
  exact ⟨kvs, s _ _ e, m⟩
theorem dc_ints {a : Addr} {ns : List Int} (h : SqL K H1 a (ns.map V.int)) (hn : ns.length ≤ 100000)
    (turn : ∀ (m : Int) H' (Nx : V → V → Hp → Prop), m ∈ ns → Same H1 H' → (∀ z H4, Same H' H4 → Nx (.int m) z H4) → g (.int m) (wipe σ vs) H' fun σ2 H2 => wipe σ2 vs = wipe σ vs ∧ tk σ2 H2 fun y H3 => tv σ2 H3 fun z H4 => Nx y z H4)
    (done : ∀ D H', H1 D = none → Same H1 H' → KeysI H' D ns → Q (.ref D) H') : DC g tYes tk tv vs (Itl K a) σ H1 Q := by
  intro D hD
  refine ⟨fun i m H => m = ns.length - i ∧ i ≤ ns.length ∧ ∃ kvs : List (Key × V), Same H1 H ∧ H D = some (.dK kvs) ∧ kvs.length ≤ i ∧ ∀ k : Int, (valV kvs (.inl k)).isSome = decide (k ∈ ns.take i), ⟨ns.length, rfl, Nat.zero_le _, [], same_new hD, upd_same, Nat.le_refl _, fun k => rfl⟩, ?_⟩
  rintro i m H ⟨rfl, hi, kvs, s, e, hl, mem⟩
  rcases Nat.lt_or_ge i ns.length with lt | ge
  · right
    have lt' : i < (ns.map V.int).length := by rw [List.length_map]; exact lt
    obtain ⟨go, yl⟩ := (src_list h i H s).1 lt'
    refine ⟨go, fun H' => i + 1 ≤ ns.length ∧ ∃ kvs : List (Key × V), Same H1 H' ∧ H' D = some (.dK kvs) ∧ kvs.length ≤ i + 1 ∧ ∀ k : Int, (valV kvs (.inl k)).isSome = decide (k ∈ ns.take (i + 1)), fun H' ⟨l1, q⟩ => ⟨ns.length - (i + 1), by omega, rfl, l1, q⟩, fun x H' y => ?_⟩
    obtain ⟨s2, it⟩ := yl x H' y
    have s12 := s.trans s2
    obtain ⟨n, hn', rfl⟩ := ints_at it
    have t := turn n H' (fun y z H5 => ∃ kvs k, y = kV k ∧ H5 D = some (.dK kvs) ∧ kvs.length < sizeLine ∧ (i + 1 ≤ ns.length ∧ ∃ kvs' : List (Key × V), Same H1 (upd H5 D (.dK (putK kvs k z))) ∧ upd H5 D (.dK (putK kvs k z)) D = some (.dK kvs') ∧ kvs'.length ≤ i + 1 ∧ ∀ k : Int, (valV kvs' (.inl k)).isSome = decide (k ∈ ns.take (i + 1)))) (List.mem_of_getElem? hn') s12 fun z H4 s4 => ?_
    · exact t
    · refine ⟨kvs, .inl n, rfl, s4 _ _ (s2 _ _ e), big_lt (by omega), lt, _, same_mut (s12.trans s4) hD, upd_same, Nat.le_trans (length_putK _ _ _) (Nat.succ_le_succ hl), fun k => ?_⟩
      have tk : ns.take (i + 1) = ns.take i ++ [n] := by
        rw [List.take_succ, hn']
        rfl
      rw [valV_put, tk]
      by_cases c : k = n
      · subst c
        rw [if_pos rfl]
        simp
      · rw [if_neg (fun z => c (Sum.inl.inj z)), mem k]
        simp [c]
  · left
    have e0 : i = ns.length := Nat.le_antisymm hi ge
    subst e0
    rw [List.take_length] at mem
    exact ⟨(src_list h _ H s).2 (by rw [List.length_map]; exact Nat.le_refl _), done D H hD s ⟨kvs, e, mem⟩⟩
def rDIn2 (neg : Bool) : R2 := fun y x H Q => ∃ a o, x = .ref a ∧ DGet H a y o ∧ Q (.bl (if neg = true then !o.isSome else o.isSome)) H
theorem op_dictIn {X : Cx} (hu : X.A.units + 64 < cLine) : OpR X (compareOp .In) (rDIn2 false) := by
  intro pins s σ H y x v u Q I ry rx h
  obtain ⟨a, ov, rfl, g, q⟩ := h
  cases rx
  exact d_in (by omega) I g ry fun s3 I3 => ⟨.bl ov.isSome, H, I3, rfl, q⟩
theorem op_dictNotIn {X : Cx} (hu : X.A.units + 64 < cLine) : OpR X (compareOp .NotIn) (rDIn2 true) := by
  intro pins s σ H y x v u Q I ry rx h
  obtain ⟨a, ov, rfl, g, q⟩ := h
  cases rx
  exact d_notIn (by omega) I g ry fun s3 I3 => ⟨.bl (!ov.isSome), H, I3, rfl, q⟩
theorem g_keyNot {a : Addr} {ns : List Int} {n : Int} (h : KeysI H a ns) (q : Q (.bl (!decide (n ∈ ns))) H) : rDIn2 true (.int n) (.ref a) H Q := by
  obtain ⟨kvs, e, m⟩ := h
  exact ⟨a, _, rfl, DGet.k (k := .inl n) e, by rw [if_pos rfl, m]; exact q⟩
theorem g_keyIn {a : Addr} {ns : List Int} {n : Int} (h : KeysI H a ns) (q : Q (.bl (decide (n ∈ ns))) H) : rDIn2 false (.int n) (.ref a) H Q := by
  obtain ⟨kvs, e, m⟩ := h
  exact ⟨a, _, rfl, DGet.k (k := .inl n) e, by rw [if_neg (by decide), m]; exact q⟩
/-! ### comprehensions over ints -/
/-- a test that each int answers -/
theorem lc_filtI {a : Addr} {ns : List Int} (h : SqL K H1 a (ns.map V.int)) (hn : ns.length ≤ 100000) (d : Int → Bool)
    (turn : ∀ (m : Int) H' (Nx : V → Hp → Prop) (No : Hp → Prop), m ∈ ns → Same H1 H' → (∀ H4, Same H' H4 → d m = true → Nx (.int m) H4) → (∀ H4, Same H' H4 → d m = false → No H4) →
      g (.int m) (wipe σ vs) H' fun σ2 H2 => wipe σ2 vs = wipe σ vs ∧ tt σ2 H2 fun b H3 => if b = true then te σ2 H3 Nx else No H3)
    (done : ∀ D H', H1 D = none → Same H1 H' → H' D = some (.lst ((ns.filter d).map V.int)) → Q (.ref D) H') : LC g tt te vs (Itl K a) σ H1 Q := by
  have e0 : ns.length = (ns.map V.int).length := (List.length_map _).symm
  refine lc_src (n := ns.length) (by rw [e0]; exact src_list h) hn (fun i acc _ => acc = ((ns.take i).filter d).map V.int) (fun _ _ _ _ _ _ _ _ _ _ a => a) (fun _ _ => rfl) (fun i x acc H' Nx No lt s it a hl k1 k2 => ?_) fun D acc H' h1 s e a _ => done D H' h1 s (by rw [e, a, List.take_length])
  obtain ⟨m, hm, rfl⟩ := ints_at it
  have tk : ns.take (i + 1) = ns.take i ++ [m] := by
    rw [List.take_succ, hm]
    rfl
  refine turn m H' Nx No (List.mem_of_getElem? hm) s (fun H4 s4 h => k1 _ H4 s4 ?_) (fun H4 s4 h => k2 H4 s4 ?_)
  · rw [tk, List.filter_append, List.map_append, a]
    simp [h]
  · rw [tk, List.filter_append, List.map_append, a]
    simp [h]
/-- a test whose answer is not known: some of them, in their sequence -/
theorem lc_someI {a : Addr} {ns : List Int} (h : SqL K H1 a (ns.map V.int)) (hn : ns.length ≤ 100000)
    (turn : ∀ (m : Int) H' (Nx : V → Hp → Prop) (No : Hp → Prop), m ∈ ns → Same H1 H' → (∀ H4, Same H' H4 → Nx (.int m) H4) → (∀ H4, Same H' H4 → No H4) →
      g (.int m) (wipe σ vs) H' fun σ2 H2 => wipe σ2 vs = wipe σ vs ∧ tt σ2 H2 fun b H3 => if b = true then te σ2 H3 Nx else No H3)
    (done : ∀ D (ys : List Int) H', H1 D = none → Same H1 H' → H' D = some (.lst (ys.map V.int)) → ys.Sublist ns → Q (.ref D) H') : LC g tt te vs (Itl K a) σ H1 Q := by
  have e0 : ns.length = (ns.map V.int).length := (List.length_map _).symm
  refine lc_src (n := ns.length) (by rw [e0]; exact src_list h) hn (fun i acc _ => ∃ ys : List Int, acc = ys.map V.int ∧ ys.Sublist (ns.take i)) (fun _ _ _ _ _ _ _ _ _ _ a => a) (fun _ _ => ⟨[], rfl, List.nil_sublist _⟩) (fun i x acc H' Nx No lt s it a hl k1 k2 => ?_) fun D acc H' h1 s e a _ => ?_
  · obtain ⟨m, hm, rfl⟩ := ints_at it
    obtain ⟨ys, rfl, sub⟩ := a
    have tk : ns.take (i + 1) = ns.take i ++ [m] := by
      rw [List.take_succ, hm]
      rfl
    refine turn m H' Nx No (List.mem_of_getElem? hm) s (fun H4 s4 => k1 _ H4 s4 ⟨ys ++ [m], by rw [List.map_append]; rfl, ?_⟩) (fun H4 s4 => k2 H4 s4 ⟨ys, rfl, ?_⟩)
    · rw [tk]
      exact sub.append (List.Sublist.refl _)
    · rw [tk]
      exact sub.trans (List.sublist_append_left _ _)
  · obtain ⟨ys, rfl, sub⟩ := a
    rw [List.take_length] at sub
    exact done D ys H' h1 s e sub
end
/-! ### keywords in another sequence -/
def rotV : List V → List V → List V
  | [], [z, b, a, c] => [a, b, c, z]
  | _, _ => []
def rotU : List Value → List Value → List Value
  | [], [z, b, a, c] => [a, b, c, z]
  | _, _ => []
theorem rot_rel {vs : List V} {us : List Value} {zs : List V} {ws : List Value} (r : Vals vs us) (rz : Vals zs ws) : Vals (rotV vs zs) (rotU us ws) := by
  cases r with
  | cons _ _ => exact .nil
  | nil =>
    cases rz with
    | nil => exact .nil
    | cons z1 rz =>
      cases rz with
      | nil => exact .nil
      | cons z2 rz =>
        cases rz with
        | nil => exact .nil
        | cons z3 rz =>
          cases rz with
          | nil => exact .nil
          | cons z4 rz =>
            cases rz with
            | nil => exact .cons z3 (.cons z2 (.cons z4 (.cons z1 .nil)))
            | cons _ _ => exact .nil
theorem kbinds_rot {K : PySem.W.Frag} {fd : FuncData} {k1 k2 k3 k4 : Str} (h : ∀ z b a c : Value, bindArgs fd ⟨[], [(k4, z), (k2, b), (k1, a), (k3, c)]⟩ = pure [(k1, a), (k2, b), (k3, c), (k4, z)]) : KBinds K fd [k1, k2, k3, k4] [k4, k2, k1, k3] rotU rotV := by
  refine ⟨fun st us ws _ hl => ?_, rot_rel⟩
  match us, ws, hl with
  | [], [z, b, a, c], _ => exact .of_eq (h z b a c)
  | [], [], hl => simp [rotU] at hl
  | [], [_], hl => simp [rotU] at hl
  | [], [_, _], hl => simp [rotU] at hl
  | [], [_, _, _], hl => simp [rotU] at hl
  | [], _ :: _ :: _ :: _ :: _ :: _, hl => simp [rotU] at hl
  | _ :: _, _, hl => simp [rotU] at hl
end Gx

/-! How far a read reaches, as plain functions; what is found by steps and by the nearest points is the same -/
namespace Gx
open PySem L2
def leftOf (ns : List Int) (lo : Int) : Option Int := if lo ∈ ns then some lo else (ns.filter fun n => decide (n < lo)).getLast?
def rightOf (ns : List Int) (hi : Int) : Option Int := if hi ∈ ns then some hi else (ns.filter fun n => decide (hi < n)).head?
def keptOf (ns ss : List Int) : List Int := ns.filter fun n => !decide (n ∈ ss)
def leftOk (l : Option Int) (hl : Bool) (x : Int) : Bool := match l with | none => true | some a => !(decide (x < a) || (decide (x = a) && !hl))
def rightOk (r : Option Int) (hr : Bool) (x : Int) : Bool := match r with | none => true | some b => decide (x < b) || (decide (x = b) && hr)
def heldB (l r : Option Int) (hl hr : Bool) (x : Int) : Bool := leftOk l hl x && rightOk r hr x
def reachV (ns ss : List Int) (lo hi : Int) : List V := [oV (leftOf (keptOf ns ss) lo), oV (rightOf (keptOf ns ss) hi), .bl (decide (lo ∈ keptOf ns ss)), .bl (decide (hi ∈ keptOf ns ss))]
def tupD (l r : Option Int) (hl hr : Bool) : PyData := .tuple [oD l, oD r, .bool hl, .bool hr]
def reachD (ns ss : List Int) (lo hi : Int) : PyData := tupD (leftOf (keptOf ns ss) lo) (rightOf (keptOf ns ss) hi) (decide (lo ∈ keptOf ns ss)) (decide (hi ∈ keptOf ns ss))
theorem kept_up {ns : List Int} (ss : List Int) (h : ns.Pairwise (· < ·)) : (keptOf ns ss).Pairwise (· < ·) := h.sublist List.filter_sublist
theorem kept_sub {ns ss : List Int} {n : Int} (h : n ∈ keptOf ns ss) : n ∈ ns := (List.mem_filter.mp h).1
theorem kept_len (ns ss : List Int) : (keptOf ns ss).length ≤ ns.length := List.length_filter_le _ _
/-- the greatest of ascending numbers is the last -/
theorem last_most : ∀ {l : List Int} {z : Int}, l.Pairwise (· < ·) → l.getLast? = some z → ∀ y ∈ l, y ≤ z
  | [], _, _, h, _, _ => by cases h
  | [a], z, _, h, y, hy => by
    rw [List.mem_singleton.mp hy]
    have : a = z := by simpa using h
    omega
  | a :: b :: r, z, p, h, y, hy => by
    have h2 : (b :: r).getLast? = some z := by rw [List.getLast?_cons_cons] at h; exact h
    have ih := last_most (List.pairwise_cons.mp p).2 h2
    rcases List.mem_cons.mp hy with rfl | hy
    · have := (List.pairwise_cons.mp p).1 b (List.mem_cons_self ..)
      have := ih b (List.mem_cons_self ..)
      omega
    · exact ih y hy
theorem head_least {l : List Int} {z : Int} (p : l.Pairwise (· < ·)) (h : l.head? = some z) : ∀ y ∈ l, z ≤ y := by
  intro y hy
  cases l with
  | nil => cases h
  | cons a r =>
    have e : a = z := by simpa using h
    rcases List.mem_cons.mp hy with rfl | hy
    · omega
    · have := (List.pairwise_cons.mp p).1 y hy
      omega
theorem last_filter {ns : List Int} (p : ns.Pairwise (· < ·)) {c : Int → Bool} {x : Int} (hx : x ∈ ns) (hc : c x = true) (most : ∀ y ∈ ns, c y = true → y ≤ x) : (ns.filter c).getLast? = some x := by
  have hm : x ∈ ns.filter c := List.mem_filter.mpr ⟨hx, hc⟩
  cases e : (ns.filter c).getLast? with
  | none =>
    rw [List.getLast?_eq_none_iff.mp e] at hm
    cases hm
  | some z =>
    have h1 := last_most (p.sublist List.filter_sublist) e x hm
    obtain ⟨hz, cz⟩ := List.mem_filter.mp (List.mem_of_getLast? e)
    have h2 := most z hz cz
    rw [show z = x by omega]
theorem head_filter {ns : List Int} (p : ns.Pairwise (· < ·)) {c : Int → Bool} {x : Int} (hx : x ∈ ns) (hc : c x = true) (least : ∀ y ∈ ns, c y = true → x ≤ y) : (ns.filter c).head? = some x := by
  have hm : x ∈ ns.filter c := List.mem_filter.mpr ⟨hx, hc⟩
  cases e : (ns.filter c).head? with
  | none =>
    rw [List.head?_eq_none_iff.mp e] at hm
    cases hm
  | some z =>
    have h1 := head_least (p.sublist List.filter_sublist) e x hm
    obtain ⟨hz, cz⟩ := List.mem_filter.mp (List.mem_of_head? e)
    have h2 := least z hz cz
    rw [show z = x by omega]
theorem filter_no {ns : List Int} {c : Int → Bool} (h : ∀ n ∈ ns, c n = false) : ns.filter c = [] := List.filter_eq_nil_iff.mpr fun n hn => by rw [h n hn]; exact Bool.false_ne_true
/-- what is found by steps of one number -/
def StepP (rows : List Int) (b by_ : Int) (o : Option Int) (z : Bool) : Prop :=
  (∃ t : Nat, t < 40 ∧ o = some (b + by_ * (t : Int)) ∧ b + by_ * (t : Int) ∈ rows ∧ (∀ s : Nat, s < t → ¬ b + by_ * (s : Int) ∈ rows) ∧ z = decide (t = 0)) ∨ (o = none ∧ z = false ∧ ∀ s : Nat, s < 40 → ¬ b + by_ * (s : Int) ∈ rows)
theorem step_left {ns : List Int} (p : ns.Pairwise (· < ·)) (hb : ∀ n ∈ ns, -12 ≤ n ∧ n ≤ 12) {lo : Int} (h1 : -13 ≤ lo) (h2 : lo ≤ 13) {o : Option Int} {z : Bool} (h : StepP ns lo (-1) o z) : o = leftOf ns lo ∧ z = decide (lo ∈ ns) := by
  unfold leftOf
  rcases h with ⟨t, lt, rfl, ht, nt, rfl⟩ | ⟨rfl, rfl, no⟩
  · cases t with
    | zero =>
      have e : lo + -1 * ((0 : Nat) : Int) = lo := by omega
      rw [e] at ht ⊢
      rw [if_pos ht]
      exact ⟨rfl, by simp [ht]⟩
    | succ t =>
      have n0 : ¬ lo ∈ ns := by
        have := nt 0 (by omega)
        rwa [show lo + -1 * ((0 : Nat) : Int) = lo by omega] at this
      rw [if_neg n0]
      refine ⟨(last_filter p ht (decide_eq_true (by omega)) fun y hy cy => ?_).symm, by simp [n0]⟩
      have c := of_decide_eq_true cy
      rcases Int.lt_or_le (lo + -1 * ((t + 1 : Nat) : Int)) y with l | l
      · have := nt (lo - y).toNat (by omega)
        rw [show lo + -1 * (((lo - y).toNat : Nat) : Int) = y by omega] at this
        exact absurd hy this
      · exact l
  · have n0 : ¬ lo ∈ ns := by
      have := no 0 (by omega)
      rwa [show lo + -1 * ((0 : Nat) : Int) = lo by omega] at this
    rw [if_neg n0, filter_no fun n hn => decide_eq_false fun c => ?_]
    · exact ⟨rfl, by simp [n0]⟩
    · have hn' := hb n hn
      have := no (lo - n).toNat (by omega)
      rw [show lo + -1 * (((lo - n).toNat : Nat) : Int) = n by omega] at this
      exact this hn
theorem step_right {ns : List Int} (p : ns.Pairwise (· < ·)) (hb : ∀ n ∈ ns, -12 ≤ n ∧ n ≤ 12) {hi : Int} (h1 : -13 ≤ hi) (h2 : hi ≤ 13) {o : Option Int} {z : Bool} (h : StepP ns hi 1 o z) : o = rightOf ns hi ∧ z = decide (hi ∈ ns) := by
  unfold rightOf
  rcases h with ⟨t, lt, rfl, ht, nt, rfl⟩ | ⟨rfl, rfl, no⟩
  · cases t with
    | zero =>
      have e : hi + 1 * ((0 : Nat) : Int) = hi := by omega
      rw [e] at ht ⊢
      rw [if_pos ht]
      exact ⟨rfl, by simp [ht]⟩
    | succ t =>
      have n0 : ¬ hi ∈ ns := by
        have := nt 0 (by omega)
        rwa [show hi + 1 * ((0 : Nat) : Int) = hi by omega] at this
      rw [if_neg n0]
      refine ⟨(head_filter p ht (decide_eq_true (by omega)) fun y hy cy => ?_).symm, by simp [n0]⟩
      have c := of_decide_eq_true cy
      rcases Int.lt_or_le y (hi + 1 * ((t + 1 : Nat) : Int)) with l | l
      · have := nt (y - hi).toNat (by omega)
        rw [show hi + 1 * (((y - hi).toNat : Nat) : Int) = y by omega] at this
        exact absurd hy this
      · exact l
  · have n0 : ¬ hi ∈ ns := by
      have := no 0 (by omega)
      rwa [show hi + 1 * ((0 : Nat) : Int) = hi by omega] at this
    rw [if_neg n0, filter_no fun n hn => decide_eq_false fun c => ?_]
    · exact ⟨rfl, by simp [n0]⟩
    · have hn' := hb n hn
      have := no (n - hi).toNat (by omega)
      rw [show hi + 1 * (((n - hi).toNat : Nat) : Int) = n by omega] at this
      exact this hn
/-- the nearest points, itself among them -/
def lessOf (ns : List Int) (lo : Int) : List Int := ns.filter fun n => decide (n ≤ lo)
def moreOf (ns : List Int) (hi : Int) : List Int := ns.filter fun n => decide (hi ≤ n)
theorem near_left {ns : List Int} (p : ns.Pairwise (· < ·)) (lo : Int) : (lessOf ns lo).getLast? = leftOf ns lo ∧ (decide (oV (lessOf ns lo).getLast? = V.int lo) && decide (lessOf ns lo ≠ [])) = decide (lo ∈ ns) := by
  unfold leftOf lessOf
  by_cases h : lo ∈ ns
  · have e := last_filter (c := fun n => decide (n ≤ lo)) p h (decide_eq_true (Int.le_refl lo)) fun y _ c => of_decide_eq_true c
    rw [if_pos h, e]
    refine ⟨rfl, ?_⟩
    have ne : ns.filter (fun n => decide (n ≤ lo)) ≠ [] := fun z => by rw [z] at e; cases e
    simp [h, oV, ne]
  · have e : (ns.filter fun n => decide (n ≤ lo)) = ns.filter fun n => decide (n < lo) := List.filter_congr fun n hn => by
      have : n ≠ lo := fun z => h (z ▸ hn)
      exact decide_eq_decide.mpr ⟨fun _ => by omega, fun _ => by omega⟩
    rw [if_neg h, e]
    refine ⟨rfl, ?_⟩
    rw [decide_eq_false h]
    cases q : (ns.filter fun n => decide (n < lo)).getLast? with
    | none => rfl
    | some z =>
      have hz := (List.mem_filter.mp (List.mem_of_getLast? q)).2
      have hz := of_decide_eq_true hz
      have : ¬ oV (some z) = V.int lo := fun e => by
        have e : V.int z = V.int lo := e
        injection e with e
        omega
      rw [decide_eq_false this]
      rfl
theorem near_right {ns : List Int} (p : ns.Pairwise (· < ·)) (hi : Int) : (moreOf ns hi).head? = rightOf ns hi ∧ (decide (oV (moreOf ns hi).head? = V.int hi) && decide (moreOf ns hi ≠ [])) = decide (hi ∈ ns) := by
  unfold rightOf moreOf
  by_cases h : hi ∈ ns
  · have e := head_filter (c := fun n => decide (hi ≤ n)) p h (decide_eq_true (Int.le_refl hi)) fun y _ c => of_decide_eq_true c
    rw [if_pos h, e]
    refine ⟨rfl, ?_⟩
    have ne : ns.filter (fun n => decide (hi ≤ n)) ≠ [] := fun z => by rw [z] at e; cases e
    simp [h, oV, ne]
  · have e : (ns.filter fun n => decide (hi ≤ n)) = ns.filter fun n => decide (hi < n) := List.filter_congr fun n hn => by
      have : n ≠ hi := fun z => h (z ▸ hn)
      exact decide_eq_decide.mpr ⟨fun _ => by omega, fun _ => by omega⟩
    rw [if_neg h, e]
    refine ⟨rfl, ?_⟩
    rw [decide_eq_false h]
    cases q : (ns.filter fun n => decide (hi < n)).head? with
    | none => rfl
    | some z =>
      have hz := (List.mem_filter.mp (List.mem_of_head? q)).2
      have hz := of_decide_eq_true hz
      have : ¬ oV (some z) = V.int hi := fun e => by
        have e : V.int z = V.int hi := e
        injection e with e
        omega
      rw [decide_eq_false this]
      rfl
/-- how many of ascending numbers are less: a halving search -/
def lessN (ns : List Int) (x : Int) : Nat := (ns.filter fun n => decide (n < x)).length
theorem lessN_at {x : Int} : ∀ {ns : List Int} {k : Nat}, ns.Pairwise (· < ·) → k ≤ ns.length → (∀ i n, i < k → ns[i]? = some n → n < x) → (∀ i n, k ≤ i → ns[i]? = some n → x ≤ n) → lessN ns x = k
  | ns, 0, _, _, _, b => by
    unfold lessN
    rw [filter_no fun n hn => decide_eq_false fun c => ?_]
    · rfl
    · obtain ⟨i, hi⟩ := List.getElem?_of_mem hn
      have := b i n (Nat.zero_le _) hi
      omega
  | [], k + 1, _, h, _, _ => by simp at h
  | n :: ns, k + 1, p, h, a, b => by
    have hn : n < x := a 0 n (by omega) rfl
    have ih := lessN_at (ns := ns) (k := k) (x := x) (List.pairwise_cons.mp p).2 (by simpa using h) (fun i m hi hm => a (i + 1) m (by omega) (by simpa using hm)) fun i m hi hm => b (i + 1) m (by omega) (by simpa using hm)
    unfold lessN at ih ⊢
    rw [List.filter_cons_of_pos (p := fun n => decide (n < x)) (decide_eq_true hn), List.length_cons, ih]
theorem less_get {x : Int} {ns : List Int} {i : Nat} {n : Int} : ns.Pairwise (· < ·) → ns[i]? = some n → (i < lessN ns x ↔ n < x) := by
  induction ns generalizing i with
  | nil => intro _ h; simp at h
  | cons m r ih =>
    intro p h
    obtain ⟨p1, p2⟩ := List.pairwise_cons.mp p
    unfold lessN at ih ⊢
    by_cases c : m < x
    · rw [List.filter_cons_of_pos (p := fun n => decide (n < x)) (decide_eq_true c), List.length_cons]
      cases i with
      | zero =>
        have : m = n := by simpa using h
        omega
      | succ i =>
        have := ih p2 (i := i) (by simpa using h)
        omega
    · rw [List.filter_cons_of_neg (p := fun n => decide (n < x)) (by rw [decide_eq_false c]; exact Bool.false_ne_true)]
      have e : r.filter (fun n => decide (n < x)) = [] := filter_no fun y hy => decide_eq_false fun z => by
        have := p1 y hy
        omega
      rw [e]
      refine ⟨fun z => by simp at z, fun z => ?_⟩
      exfalso
      cases i with
      | zero =>
        have : m = n := by simpa using h
        omega
      | succ i =>
        have hn : n ∈ r := List.mem_of_getElem? (i := i) (by simpa using h)
        have := p1 n hn
        omega
theorem lessN_le (ns : List Int) (x : Int) : lessN ns x ≤ ns.length := List.length_filter_le _ _
/-- the number stands where it would -/
theorem less_here {x : Int} {ns : List Int} (p : ns.Pairwise (· < ·)) : (match ns[lessN ns x]? with | none => false | some n => decide (n = x)) = decide (x ∈ ns) := by
  by_cases h : x ∈ ns
  · obtain ⟨i, hi⟩ := List.getElem?_of_mem h
    have lt : i < ns.length := (List.getElem?_eq_some_iff.mp hi).1
    have e : lessN ns x = i := by
      refine lessN_at p (by omega) (fun j n hj hn => ?_) fun j n hj hn => ?_
      · have lj := (List.getElem?_eq_some_iff.mp hn)
        have li := (List.getElem?_eq_some_iff.mp hi)
        have := List.pairwise_iff_getElem.mp p j i lj.1 li.1 hj
        rw [lj.2, li.2] at this
        exact this
      · have lj := (List.getElem?_eq_some_iff.mp hn)
        have li := (List.getElem?_eq_some_iff.mp hi)
        rcases Nat.lt_or_eq_of_le hj with l | l
        · have := List.pairwise_iff_getElem.mp p i j li.1 lj.1 l
          rw [lj.2, li.2] at this
          omega
        · subst l
          have : x = n := by rw [← li.2, ← lj.2]
          omega
    rw [e, hi]
    simp [h]
  · rw [decide_eq_false h]
    cases q : ns[lessN ns x]? with
    | none => rfl
    | some n =>
      exact decide_eq_false fun z => h (z ▸ List.mem_of_getElem? q)
end Gx

/-! Objects of one of several classes: methods, properties, in, defs with a promise for each class -/
namespace Gx
open PySem L2 PySem.Spec PyProof.Rows
open C8 (Cal Met Mak)
/-- a promise for each class of S -/
def spAny (S : Addr → Prop) (sp : Addr → Sp) : Sp := fun vs H Q E => ∃ C, S C ∧ sp C vs H Q E
theorem fn_any {P : Program} {w : World} {K : PySem.W.Frag} {mg : Str → Option Value} {base : Heap} {CX : CXT} {k : Nat} {f : Addr} {fd : FuncData} {ps : List Str} {S : Addr → Prop} {sp : Addr → Sp} (F : ∀ C, S C → FnOk P w K mg base CX k f fd ps (sp C)) : FnOk P w K mg base CX k f fd ps (spAny S sp) := by
  refine ⟨fun vs H Q E h => ?_, fun A outer s H args us vs Q E hr he hb hv h => ?_⟩
  · obtain ⟨C, hC, h⟩ := h
    exact (F C hC).len _ _ _ _ h
  · obtain ⟨C, hC, h⟩ := h
    exact (F C hC).run A outer s H args us vs Q E hr he hb hv h
/-- one of two classes -/
def two (CL CK : Addr) : Addr → Prop := fun C => C = CL ∨ C = CK
theorem two_all {CL CK : Addr} {P : Addr → Prop} (h1 : P CL) (h2 : P CK) : ∀ C, two CL CK C → P C := fun C h => h.elim (fun e => by rw [e]; exact h1) fun e => by rw [e]; exact h2
structure MetS (P : Program) (w : World) (K : PySem.W.Frag) (mg : Str → Option Value) (base : Heap) (k : Nat) (S : Addr → Prop) (m : Str) (sp : Sp) : Prop where
  ex : ∀ C, S C → Met P w K mg base k C m sp []
def tMethS (S : Addr → Prop) (m : Str) (sp : Sp) (ta : TE) (t : TA) : TE := fun σ H Q => ta σ H fun x H1 => ∃ a C dx fs, x = .ref a ∧ H1 a = some (.ins C dx fs) ∧ S C ∧ fs.lookup m = none ∧ t σ H1 fun vs H2 => sp (.ref a :: vs) H2 Q (fun _ _ _ => False)
section
variable {X : Cx} {k j : Nat} {S : Addr → Prop} {m f : Str} {sp : Sp} {pos apos : Pos} {e o : Expr} {es : List Expr} {ta : TE} {t : TA}
theorem pe_mtS {pl : Sem Bool} (c : MetS X.prog X.w X.K X.mg X.base k S m sp) (hr : Room j X.A) (hk : k ≤ j) (he : PE X o ta) (ha : PA X (e :: es) t)
    (hst : starEach (e :: es) X.env = (false, eval e X.env) :: starEach es X.env := by rfl) (hpl : (backTo pos (starEach es X.env)).any (·.1) = false := by rfl)
    (ht : eval (.Call (.Attribute o m apos) (e :: es) [] pos) X.env = (do
      let ov ← eval o X.env
      standAt apos.atName
      let (f, first) ← holding [ov] (getMethod ov m pl)
      callWith pos f first (backTo pos (starEach (e :: es) X.env)) (backToKw pos (keywordEach [] X.env))) := by rfl) :
    PE X (.Call (.Attribute o m apos) (e :: es) [] pos) (tMethS S m sp ta t) := by
  refine ⟨fun pins s σ H Q I h => ?_⟩
  refine PySem.W.methodCall_KW (pl := pl) (thn (he.run pins s σ H _ I h) fun u s1 ⟨x, H1, I1, rx, a, C, dx, fs, ex, ea, hC, l, q⟩ => ?_) ht
  subst ex
  obtain rfl : u = Value.ref a := rx
  obtain ⟨f, fd, ps, ds, hc, hm, F, b, d⟩ := (c.ex C hC).ex
  cases d
  refine getmeth_ok I1 ea hc hm l ?_
  refine PySem.W.callWith_K (first := [.ref a]) (h₀ := X.base) I.ok.mod.kin hm.kp (thn (ha.run pos pins s1 σ H1 _ I1 q) fun us s2 ⟨vs, H2, I2, r, q2⟩ => ⟨I2.kIn, ?_⟩) hst hpl
  exact run_fn (us := .ref a :: us) (vs := .ref a :: vs) (dvs := []) F (hr.mono hk) b .nil pass0 I2 (.cons rfl r) (by rw [List.append_nil]; exact q2)
theorem pe_mt0S {pl : Sem Bool} (c : MetS X.prog X.w X.K X.mg X.base k S m sp) (hr : Room j X.A) (hk : k ≤ j) (he : PE X o ta)
    (ht : eval (.Call (.Attribute o m apos) [] [] pos) X.env = (do
      let ov ← eval o X.env
      standAt apos.atName
      let (f, first) ← holding [ov] (getMethod ov m pl)
      callWith pos f first (backTo pos (starEach [] X.env)) (backToKw pos (keywordEach [] X.env))) := by rfl) :
    PE X (.Call (.Attribute o m apos) [] [] pos) (tMethS S m sp ta tNil) := by
  refine ⟨fun pins s σ H Q I h => ?_⟩
  refine PySem.W.methodCall_KW (pl := pl) (thn (he.run pins s σ H _ I h) fun u s1 ⟨x, H1, I1, rx, a, C, dx, fs, ex, ea, hC, l, q⟩ => ?_) ht
  subst ex
  obtain rfl : u = Value.ref a := rx
  obtain ⟨f, fd, ps, ds, hc, hm, F, b, d⟩ := (c.ex C hC).ex
  cases d
  refine getmeth_ok I1 ea hc hm l ?_
  exact PySem.W.callWith_K0 (first := [.ref a]) I1.kIn hm.kp (run_fn (us := [.ref a]) (vs := [.ref a]) (dvs := []) F (hr.mono hk) b .nil pass0 I1 (.cons rfl .nil) q)
/-- properties -/
structure PropS (P : Program) (w : World) (K : PySem.W.Frag) (mg : Str → Option Value) (base : Heap) (k : Nat) (S : Addr → Prop) (f : Str) (sp : Sp) : Prop where
  ex : ∀ C, S C → PropR P w K mg base k C f sp
def tPropS (S : Addr → Prop) (sp : Sp) (ta : TE) : TE := fun σ H Q => ta σ H fun x H1 => ∃ a C dx fs, x = .ref a ∧ H1 a = some (.ins C dx fs) ∧ S C ∧ sp [.ref a] H1 Q (fun _ _ _ => False)
theorem pe_prS (c : PropS X.prog X.w X.K X.mg X.base k S f sp) (hr : Room j X.A) (hk : k + 1 ≤ j) (he : PE X e ta) (hab : attributeBase e f X.env (eval e X.env) = eval e X.env := by rfl) : PE X (.Attribute e f pos) (tPropS S sp ta) := by
  refine ⟨fun pins s σ H Q I h => ?_⟩
  refine attr_of hab (thn (he.run pins s σ H _ I h) fun u s1 ⟨x, H1, I1, rx, a, C, dx, fs, ex, ea, hC, q⟩ => ?_)
  subst ex
  obtain rfl : u = Value.ref a := rx
  obtain ⟨p, g, fd, ps, cl, pr, F, b⟩ := (c.ex C hC).ex
  exact getprop_ok I1 ea cl pr F (hr.mono hk) b .nil pass0 q
/-- y in o -/
def rOwnS (S : Addr → Prop) (sp : Sp) (neg : Bool) : R2 := fun y x H Q => ∃ a C dx fs, x = .ref a ∧ H a = some (.ins C dx fs) ∧ S C ∧ sp [.ref a, y] H (fun r H' => ∃ b, r = .bl b ∧ Q (.bl (if neg = true then !b else b)) H') (fun _ _ _ => False)
theorem op_ownInS (c : MetS X.prog X.w X.K X.mg X.base k S "__contains__" sp) (hr : Room j X.A) (hk : k ≤ j) : OpR X (compareOp .In) (rOwnS S sp false) := fun pins s σ H y x v u Q I ry rx h => by
  obtain ⟨a, C, dx, fs, e, ha, hC, q⟩ := h
  exact op_ownIn (c.ex C hC) hr hk pins s σ H y x v u Q I ry rx ⟨a, dx, fs, e, ha, q⟩
theorem op_ownNotInS (c : MetS X.prog X.w X.K X.mg X.base k S "__contains__" sp) (hr : Room j X.A) (hk : k ≤ j) : OpR X (compareOp .NotIn) (rOwnS S sp true) := fun pins s σ H y x v u Q I ry rx h => by
  obtain ⟨a, C, dx, fs, e, ha, hC, q⟩ := h
  exact op_ownNotIn (c.ex C hC) hr hk pins s σ H y x v u Q I ry rx ⟨a, dx, fs, e, ha, q⟩
end
section
variable {σ : L2.St} {H : Hp} {Q : VK} {S : Addr → Prop} {m : Str} {sp : Sp} {ta : TE} {t : TA} {a C dx : Addr} {fs : List (Str × V)}
def MethSQ (S : Addr → Prop) (m : Str) (sp : Sp) (t : TA) (σ : L2.St) (x : V) (H : Hp) (Q : VK) : Prop := ∃ a C dx fs, x = .ref a ∧ H a = some (.ins C dx fs) ∧ S C ∧ fs.lookup m = none ∧ t σ H fun vs H2 => sp (.ref a :: vs) H2 Q (fun _ _ _ => False)
theorem g_tmethS (q : ta σ H fun x H1 => MethSQ S m sp t σ x H1 Q) : tMethS S m sp ta t σ H Q := q
theorem g_methS (h : H a = some (.ins C dx fs)) (hC : S C) (l : fs.lookup m = none) (q : t σ H fun vs H2 => sp (.ref a :: vs) H2 Q (fun _ _ _ => False)) : MethSQ S m sp t σ (.ref a) H Q := ⟨a, C, dx, fs, rfl, h, hC, l, q⟩
def PropSQ (S : Addr → Prop) (sp : Sp) (x : V) (H : Hp) (Q : VK) : Prop := ∃ a C dx fs, x = .ref a ∧ H a = some (.ins C dx fs) ∧ S C ∧ sp [.ref a] H Q (fun _ _ _ => False)
theorem g_tpropS (q : ta σ H fun x H1 => PropSQ S sp x H1 Q) : tPropS S sp ta σ H Q := q
theorem g_propS (h : H a = some (.ins C dx fs)) (hC : S C) (q : sp [.ref a] H Q (fun _ _ _ => False)) : PropSQ S sp (.ref a) H Q := ⟨a, C, dx, fs, rfl, h, hC, q⟩
theorem g_ownS {y : V} (h : H a = some (.ins C dx fs)) (hC : S C) (q : sp [.ref a, y] H (fun r H' => ∃ b, r = .bl b ∧ Q (.bl (if false = true then !b else b)) H') (fun _ _ _ => False)) : rOwnS S sp false y (.ref a) H Q := ⟨a, C, dx, fs, rfl, h, hC, q⟩
end
end Gx

/-! Points of two kinds: whole numbers and pairs of them; lists of such points; < of both kinds, membership in lists of data -/
namespace Gx
open PySem L2 PySem.Spec PyProof.Rows
/-- x < y, of two ints or of two tuples of ints -/
def rLt2 (K : PySem.W.Frag) : R2 := fun x y H Q => rI0 (fun i j => .bl (decide (i < j))) x y H Q ∨ rLtT K x y H Q
theorem op_lt2 {X : Cx} (hu : X.A.units < cLine) : OpR X (compareOp .Lt) (rLt2 X.K) := fun pins s σ H x y v u Q I rx ry h => by
  rcases h with h | h
  · exact op_lt pins s σ H x y v u Q I rx ry h
  · exact op_ltT hu pins s σ H x y v u Q I rx ry h
/-- membership in a list of data -/
def rInDL (K : PySem.W.Frag) (neg : Bool) : R2 := fun x y H Q => ∃ d ds, Dp K H x d ∧ Dp K H y (.list ds) ∧ SeqAt.shaped d = true ∧ SeqAt.shaped (.list ds) = true ∧ d.depth ≤ 60 ∧ Q (.bl (if neg = true then !(ds.any fun z => PyData.eqv z d) else ds.any fun z => PyData.eqv z d)) H
theorem op_inDL {X : Cx} (hu : X.A.units + 64 < cLine) : OpR X (compareOp .In) (rInDL X.K false) := by
  intro pins s σ H x y v u Q I rx ry h
  obtain ⟨d, ds, hd, he, sd, se, dd, q⟩ := h
  obtain ⟨as, r1⟩ := Dp.reads I d x v hd rx
  obtain ⟨bs, r2⟩ := Dp.reads I (.list ds) y u he ry
  exact SeqAt.in_list_reads r2 r1 (SeqAt.canLay_of_shaped se) (SeqAt.canLay_of_shaped sd) (by omega) ⟨.bl _, H, I, rfl, q⟩
theorem op_notInDL {X : Cx} (hu : X.A.units + 64 < cLine) : OpR X (compareOp .NotIn) (rInDL X.K true) := by
  intro pins s σ H x y v u Q I rx ry h
  obtain ⟨d, ds, hd, he, sd, se, dd, q⟩ := h
  obtain ⟨as, r1⟩ := Dp.reads I d x v hd rx
  obtain ⟨bs, r2⟩ := Dp.reads I (.list ds) y u he ry
  exact SeqAt.notIn_list_reads r2 r1 (SeqAt.canLay_of_shaped se) (SeqAt.canLay_of_shaped sd) (by omega) ⟨.bl _, H, I, rfl, q⟩
/-- a kind of points -/
class Kd (α : Type) where
  dec : DecidableEq α
  D : α → PyData
  lt : α → α → Bool
  inj : ∀ a b, D a = D b → a = b
  bar : ∀ a, bare (D a) = true
  lay : ∀ a, (D a).canLay0 = true
  dep : ∀ a, (D a).depth ≤ 1
  nol : ∀ a, noLst (D a) = true
  nn : ∀ a, D a ≠ PyData.none
  irr : ∀ a, lt a a = false
  tran : ∀ a b c, lt a b = true → lt b c = true → lt a c = true
  tri : ∀ a b, a ≠ b → lt a b = true ∨ lt b a = true
  less : ∀ {K : PySem.W.Frag} {H : Hp} {x y : V} {a b : α} {Q : VK}, Dp K H x (D a) → Dp K H y (D b) → Q (.bl (lt a b)) H → rLt2 K x y H Q
instance {α : Type} [k : Kd α] : DecidableEq α := k.dec
abbrev Pr := Int × Int
def prD (p : Pr) : PyData := .tuple [.int p.1, .int p.2]
def prLt (p q : Pr) : Bool := decide (p.1 < q.1 ∨ (p.1 = q.1 ∧ p.2 < q.2))
theorem pr_at {K : PySem.W.Frag} {H : Hp} {x : V} {p : Pr} (h : Dp K H x (prD p)) : ∃ r, x = .ref r ∧ SqT K H r [.int p.1, .int p.2] := by
  unfold prD at h
  cases h with
  | tup e hd =>
    cases hd with
    | cons h1 hd =>
      cases h1
      cases hd with
      | cons h2 hd =>
        cases h2
        cases hd
        exact ⟨_, rfl, e⟩
theorem pr_of {K : PySem.W.Frag} {H : Hp} {r : Addr} {p : Pr} (h : SqT K H r [.int p.1, .int p.2]) : Dp K H (.ref r) (prD p) := .tup h (.cons (.int _) (.cons (.int _) .nil))
theorem lex_pr (p q : Pr) : HT.lexLt [p.1, p.2] [q.1, q.2] = prLt p q := by
  unfold prLt
  rw [HT.lexLt_cons]
  by_cases h : p.1 = q.1
  · rw [if_pos h, HT.lexLt_cons]
    by_cases h2 : p.2 = q.2
    · rw [if_pos h2, HT.lexLt_nil_nil, decide_eq_false (by omega)]
    · rw [if_neg h2]
      exact decide_eq_decide.mpr ⟨fun z => .inr ⟨h, z⟩, fun z => by omega⟩
  · rw [if_neg h]
    exact decide_eq_decide.mpr ⟨fun z => .inl z, fun z => by omega⟩
instance : Kd Int where
  dec := inferInstance
  D := PyData.int
  lt a b := decide (a < b)
  inj a b h := by injection h
  bar a := by simp [bare]
  lay a := by simp [PyData.canLay0]
  dep a := by simp [PyData.depth]
  nol a := by simp [noLst]
  nn a := nofun
  irr a := by simp
  tran a b c h1 h2 := by simp at *; omega
  tri a b h := by simp; omega
  less h1 h2 q := by
    cases h1
    cases h2
    exact .inl (g_I0 q)
instance : Kd Pr where
  dec := inferInstance
  D := prD
  lt := prLt
  inj a b h := by
    unfold prD at h
    injection h with h
    simp only [List.cons.injEq, PyData.int.injEq] at h
    exact Prod.ext h.1 h.2.1
  bar a := by simp [prD, bare, bareAll]
  lay a := by simp [prD, PyData.canLay0, PyData.canLayAll0]
  dep a := by simp [prD, PyData.depth, PyData.depthAll]
  nol a := by simp [prD, noLst, noLstAll]
  nn a := nofun
  irr a := by simp [prLt]
  tran a b c h1 h2 := by simp [prLt] at *; omega
  tri a b h := by
    have : a.1 ≠ b.1 ∨ a.2 ≠ b.2 := by
      by_cases e : a.1 = b.1
      · exact .inr fun e2 => h (Prod.ext e e2)
      · exact .inl e
    simp [prLt]
    omega
  less h1 h2 q := by
    obtain ⟨r1, rfl, e1⟩ := pr_at h1
    obtain ⟨r2, rfl, e2⟩ := pr_at h2
    refine .inr ⟨r1, r2, [_, _], [_, _], rfl, rfl, e1, e2, ?_⟩
    rw [lex_pr]
    exact q
section
variable {α : Type} [Kd α] {K : PySem.W.Frag} {H H' : Hp} {Q : VK}
open Kd
theorem kd_eqv (a b : α) : PyData.eqv (D a) (D b) = decide (a = b) := by
  by_cases h : a = b
  · rw [decide_eq_true h, eqv_yes (bar a) (bar b) (by rw [h])]
  · rw [decide_eq_false h, eqv_no (bar a) (bar b) fun z => h (inj a b z)]
theorem kd_shape (a : α) : SeqAt.shaped (D a) = true := by
  have h := dep a
  have h2 : (D a).depth ≤ 64 := by omega
  unfold SeqAt.shaped
  rw [lay a, decide_eq_true h2] <;> rfl
theorem kd_lays (as : List α) : PyData.canLayAll0 (as.map D) = true := by
  induction as with
  | nil => simp [PyData.canLayAll0]
  | cons a as ih => simp [PyData.canLayAll0, lay a, ih]
theorem kd_shapes (as : List α) : SeqAt.shaped (.list (as.map D)) = true := by
  unfold SeqAt.shaped
  have h2 : PyData.depthAll (as.map D) ≤ 1 := depthAll_le fun x hx => by
    obtain ⟨n, _, rfl⟩ := List.mem_map.mp hx
    exact dep n
  have h3 : PyData.depthAll (as.map D) + 1 ≤ 64 := by omega
  simp [PyData.canLay0, PyData.depth, kd_lays as, h3]
theorem kd_bares (as : List α) : bare (.list (as.map D)) = true := by
  simp only [bare]
  exact bareAll_iff.mpr fun x hx => by
    obtain ⟨n, _, rfl⟩ := List.mem_map.mp hx
    exact bar n
theorem kd_injs : ∀ {as bs : List α}, as.map D = bs.map D → as = bs
  | [], [], _ => rfl
  | [], _ :: _, h => by simp at h
  | _ :: _, [], h => by simp at h
  | a :: as, b :: bs, h => by
    rw [List.map_cons, List.map_cons] at h
    injection h with h1 h2
    rw [inj a b h1, kd_injs h2]
theorem kd_eqvs (as bs : List α) : PyData.eqv (.list (as.map D)) (.list (bs.map D)) = decide (as = bs) := by
  by_cases h : as = bs
  · rw [decide_eq_true h, eqv_yes (kd_bares _) (kd_bares _) (by rw [h])]
  · rw [decide_eq_false h, eqv_no (kd_bares _) (kd_bares _) fun z => h (kd_injs (by injection z))]
theorem kd_nols (as : List α) : noLstAll (as.map D) = true := noLstAll_iff.mpr fun d hd => by
  obtain ⟨n, _, rfl⟩ := List.mem_map.mp hd
  exact nol n
theorem kd_any (as : List α) (a : α) : ((as.map D).any fun z => PyData.eqv z (D a)) = decide (a ∈ as) := by
  rw [List.any_map]
  induction as with
  | nil => simp
  | cons b as ih =>
    rw [List.any_cons, ih]
    show (PyData.eqv (D b) (D a) || _) = _
    rw [kd_eqv]
    by_cases h : b = a
    · subst h
      simp
    · have h2 : ¬ a = b := fun z => h z.symm
      simp [h, h2]
/-- a list of points in the heap -/
def PtsL (K : PySem.W.Frag) (H : Hp) (p : Addr) (as : List α) : Prop := ∃ xs, H p = some (.lst xs) ∧ DpAll K H xs (as.map D)
theorem PtsL.same {p : Addr} {as : List α} (h : PtsL K H p as) (s : Same H H') : PtsL K H' p as := by
  obtain ⟨xs, e, d⟩ := h
  exact ⟨xs, s _ _ e, dp_sameAll s _ _ d⟩
theorem PtsL.dp {p : Addr} {as : List α} (h : PtsL K H p as) : Dp K H (.ref p) (.list (as.map D)) := by
  obtain ⟨xs, e, d⟩ := h
  exact .lst (SqL.of e) d
theorem ptsI {p : Addr} {ns : List Int} (h : H p = some (.lst (ns.map V.int))) : PtsL K H p ns := ⟨_, h, dpAll_ints ns⟩
theorem ptsI_of {p : Addr} {ns : List Int} (h : PtsL K H p ns) : H p = some (.lst (ns.map V.int)) := by
  obtain ⟨xs, e, d⟩ := h
  have : xs = ns.map V.int := by
    clear e
    induction ns generalizing xs with
    | nil => cases d; rfl
    | cons n ns ih =>
      cases d with
      | cons h1 d =>
        cases h1
        rw [ih _ d]
        rfl
  rw [this] at e
  exact e
theorem g_eqP {p q : Addr} {as bs : List α} (h1 : PtsL K H p as) (h2 : PtsL K H q bs) (k : Q (.bl (decide (as = bs))) H) : rEqD K (.ref p) (.ref q) H Q := by
  refine g_eqD h1.dp h2.dp (kd_shapes _) (kd_shapes _) ?_
  rw [kd_eqvs]
  exact k
theorem g_neP {p q : Addr} {as bs : List α} (h1 : PtsL K H p as) (h2 : PtsL K H q bs) (k : Q (.bl (!decide (as = bs))) H) : rNeD K (.ref p) (.ref q) H Q := by
  refine g_neD h1.dp h2.dp (kd_shapes _) (kd_shapes _) ?_
  rw [kd_eqvs]
  exact k
theorem g_eq1 {x y : V} {a b : α} (h1 : Dp K H x (D a)) (h2 : Dp K H y (D b)) (k : Q (.bl (decide (a = b))) H) : rEqD K x y H Q := by
  refine g_eqD h1 h2 (kd_shape _) (kd_shape _) ?_
  rw [kd_eqv]
  exact k
theorem g_ne1 {x y : V} {a b : α} (h1 : Dp K H x (D a)) (h2 : Dp K H y (D b)) (k : Q (.bl (!decide (a = b))) H) : rNeD K x y H Q := by
  refine g_neD h1 h2 (kd_shape _) (kd_shape _) ?_
  rw [kd_eqv]
  exact k
theorem g_inP {x : V} {p : Addr} {a : α} {as : List α} (h1 : Dp K H x (D a)) (h2 : PtsL K H p as) (k : Q (.bl (decide (a ∈ as))) H) : rInDL K false x (.ref p) H Q := by
  refine ⟨_, _, h1, h2.dp, kd_shape a, kd_shapes as, Nat.le_trans (dep a) (by decide), ?_⟩
  rw [if_neg (by decide), kd_any]
  exact k
theorem g_notInP {x : V} {p : Addr} {a : α} {as : List α} (h1 : Dp K H x (D a)) (h2 : PtsL K H p as) (k : Q (.bl (!decide (a ∈ as))) H) : rInDL K true x (.ref p) H Q := by
  refine ⟨_, _, h1, h2.dp, kd_shape a, kd_shapes as, Nat.le_trans (dep a) (by decide), ?_⟩
  rw [if_pos rfl, kd_any]
  exact k
theorem pts_at {as : List α} : ∀ {xs : List V} {i : Nat} {x : V}, DpAll K H xs (as.map D) → xs[i]? = some x → ∃ a, as[i]? = some a ∧ Dp K H x (D a) := by
  intro xs i x d h
  obtain ⟨d', h1, h2⟩ := dpAll_get d h
  rw [List.getElem?_map] at h1
  cases e : as[i]? with
  | none => rw [e] at h1; cases h1
  | some a =>
    rw [e] at h1
    have : D a = d' := Option.some.inj h1
    rw [← this] at h2
    exact ⟨a, rfl, h2⟩
theorem pts_len {as : List α} {xs : List V} (d : DpAll K H xs (as.map D)) : xs.length = as.length := by
  rw [dpAll_len d, List.length_map]
/-- ascending -/
def Up (as : List α) : Prop := as.Pairwise fun a b => lt a b = true
/-- how many are less -/
def lessK (as : List α) (x : α) : Nat := (as.filter fun a => lt a x).length
theorem lessK_le (as : List α) (x : α) : lessK as x ≤ as.length := List.length_filter_le _ _
theorem filtK_no {as : List α} {c : α → Bool} (h : ∀ n ∈ as, c n = false) : as.filter c = [] := List.filter_eq_nil_iff.mpr fun n hn => by rw [h n hn]; exact Bool.false_ne_true
theorem lessK_get {x : α} {as : List α} {i : Nat} {n : α} : Up as → as[i]? = some n → (i < lessK as x ↔ lt n x = true) := by
  unfold Up lessK
  induction as generalizing i with
  | nil => intro _ h; simp at h
  | cons m r ih =>
    intro p h
    obtain ⟨p1, p2⟩ := List.pairwise_cons.mp p
    by_cases c : lt m x = true
    · rw [List.filter_cons_of_pos (p := fun a => lt a x) c, List.length_cons]
      cases i with
      | zero =>
        have e : m = n := by simpa using h
        subst e
        exact ⟨fun _ => c, fun _ => by omega⟩
      | succ i =>
        have := ih p2 (i := i) (by simpa using h)
        exact ⟨fun z => this.mp (by omega), fun z => by have := this.mpr z; omega⟩
    · rw [List.filter_cons_of_neg (p := fun a => lt a x) c]
      have e : r.filter (fun a => lt a x) = [] := filtK_no fun y hy => by
        cases q : lt y x with
        | false => rfl
        | true => exact absurd (tran _ _ _ (p1 y hy) q) c
      rw [e]
      refine ⟨fun z => by simp at z, fun z => ?_⟩
      exfalso
      cases i with
      | zero =>
        have e : m = n := by simpa using h
        subst e
        exact c z
      | succ i =>
        have hn : n ∈ r := List.mem_of_getElem? (i := i) (by simpa using h)
        exact c (tran _ _ _ (p1 n hn) z)
/-- the first ones are those that are less -/
theorem take_less {x : α} {as : List α} (p : Up as) : as.take (lessK as x) = as.filter fun a => lt a x := by
  induction as with
  | nil => rfl
  | cons m r ih =>
    obtain ⟨p1, p2⟩ := List.pairwise_cons.mp p
    unfold lessK at ih ⊢
    by_cases c : lt m x = true
    · rw [List.filter_cons_of_pos (p := fun a => lt a x) c, List.length_cons, List.take_succ_cons, ih p2]
    · rw [List.filter_cons_of_neg (p := fun a => lt a x) c]
      have e : r.filter (fun a => lt a x) = [] := filtK_no fun y hy => by
        cases q : lt y x with
        | false => rfl
        | true => exact absurd (tran _ _ _ (p1 y hy) q) c
      rw [e]
      rfl
theorem drop_less {x : α} {as : List α} (p : Up as) : as.drop (lessK as x) = as.filter fun a => !lt a x := by
  induction as with
  | nil => rfl
  | cons m r ih =>
    obtain ⟨p1, p2⟩ := List.pairwise_cons.mp p
    unfold lessK at ih ⊢
    by_cases c : lt m x = true
    · rw [List.filter_cons_of_pos (p := fun a => lt a x) c, List.length_cons, List.drop_succ_cons, ih p2, List.filter_cons_of_neg (p := fun a => !lt a x) (by rw [c]; exact Bool.false_ne_true)]
    · rw [List.filter_cons_of_neg (p := fun a => lt a x) c, List.filter_cons_of_pos (p := fun a => !lt a x) (by rw [Bool.not_eq_true] at c; rw [c]; rfl)]
      have g : ∀ y ∈ r, lt y x = false := fun y hy => by
        cases q : lt y x with
        | false => rfl
        | true => exact absurd (tran _ _ _ (p1 y hy) q) c
      rw [filtK_no g]
      show m :: r = m :: r.filter _
      rw [List.filter_eq_self.mpr fun y hy => by rw [g y hy]; rfl]
/-- the point stands where it would -/
theorem hereK {x : α} {as : List α} (p : Up as) : (match as[lessK as x]? with | none => false | some n => decide (n = x)) = decide (x ∈ as) := by
  by_cases h : x ∈ as
  · obtain ⟨i, hi⟩ := List.getElem?_of_mem h
    have lt0 : i < as.length := (List.getElem?_eq_some_iff.mp hi).1
    have e1 : ¬ i < lessK as x := fun z => by
      have := (lessK_get p hi).mp z
      rw [irr] at this
      cases this
    have e2 : ∀ j, j < i → j < lessK as x := fun j hj => by
      have lj : j < as.length := by omega
      refine (lessK_get p (List.getElem?_eq_getElem lj)).mpr ?_
      have := List.pairwise_iff_getElem.mp p j i lj lt0 hj
      rw [(List.getElem?_eq_some_iff.mp hi).2] at this
      exact this
    have e : lessK as x = i := by
      rcases Nat.lt_or_ge (lessK as x) i with l | l
      · exact absurd (e2 _ l) (Nat.lt_irrefl _)
      · omega
    rw [e, hi]
    simp [h]
  · rw [decide_eq_false h]
    cases q : as[lessK as x]? with
    | none => rfl
    | some n => exact decide_eq_false fun z => h (z ▸ List.mem_of_getElem? q)
end
end Gx

/-! The texts of whole numbers -/
namespace Gx
open PySem TL SX
abbrev numS (n : Int) : Str := Str.ofString (toString n)
/-- the signs of a whole number -/
def numI (n : Int) : List Nat := if n < 0 then 45 :: numL n.natAbs else numL n.natAbs
theorem tl_neg (m : Nat) : tl (numS (Int.negSucc m)) = 45 :: numL (m + 1) := by
  have e : toString (Int.negSucc m) = "-" ++ Nat.repr (m + 1) := rfl
  rw [tl_ofString, e, String.toList_append, List.map_append, Nat.toList_repr]
  rfl
theorem tl_numS (n : Int) : tl (numS n) = numI n := by
  unfold numI
  cases n with
  | ofNat m =>
    rw [if_neg (show ¬ Int.ofNat m < 0 from Int.not_lt.mpr (Int.natCast_nonneg m))]
    exact tl_num m
  | negSucc m =>
    rw [if_pos (Int.negSucc_lt_zero m)]
    exact tl_neg m
theorem numS_S (n : Int) : numS n = S (numI n) := ext_tl (tl_numS n)
theorem numI_free {c : Nat} (h1 : c ≠ 45) (h2 : c < 48 ∨ 57 < c) (n : Int) : c ∉ numI n := by
  unfold numI
  split
  · intro h
    rcases List.mem_cons.mp h with e | h
    · exact h1 e
    · exact numL_free h2 h
  · exact numL_free h2
theorem numL_le {n : Nat} (h : n < 10 ^ 60) : (numL n).length ≤ 60 := numL_len (by decide) h
theorem numI_le {n : Int} (h : n.natAbs < 10 ^ 60) : (numI n).length ≤ 61 := by
  have := numL_le h
  unfold numI
  split
  · rw [List.length_cons]
    omega
  · omega
theorem numS_len {n : Int} (h : n.natAbs < 10 ^ 60) : (numS n).length ≤ 61 := by
  rw [len_tl, tl_numS]
  exact numI_le h
theorem numL_zero : ∀ {n : Nat}, (numL n).head? = some 48 → n = 0 := by
  intro n
  induction n using Nat.strongRecOn with
  | _ n ih =>
    intro h
    by_cases c : n < 10
    · rw [numL_lt c] at h
      have := Option.some.inj h
      omega
    · rw [numL_step (by omega), List.head?_append] at h
      cases q : (numL (n / 10)).head? with
      | none => exact absurd (List.head?_eq_none_iff.mp q) (numL_ne _)
      | some x =>
        rw [q] at h
        have e : x = 48 := Option.some.inj h
        subst e
        have := ih (n / 10) (by omega) q
        omega
theorem int_numS {n : Int} (h : n.natAbs < 10 ^ 60) : intText? (numS n) = some n := by
  have l := numS_len h
  cases n with
  | ofNat m => exact int_num (Nat.le_trans (numL_le h) (by decide))
  | negSucc m =>
    rw [intText_neg (tl_neg m) (numL_digits _) (numL_ne _) (by omega), numL_val]
    rfl
/-! ### joined texts -/
theorem mem_join {c : Nat} {sep : List Nat} : ∀ {ps : List (List Nat)}, c ∈ joinL sep ps → c ∈ sep ∨ ∃ p ∈ ps, c ∈ p
  | [], h => by cases h
  | [p], h => .inr ⟨p, List.mem_cons_self, h⟩
  | p :: q :: r, h => by
    have h : c ∈ p ++ (sep ++ joinL sep (q :: r)) := h
    rcases List.mem_append.mp h with h | h
    · exact .inr ⟨p, List.mem_cons_self, h⟩
    · rcases List.mem_append.mp h with h | h
      · exact .inl h
      · rcases mem_join h with h | ⟨z, hz, h⟩
        · exact .inl h
        · exact .inr ⟨z, List.mem_cons_of_mem _ hz, h⟩
theorem tl_Join (y : Str) (ps : List Str) : tl (Txt.join y ps) = joinL (tl y) (ps.map tl) := by
  rw [join_eq]
  exact tl_join y ps
theorem join_len (sep : List Nat) : ∀ ps : List (List Nat), (joinL sep ps).length ≤ (ps.map (·.length)).sum + ps.length * sep.length
  | [] => Nat.zero_le _
  | [p] => by
    show p.length ≤ (p.length + 0) + 1 * sep.length
    omega
  | p :: q :: r => by
    have ih := join_len sep (q :: r)
    have e : joinL sep (p :: q :: r) = p ++ (sep ++ joinL sep (q :: r)) := rfl
    rw [e, List.length_append, List.length_append, List.map_cons, List.sum_cons, List.length_cons (a := p), Nat.succ_mul]
    omega
end Gx

/-! Errors whose __init__ calls the __init__ of an own class above it -/
namespace Gx
open PySem L2 PySem.Spec PyProof.Rows
section
variable {X : Cx} {e : Expr} {es : List Expr} {ta : TA} {x : Str} {LE : Addr} {mc : Value} {p1 p2 pos : Pos}
theorem pe_above {pl : Sem Bool} (hg : Gl X x) (hm : X.mg x = some (.ref LE)) (ga : PySem.W.specialIn X.K (.ref LE) "__getattribute__" = some (some (.builtin "type.__getattribute__"))) (rd : PySem.W.readsIn X.K LE mc = true)
    (fc : PySem.W.findCls X.K (.ref LE) mc "__init__" = some (.val (.builtin "ValueError.__init__"))) (ha : PA X (e :: es) ta) (hdb : (x == ("__debug__" : Str)) = false := by decide)
    (hc : eval (.Call (.Attribute (.Name x p1) "__init__" p2) (e :: es) [] pos) X.env = (do
      let cls ← eval (.Name x p1) X.env
      standAt p2.atName
      let (fn, fs1) ← holding [cls] (getMethod cls "__init__" pl)
      callWith pos fn fs1 (backTo pos (starEach (e :: es) X.env)) (backToKw pos (keywordEach [] X.env))) := by rfl)
    (he : starEach (e :: es) X.env = (false, eval e X.env) :: starEach es X.env := by rfl) (hpl : (backTo pos (starEach es X.env)).any (·.1) = false := by rfl) : PE X (.Call (.Attribute (.Name x p1) "__init__" p2) (e :: es) [] pos) (tVeI X.K ta) := by
  refine ⟨fun pins s σ H Q I h => ?_⟩
  refine PySem.W.methodCall_KW (ld_glob I hg hm ?_ hdb) hc
  refine PySem.W.method_cls I.kIn ga (PySem.W.cls_value I.kIn rd fc (by decide +kernel) ?_)
  show wpAny _ _ (callWith pos (Value.builtin "ValueError.__init__") [] (backTo pos (starEach (e :: es) X.env)) []) _ _ _
  refine PyProof.Rows.callWith_method1 (thn (ha.run pos pins _ σ H _ (I.tok _) h) fun us s1 got => ?_) he hpl
  obtain ⟨vs, H1, I1, r1, a, C, ws, rfl, hl, T, ea, q⟩ := got
  cases r1 with
  | @cons _ u0 _ ur ra rw' =>
    obtain rfl : u0 = Value.ref a := ra
    have few : ur.length ≤ sizeLine := by
      rw [← Paired.length rw', sizeLine_eq]
      omega
    exact oinit_ok T I1 ea few fun s' J => ⟨.non, H1, J, rfl, q⟩
theorem g_veI {K : PySem.W.Frag} {σ : L2.St} {H : Hp} {Q : VK} (q : ta σ H fun vs H1 => ∃ (a C : Addr) (ws : List V), vs = .ref a :: ws ∧ ws.length ≤ 1000 ∧ OexC K C ∧ H1 a = some (exo a C none) ∧ Q .non H1) : tVeI K ta σ H Q := q
theorem g_ost {K : PySem.W.Frag} {f : Str} {to te : TE} {D : Ends} {σ : L2.St} {H : Hp} (q : te σ H fun y H1 => to σ H1 fun x H2 => ∃ a C : Addr, x = .ref a ∧ OexC K C ∧ PySem.W.findIn K (.ref C) f = some none ∧
  ((H2 a = some (exo a C none) ∧ ∀ dx, H2 dx = none → dx ≠ a → D.nx σ (upd (upd H2 dx (exd dx [(f, y)])) a (exo a C (some dx)))) ∨
    ∃ (dx : Addr) (fs : List (Str × V)), H2 a = some (exo a C (some dx)) ∧ H2 dx = some (exd dx fs) ∧ fs.length ≤ 900 ∧ D.nx σ (upd H2 dx (exd dx ((f, y) :: fs))))) : tOst K f to te D σ H := q
end
end Gx

/-! The whole number that a text writes, if it writes one -/
namespace Gx
open PySem TL SX
def digs (a : List Nat) : List Nat := if a.take 1 = [45] then a.drop 1 else a
def isDig (c : Nat) : Bool := decide (48 ≤ c) && decide (c ≤ 57)
def goodI (a : List Nat) : Bool := (decide (1 ≤ (digs a).length) && decide ((digs a).length ≤ 60) && (digs a).all isDig) && !(decide ((digs a).head? = some 48) && !decide (a = [48]))
def valI (a : List Nat) : Int := if a.take 1 = [45] then -((NumText.digitsVal (a.drop 1) : Nat) : Int) else ((NumText.digitsVal a : Nat) : Int)
def readI (a : List Nat) : Option Int := if goodI a = true then some (valI a) else none
theorem all_dig {a : List Nat} (h : a.all isDig = true) : NumText.AllDigits a := by
  intro c hc
  have z := List.all_eq_true.mp h c hc
  unfold isDig at z
  rw [Bool.and_eq_true, decide_eq_true_eq, decide_eq_true_eq] at z
  exact z
theorem int_good {a : List Nat} (h1 : 1 ≤ (digs a).length) (h2 : (digs a).length ≤ 60) (h3 : (digs a).all isDig = true) : intText? (S a) = some (valI a) ∧ a.length ≤ 61 := by
  by_cases c : a.take 1 = [45]
  · have e : digs a = a.drop 1 := if_pos c
    rw [e] at h1 h2 h3
    cases a with
    | nil => cases c
    | cons x r =>
      have hx : x = 45 := (List.cons.inj c).1
      subst hx
      have hr : r ≠ [] := fun z => by
        rw [z] at h1
        cases h1
      have l2 : r.length ≤ 60 := h2
      refine ⟨?_, by rw [List.length_cons]; omega⟩
      have q := intText_neg (x := S (45 :: r)) (cs := r) rfl (all_dig h3) hr (by rw [S_len, List.length_cons]; omega)
      rw [q]
      unfold valI
      rw [if_pos c]
      rfl
  · have e : digs a = a := if_neg c
    rw [e] at h1 h2 h3
    refine ⟨?_, by omega⟩
    have q := intText_digits (x := S a) (all_dig h3) (fun z => by
      have z2 : a = [] := z
      rw [z2] at h1
      cases h1) (by rw [S_len]; omega)
    rw [q]
    unfold valI
    rw [if_neg c]
end Gx

/-! A table of the module: a word that it lacks -/
namespace Gx
open PySem L2
theorem table_lacks {K : PySem.W.Frag} {d : Addr} {es : Array DictEntry} {n : Nat} (hl : K.lookup d = some ⟨.type "dict", none, .dict es n, #[]⟩) {ks : List (Str × Tok)} (hk : es.toList.map (·.key) = ks.map fun k => Value.str k.1 k.2) {z : Str} (hz : ∀ k ∈ ks, k.1 ≠ z) :
    PySem.W.nsIn K d z = some none := by
  unfold PySem.W.nsIn
  rw [hl]
  dsimp only
  have key : ∀ e ∈ es.toList, ∃ k ∈ ks, e.key = .str k.1 k.2 := fun e he => by
    have m : e.key ∈ es.toList.map (·.key) := List.mem_map.mpr ⟨e, he, rfl⟩
    rw [hk] at m
    obtain ⟨k, hm, q⟩ := List.mem_map.mp m
    exact ⟨k, hm, q.symm⟩
  have f : es.toList.find? (·.key.isStr z) = none := List.find?_eq_none.mpr fun e he => by
    obtain ⟨k, hm, q⟩ := key e he
    rw [q]
    have ne := hz k hm
    intro y
    have y2 : (k.1 == z) = true := y
    exact ne (eq_of_beq y2)
  have r : es.toList.any (·.refKey) = false := by
    rw [List.any_eq_false]
    intro e he y
    obtain ⟨k, hm, q⟩ := key e he
    unfold DictEntry.refKey at y
    rw [q] at y
    cases y
  rw [f, r]
  rfl
end Gx

/-! Requests, their texts: what needs no law's text -/
namespace Gk
open PySem L2 Gx SX TL
/-- numbers below 10 ** 60 -/
def In60 (n : Int) : Prop := n.natAbs < 1000000000000000000000000000000000000000000000000000000000000
/-- a request: its name, its numbers -/
abbrev Req := Str × List Int
def reqV (r : Req) : List V := .str r.1 :: r.2.map V.int
def reqD (r : Req) : PyData := .tuple (.str r.1 :: r.2.map PyData.int)
/-- a request that is no last one -/
def Open (r : Req) : Prop := (∀ n ∈ r.2, In60 n) ∧ (((r.1 = "read" ∨ r.1 = "read_values") ∧ ∃ a b, r.2 = [a, b] ∧ a ≤ b) ∨ (r.1 = "put" ∧ ∃ a b, r.2 = [a, b]) ∨ (r.1 = "erase" ∧ ∃ a, r.2 = [a]))
def Last (r : Req) : Prop := (r.1 = "end" ∨ r.1 = "abort") ∧ r.2 = []
section
variable {P : Program} {w : World} {K : PySem.W.Frag} {mg : Str → Option Value} {base : Heap} {aL aN aC : Addr} {eN eC : Array DictEntry} {mN mC : Nat}
theorem cut_to1 (a : List Nat) : cutS (S a) none (some 1) = S (a.take 1) := by
  unfold cutS
  rw [HT.sIx_none, show (1 : Int) = ((1 : Nat) : Int) from rfl, HT.sIx_nat, S_len]
  show S ((a.drop 0).take (min 1 a.length - 0)) = S (a.take 1)
  rw [List.drop_zero, Nat.sub_zero]
  congr 1
  cases a with
  | nil => rfl
  | cons x r =>
    have : min 1 (x :: r).length = 1 := by
      rw [List.length_cons]
      omega
    rw [this]
theorem cut_from1 (a : List Nat) : cutS (S a) (some 1) none = S (a.drop 1) := by
  unfold cutS
  rw [HT.sIx_none, show (1 : Int) = ((1 : Nat) : Int) from rfl, HT.sIx_nat, S_len]
  show S ((a.drop (min 1 a.length)).take (a.length - min 1 a.length)) = S (a.drop 1)
  congr 1
  cases a with
  | nil => rfl
  | cons x r =>
    have : min 1 (x :: r).length = 1 := by
      rw [List.length_cons]
      omega
    rw [this]
    exact List.take_of_length_le (by rw [List.length_drop]; exact Nat.le_refl _)
theorem atI_headN {xs : List Nat} {v : Nat} (h : xs.head? = some v) : atI xs 0 = some v := by
  cases xs with
  | nil => cases h
  | cons x r => exact (atI_nat (j := 0) rfl).trans h
theorem all_true {acc : List V} (h : ∀ (i : Nat) y, acc[i]? = some y → y = .bl true) : acc = (List.replicate acc.length true).map V.bl := by
  apply List.ext_getElem?
  intro i
  rw [List.getElem?_map, List.getElem?_replicate]
  rcases Nat.lt_or_ge i acc.length with c | c
  · rw [if_pos c, List.getElem?_eq_getElem c, h i _ (List.getElem?_eq_getElem c)]
    rfl
  · rw [if_neg (by omega), List.getElem?_eq_none c]
    rfl
theorem map_of {acc : List V} {ns : List Int} {f : Int → V} (hl : acc.length = ns.length) (h : ∀ (i : Nat) y, acc[i]? = some y → ∀ n, ns[i]? = some n → y = f n) : acc = ns.map f := by
  apply List.ext_getElem?
  intro i
  rw [List.getElem?_map]
  rcases Nat.lt_or_ge i acc.length with c | c
  · have c2 : i < ns.length := by omega
    rw [List.getElem?_eq_getElem c, List.getElem?_eq_getElem c2, h i _ (List.getElem?_eq_getElem c) _ (List.getElem?_eq_getElem c2)]
    rfl
  · rw [List.getElem?_eq_none c, List.getElem?_eq_none (by omega)]
    rfl
theorem str_at {ns : List Int} {i : Nat} {x : V} (h : ((ns.map numS).map V.str)[i]? = some x) : ∃ n, ns[i]? = some n ∧ x = .str (numS n) := by
  rw [List.getElem?_map, List.getElem?_map] at h
  cases e : ns[i]? with
  | none =>
    rw [e] at h
    cases h
  | some n =>
    rw [e] at h
    exact ⟨n, rfl, (Option.some.inj h).symm⟩
theorem int_at {ns : List Int} {i : Nat} {x : V} (h : (ns.map V.int)[i]? = some x) : ∃ n, ns[i]? = some n ∧ x = .int n := by
  rw [List.getElem?_map] at h
  cases e : ns[i]? with
  | none =>
    rw [e] at h
    cases h
  | some n =>
    rw [e] at h
    exact ⟨n, rfl, (Option.some.inj h).symm⟩
theorem inV_non (ns : List Int) : inV .non (ns.map V.int) = false := by
  induction ns with
  | nil => rfl
  | cons n r ih =>
    show (eqV (.int n) .non || inV .non (r.map V.int)) = false
    rw [ih]
    rfl
def wordT (x : Str) : Str := if x = "read_values" then "values" else x
/-- the text of a request -/
def reqT (r : Req) : Str := Txt.join " " (wordT r.1 :: r.2.map numS)
theorem sum_nums : ∀ ns : List Int, (∀ n ∈ ns, In60 n) → ((ns.map numS).map (·.length)).sum ≤ 61 * ns.length
  | [], _ => Nat.zero_le _
  | n :: r, h => by
    have ih := sum_nums r fun x hx => h x (List.mem_cons_of_mem _ hx)
    have h1 := numS_len (h n List.mem_cons_self)
    rw [List.map_cons, List.map_cons, List.sum_cons, List.length_cons]
    omega
/-- a request as it may be written -/
def Wri (r : Req) : Prop := (∀ n ∈ r.2, In60 n) ∧ r.2.length ≤ 2 ∧ (wordT r.1).length ≤ 10
theorem log_60 {n : Int} (h : In60 n) : n.natAbs.log2 < 1920 := Nat.lt_trans (PySem.Flt.log2_lt_of (k := 200) (by decide) (Nat.lt_trans h (by decide))) (by decide)
def scriptT (rs : List Req) : Str := Txt.join "; " (rs.map reqT)
theorem ints_back {H : Hp} : ∀ (ns : List Int) (ys : List V), DpAll K H ys (ns.map PyData.int) → ys = ns.map V.int
  | [], _, h => by
    cases h
    rfl
  | n :: r, _, h => by
    cases h with
    | cons a b =>
      cases a
      rw [ints_back r _ b]
      rfl
theorem rq_back {H : Hp} {v : V} {r : Req} (h : Dp K H v (reqD r)) : ∃ t, v = .ref t ∧ SqT K H t (reqV r) := by
  cases h with
  | tup a b =>
    cases b with
    | cons c d =>
      cases c
      rw [ints_back _ _ d] at a
      exact ⟨_, rfl, a⟩
theorem rq_all {H : Hp} : ∀ (rs : List Req) (vs : List V), DpAll K H vs (rs.map reqD) → vs.length = rs.length ∧ ∀ (i : Nat) x, vs[i]? = some x → ∃ r t, rs[i]? = some r ∧ x = .ref t ∧ SqT K H t (reqV r)
  | [], _, h => by
    cases h
    exact ⟨rfl, fun i x hx => by simp at hx⟩
  | r :: rs, _, h => by
    cases h with
    | cons a b =>
      obtain ⟨l, k⟩ := rq_all rs _ b
      refine ⟨by rw [List.length_cons, List.length_cons, l], fun i x hx => ?_⟩
      cases i with
      | zero =>
        obtain rfl := Option.some.inj hx
        obtain ⟨t, e, ht⟩ := rq_back a
        exact ⟨r, t, rfl, e, ht⟩
      | succ i => exact k i x hx
theorem rq_dp {H : Hp} {t : Addr} {r : Req} (h : SqT K H t (reqV r)) : Dp K H (.ref t) (reqD r) := .tup h (.cons (.str _) (dpAll_ints _))
/-- a list of requests -/
abbrev RqL (K : PySem.W.Frag) (H : Hp) (l : Addr) (rs : List Req) : Prop := Dp K H (.ref l) (.list (rs.map reqD))
theorem rq_list {H : Hp} {l : Addr} {rs : List Req} (h : RqL K H l rs) : ∃ vs, SqL K H l vs ∧ vs.length = rs.length ∧ ∀ (i : Nat) x, vs[i]? = some x → ∃ r t, rs[i]? = some r ∧ x = .ref t ∧ SqT K H t (reqV r) := by
  cases h with
  | lst a b =>
    obtain ⟨h1, h2⟩ := rq_all _ _ b
    exact ⟨_, a, h1, h2⟩
theorem len_reqT {r : Req} (h : Wri r) : (reqT r).length ≤ 140 := by
  obtain ⟨hb, hl, hw⟩ := h
  have h1 := join_len (tl " ") ((wordT r.1 :: r.2.map numS).map tl)
  have h2 := sum_nums _ hb
  have h3 : (((wordT r.1 :: r.2.map numS).map tl).map (·.length)) = (wordT r.1 :: r.2.map numS).map (·.length) := by
    rw [List.map_map]
    refine List.map_congr_left fun x _ => ?_
    exact (len_tl x).symm
  have h5 : ((wordT r.1 :: r.2.map numS).map tl).length = r.2.length + 1 := by simp
  have h6 : ((wordT r.1 :: r.2.map numS).map (·.length)).sum = (wordT r.1).length + ((r.2.map numS).map (·.length)).sum := by rw [List.map_cons, List.sum_cons]
  have h4 : (tl " ").length = 1 := rfl
  rw [h3, h4, h5, h6] at h1
  rw [len_tl, reqT, tl_Join]
  omega
theorem sum_req : ∀ rs : List Req, (∀ r ∈ rs, Wri r) → ((rs.map reqT).map (·.length)).sum ≤ 140 * rs.length
  | [], _ => Nat.zero_le _
  | n :: r, h => by
    have ih := sum_req r fun x hx => h x (List.mem_cons_of_mem _ hx)
    have h1 := len_reqT (h n List.mem_cons_self)
    rw [List.map_cons, List.map_cons, List.sum_cons, List.length_cons]
    omega
theorem len_script {rs : List Req} (h : ∀ r ∈ rs, Wri r) (hl : rs.length ≤ 8) : (scriptT rs).length ≤ 2000 := by
  have h1 := join_len (tl "; ") ((rs.map reqT).map tl)
  have h2 := sum_req _ h
  have h3 : (((rs.map reqT).map tl).map (·.length)) = (rs.map reqT).map (·.length) := by
    rw [List.map_map]
    refine List.map_congr_left fun x _ => ?_
    exact (len_tl x).symm
  have h4 : (tl "; ").length = 2 := rfl
  rw [h3, h4, List.length_map, List.length_map] at h1
  rw [len_tl, scriptT, tl_Join]
  omega
theorem strs_of {acc : List V} {rs : List Req} {f : Req → V} (hl : acc.length = rs.length) (h : ∀ (i : Nat) y, acc[i]? = some y → ∀ n, rs[i]? = some n → y = f n) : acc = rs.map f := by
  apply List.ext_getElem?
  intro i
  rw [List.getElem?_map]
  rcases Nat.lt_or_ge i acc.length with c | c
  · have c2 : i < rs.length := by omega
    rw [List.getElem?_eq_getElem c, List.getElem?_eq_getElem c2, h i _ (List.getElem?_eq_getElem c) _ (List.getElem?_eq_getElem c2)]
    rfl
  · rw [List.getElem?_eq_none c, List.getElem?_eq_none (by omega)]
    rfl
/-- the module's tables of words -/
structure Words (K : PySem.W.Frag) (w : World) (mg : Str → Option Value) (aL aN aC : Addr) (eN eC : Array DictEntry) (mN mC : Nat) : Prop where
  gl : ∃ u, mg "LAST" = some u ∧ RelV (.ref aL) u
  hl : ∀ H, SqT K H aL [.str "end", .str "abort"]
  gn : ∃ u, mg "NAMES" = some u ∧ RelV (.ref aN) u
  kn : KDict K w aN eN mN
  n1 : ∃ t, PySem.W.nsIn K aN "read" = some (some (.str "read" t))
  n2 : ∃ t, PySem.W.nsIn K aN "values" = some (some (.str "read_values" t))
  n3 : ∃ t, PySem.W.nsIn K aN "put" = some (some (.str "put" t))
  n4 : ∃ t, PySem.W.nsIn K aN "erase" = some (some (.str "erase" t))
  gc : ∃ u, mg "COUNTS" = some u ∧ RelV (.ref aC) u
  kc : KDict K w aC eC mC
  c1 : ∃ t, PySem.W.nsIn K aC "read" = some (some (.int 2 t))
  c2 : ∃ t, PySem.W.nsIn K aC "values" = some (some (.int 2 t))
  c3 : ∃ t, PySem.W.nsIn K aC "put" = some (some (.int 2 t))
  c4 : ∃ t, PySem.W.nsIn K aC "erase" = some (some (.int 1 t))
/-- what holds of a request that is no last one -/
structure OpenF (K : PySem.W.Frag) (aN aC : Addr) (r : Req) : Prop where
  nums : ∀ n ∈ r.2, In60 n
  few : r.2.length ≤ 2
  short : (wordT r.1).length ≤ 10
  f32 : 32 ∉ tl (wordT r.1)
  f59 : 59 ∉ tl (wordT r.1)
  last : inV (.str (wordT r.1)) [V.str "end", V.str "abort"] = false
  lastN : inV (.str r.1) [V.str "end", V.str "abort"] = false
  name : ∃ t, PySem.W.nsIn K aN (wordT r.1) = some (some (.str r.1 t))
  count : ∃ t, PySem.W.nsIn K aC (wordT r.1) = some (some (.int r.2.length t))
  rng : inV (.str (wordT r.1)) [V.str "read", V.str "values"] = true → ∃ a b, r.2 = [a, b] ∧ a ≤ b
theorem wf_read : (wordT "read").length ≤ 10 ∧ 32 ∉ tl (wordT "read") ∧ 59 ∉ tl (wordT "read") ∧ inV (.str (wordT "read")) [V.str "end", V.str "abort"] = false ∧ inV (.str "read") [V.str "end", V.str "abort"] = false := by decide +kernel
theorem wf_values : (wordT "read_values").length ≤ 10 ∧ 32 ∉ tl (wordT "read_values") ∧ 59 ∉ tl (wordT "read_values") ∧ inV (.str (wordT "read_values")) [V.str "end", V.str "abort"] = false ∧ inV (.str "read_values") [V.str "end", V.str "abort"] = false := by decide +kernel
theorem wf_put : (wordT "put").length ≤ 10 ∧ 32 ∉ tl (wordT "put") ∧ 59 ∉ tl (wordT "put") ∧ inV (.str (wordT "put")) [V.str "end", V.str "abort"] = false ∧ inV (.str "put") [V.str "end", V.str "abort"] = false ∧ inV (.str (wordT "put")) [V.str "read", V.str "values"] = false := by decide +kernel
theorem wf_erase : (wordT "erase").length ≤ 10 ∧ 32 ∉ tl (wordT "erase") ∧ 59 ∉ tl (wordT "erase") ∧ inV (.str (wordT "erase")) [V.str "end", V.str "abort"] = false ∧ inV (.str "erase") [V.str "end", V.str "abort"] = false ∧ inV (.str (wordT "erase")) [V.str "read", V.str "values"] = false := by decide +kernel
theorem openF (W : Words K w mg aL aN aC eN eC mN mC) {r : Req} (h : Open r) : OpenF K aN aC r := by
  obtain ⟨x, ns⟩ := r
  obtain ⟨hb, h⟩ := h
  rcases h with ⟨h | h, a, b, e, le⟩ | ⟨h, a, b, e⟩ | ⟨h, a, e⟩ <;> (simp only at h e hb; subst h e)
  · obtain ⟨a1, a2, a3, a4, a5⟩ := wf_read
    exact ⟨hb, Nat.le_refl 2, a1, a2, a3, a4, a5, W.n1, W.c1, fun _ => ⟨a, b, rfl, le⟩⟩
  · obtain ⟨a1, a2, a3, a4, a5⟩ := wf_values
    exact ⟨hb, Nat.le_refl 2, a1, a2, a3, a4, a5, W.n2, W.c2, fun _ => ⟨a, b, rfl, le⟩⟩
  · obtain ⟨a1, a2, a3, a4, a5, a6⟩ := wf_put
    exact ⟨hb, Nat.le_refl 2, a1, a2, a3, a4, a5, W.n3, W.c3, fun z => absurd (a6.symm.trans z) Bool.false_ne_true⟩
  · obtain ⟨a1, a2, a3, a4, a5, a6⟩ := wf_erase
    exact ⟨hb, Nat.le_succ 1, a1, a2, a3, a4, a5, W.n4, W.c4, fun z => absurd (a6.symm.trans z) Bool.false_ne_true⟩
structure LastF (r : Req) : Prop where
  none : r.2 = []
  word : wordT r.1 = r.1
  short : (wordT r.1).length ≤ 10
  f32 : 32 ∉ tl (wordT r.1)
  f59 : 59 ∉ tl (wordT r.1)
  last : inV (.str (wordT r.1)) [V.str "end", V.str "abort"] = true
  lastN : inV (.str r.1) [V.str "end", V.str "abort"] = true
theorem wl_end : wordT "end" = "end" ∧ (wordT "end").length ≤ 10 ∧ 32 ∉ tl (wordT "end") ∧ 59 ∉ tl (wordT "end") ∧ inV (.str (wordT "end")) [V.str "end", V.str "abort"] = true ∧ inV (.str "end") [V.str "end", V.str "abort"] = true := by decide +kernel
theorem wl_abort : wordT "abort" = "abort" ∧ (wordT "abort").length ≤ 10 ∧ 32 ∉ tl (wordT "abort") ∧ 59 ∉ tl (wordT "abort") ∧ inV (.str (wordT "abort")) [V.str "end", V.str "abort"] = true ∧ inV (.str "abort") [V.str "end", V.str "abort"] = true := by decide +kernel
theorem lastF {r : Req} (h : Last r) : LastF r := by
  obtain ⟨x, ns⟩ := r
  obtain ⟨h | h, e⟩ := h <;> (simp only at h e; subst h e)
  · obtain ⟨a1, a2, a3, a4, a5, a6⟩ := wl_end
    exact ⟨rfl, a1, a2, a3, a4, a5, a6⟩
  · obtain ⟨a1, a2, a3, a4, a5, a6⟩ := wl_abort
    exact ⟨rfl, a1, a2, a3, a4, a5, a6⟩
theorem split_req {r : Req} (h : 32 ∉ tl (wordT r.1)) : Txt.split (reqT r) " " = wordT r.1 :: r.2.map numS := by
  refine split_join (s := 32) (S := []) (by decide +kernel) (by decide +kernel) (by simp) fun p hp => ?_
  rcases List.mem_cons.mp hp with rfl | hp
  · exact h
  · obtain ⟨n, _, rfl⟩ := List.mem_map.mp hp
    rw [tl_numS]
    exact numI_free (by decide) (by decide) n
theorem free_req {r : Req} (h : 59 ∉ tl (wordT r.1)) : 59 ∉ tl (reqT r) := by
  intro z
  rw [reqT, tl_Join] at z
  rcases mem_join z with z | ⟨p, hp, z⟩
  · exact absurd z (by decide +kernel)
  · obtain ⟨q, hq, rfl⟩ := List.mem_map.mp hp
    rcases List.mem_cons.mp hq with rfl | hq
    · exact h z
    · obtain ⟨n, _, rfl⟩ := List.mem_map.mp hq
      rw [tl_numS] at z
      exact numI_free (by decide) (by decide) n z
/-- a script: open requests, then a last one -/
structure Scr (rs : List Req) : Prop where
  ex : ∃ os l, rs = os ++ [l] ∧ (∀ r ∈ os, Open r) ∧ Last l ∧ os.length ≤ 7
theorem Scr.len {rs : List Req} (h : Scr rs) : rs.length ≤ 8 ∧ 0 < rs.length := by
  obtain ⟨os, l, rfl, _, _, h⟩ := h.ex
  rw [List.length_append]
  simp only [List.length_cons, List.length_nil]
  omega
theorem Scr.at_ {rs : List Req} (h : Scr rs) {i : Nat} {r : Req} (hi : rs[i]? = some r) : (i + 1 < rs.length ∧ Open r) ∨ (i + 1 = rs.length ∧ Last r) := by
  obtain ⟨os, l, rfl, ho, hl, h⟩ := h.ex
  rw [List.length_append]
  simp only [List.length_cons, List.length_nil]
  rcases Nat.lt_or_ge i os.length with c | c
  · rw [List.getElem?_append_left c] at hi
    exact .inl ⟨by omega, ho r (List.mem_of_getElem? hi)⟩
  · rw [List.getElem?_append_right c] at hi
    have lt : i - os.length < 1 := by
      rcases Nat.lt_or_ge (i - os.length) 1 with z | z
      · exact z
      · rw [List.getElem?_eq_none (by simpa using z)] at hi
        cases hi
    have e0 : i - os.length = 0 := by omega
    rw [e0] at hi
    obtain rfl := Option.some.inj hi
    exact .inr ⟨by omega, hl⟩
theorem wri (W : Words K w mg aL aN aC eN eC mN mC) {r : Req} (h : Open r ∨ Last r) : Wri r ∧ 59 ∉ tl (wordT r.1) := by
  rcases h with h | h
  · have o := openF W h
    exact ⟨⟨o.nums, o.few, o.short⟩, o.f59⟩
  · have o := lastF h
    exact ⟨⟨by rw [o.none]; exact nofun, by rw [o.none]; exact Nat.zero_le _, o.short⟩, o.f59⟩
theorem Scr.all {rs : List Req} (h : Scr rs) : ∀ r ∈ rs, Open r ∨ Last r := fun r hr => by
  obtain ⟨i, hi, e⟩ := List.getElem_of_mem hr
  rcases h.at_ (List.getElem?_eq_some_iff.mpr ⟨hi, e⟩) with ⟨_, q⟩ | ⟨_, q⟩
  · exact .inl q
  · exact .inr q
theorem noLst_req (r : Req) : noLst (reqD r) = true := by
  have : noLstAll (r.2.map PyData.int) = true := noLstAll_iff.mpr fun d hd => by
    obtain ⟨n, _, rfl⟩ := List.mem_map.mp hd
    rfl
  simp [reqD, noLst, noLstAll, this]
theorem noLst_reqs (rs : List Req) : noLstAll (rs.map reqD) = true := noLstAll_iff.mpr fun d hd => by
  obtain ⟨n, _, rfl⟩ := List.mem_map.mp hd
  exact noLst_req n
theorem split_script (W : Words K w mg aL aN aC eN eC mN mC) {rs : List Req} (h : Scr rs) : Txt.split (scriptT rs) "; " = rs.map reqT := by
  have hl := h.len.2
  refine split_join (s := 59) (S := [32]) (by decide +kernel) (by decide +kernel) (fun z => ?_) fun p hp => ?_
  · rw [List.map_eq_nil_iff] at z
    rw [z] at hl
    cases hl
  · obtain ⟨r, hr, rfl⟩ := List.mem_map.mp hp
    exact free_req (wri W (h.all r hr)).2
theorem join_flat (sep p : List Nat) : ∀ ps : List (List Nat), joinL sep (p :: ps) = p ++ (ps.map fun q => sep ++ q).flatten := by
  intro ps
  induction ps generalizing p with
  | nil => simp [joinL]
  | cons q r ih =>
    have e : joinL sep (p :: q :: r) = p ++ (sep ++ joinL sep (q :: r)) := rfl
    rw [e, ih q]
    simp
theorem join_snoc (sep p : List Nat) : ∀ ps : List (List Nat), ps ≠ [] → joinL sep (ps ++ [p]) = joinL sep ps ++ (sep ++ p)
  | [], h => absurd rfl h
  | q :: r, _ => by
    rw [List.cons_append, join_flat, join_flat, List.map_append, List.flatten_append]
    simp
/-- the numbers of a request behind its word -/
def argsT (ns : List Int) : Str := S ((ns.map fun n => 32 :: numI n).flatten)
theorem tl_argsT (ns : List Int) : tl (argsT ns) = (ns.map fun n => 32 :: numI n).flatten := rfl
theorem args_next {ns : List Int} {j : Nat} {n : Int} (F : Str) (h : ns[j]? = some n) : F ++ argsT (ns.take j) ++ " " ++ numS n = F ++ argsT (ns.take (j + 1)) := by
  refine ext_tl ?_
  have e : tl " " = [32] := by decide +kernel
  rw [tl_append, tl_append, tl_append, tl_append, tl_argsT, tl_argsT, tl_numS, e, List.take_succ, h]
  simp
theorem args_all (x : Str) (ns : List Int) : wordT x ++ argsT ns = reqT (x, ns) := by
  refine ext_tl ?_
  have e : tl " " = [32] := by decide +kernel
  have e2 : (wordT x :: ns.map numS).map tl = tl (wordT x) :: ns.map numI := by simp [tl_numS]
  rw [tl_append, tl_argsT, reqT, tl_Join, e, e2, join_flat]
  simp
  rfl
theorem script_next {rs : List Req} {i : Nat} {r : Req} (h : rs[i]? = some r) : scriptT (rs.take i) ++ (if i = 0 then Str.empty else "; ") ++ reqT r = scriptT (rs.take (i + 1)) := by
  refine ext_tl ?_
  have lt := (List.getElem?_eq_some_iff.mp h).1
  have e : tl "; " = [59, 32] := by decide +kernel
  rw [tl_append, tl_append, scriptT, scriptT, tl_Join, tl_Join, e, List.take_succ, h]
  cases i with
  | zero =>
    rw [if_pos rfl]
    rfl
  | succ i =>
    rw [if_neg (by omega), e]
    show _ = joinL [59, 32] (((rs.take (i + 1) ++ [r]).map reqT).map tl)
    rw [List.map_append, List.map_append]
    have ne : ((rs.take (i + 1)).map reqT).map tl ≠ [] := by
      cases rs with
      | nil => simp at lt
      | cons a b => simp
    exact ((join_snoc [59, 32] (tl (reqT r)) _ ne).trans (List.append_assoc _ _ _).symm).symm
theorem script_empty {rs : List Req} {i : Nat} (hi : i ≤ rs.length) (hw : ∀ r ∈ rs, tl (wordT r.1) ≠ []) : decide (V.str (scriptT (rs.take i)) = V.str "") = decide (i = 0) := by
  cases i with
  | zero => rfl
  | succ i =>
    rw [decide_eq_false (show ¬ i + 1 = 0 by omega)]
    refine decide_eq_false fun z => ?_
    have z2 := congrArg tl (V.str.inj z)
    cases rs with
    | nil => simp at hi
    | cons a b =>
      rw [List.take_succ_cons, scriptT, tl_Join, List.map_cons, List.map_cons, join_flat] at z2
      have z3 : tl (reqT a) = [] := (List.append_eq_nil_iff.mp (z2.trans (by decide +kernel))).1
      rw [reqT, tl_Join, List.map_cons, join_flat] at z3
      exact hw a List.mem_cons_self (List.append_eq_nil_iff.mp z3).1
theorem len_args : ∀ ns : List Int, (∀ n ∈ ns, In60 n) → (argsT ns).length ≤ 62 * ns.length
  | [], _ => Nat.zero_le _
  | n :: r, h => by
    have ih := len_args r fun x hx => h x (List.mem_cons_of_mem _ hx)
    have h1 := numI_le (h n List.mem_cons_self)
    rw [argsT, S_len] at ih ⊢
    rw [List.map_cons, List.flatten_cons, List.length_append, List.length_cons, List.length_cons]
    omega
theorem cut_tail (x : V) (ys : List V) : cutV (x :: ys) (some 1) none = ys := by
  unfold cutV
  rw [HT.sIx_none, show (1 : Int) = ((1 : Nat) : Int) from rfl, HT.sIx_nat]
  have e : min 1 (x :: ys).length = 1 := by
    rw [List.length_cons]
    omega
  rw [e]
  show ys.take (ys.length + 1 - 1) = ys
  rw [Nat.add_sub_cancel, List.take_length]
theorem g_slTl {K : PySem.W.Frag} {a : Addr} {x : V} {ys : List V} {H : Hp} {Q : VK} (h : SqT K H a (x :: ys)) (k : ∀ p H', H p = none → Same H H' → H' p = some (.tup ys) → Q (.ref p) H') : rSlT K (.ref a) (some 1) none H Q := by
  refine ⟨a, x :: ys, rfl, h, fun z => ?_, fun p hp => ?_⟩
  · have z1 := z.1
    rw [show (1 : Int) = ((1 : Nat) : Int) from rfl, HT.sIx_nat, List.length_cons] at z1
    omega
  · rw [cut_tail]
    exact k p _ hp (same_new hp) upd_same
theorem args_nil (F : Str) : F ++ argsT [] = F := by
  refine ext_tl ?_
  rw [tl_append, tl_argsT]
  simp
/-- what a word of a request is made of -/
structure WordF (r : Req) : Prop where
  nums : ∀ n ∈ r.2, In60 n
  few : r.2.length ≤ 2
  low : (tl (wordT r.1)).all (· < 128) = true
  ne : tl (wordT r.1) ≠ []
  short : (wordT r.1).length ≤ 10
  rep : (PySem.reprText r.1).length ≤ 100
  ok : PyData.strOk r.1 = true
theorem wd_read : (tl (wordT "read")).all (· < 128) = true ∧ tl (wordT "read") ≠ [] ∧ (wordT "read").length ≤ 10 ∧ (PySem.reprText "read").length ≤ 100 ∧ PyData.strOk "read" = true := by decide +kernel
theorem wd_values : (tl (wordT "read_values")).all (· < 128) = true ∧ tl (wordT "read_values") ≠ [] ∧ (wordT "read_values").length ≤ 10 ∧ (PySem.reprText "read_values").length ≤ 100 ∧ PyData.strOk "read_values" = true := by decide +kernel
theorem wd_put : (tl (wordT "put")).all (· < 128) = true ∧ tl (wordT "put") ≠ [] ∧ (wordT "put").length ≤ 10 ∧ (PySem.reprText "put").length ≤ 100 ∧ PyData.strOk "put" = true := by decide +kernel
theorem wd_erase : (tl (wordT "erase")).all (· < 128) = true ∧ tl (wordT "erase") ≠ [] ∧ (wordT "erase").length ≤ 10 ∧ (PySem.reprText "erase").length ≤ 100 ∧ PyData.strOk "erase" = true := by decide +kernel
theorem wd_end : (tl (wordT "end")).all (· < 128) = true ∧ tl (wordT "end") ≠ [] ∧ (wordT "end").length ≤ 10 ∧ (PySem.reprText "end").length ≤ 100 ∧ PyData.strOk "end" = true := by decide +kernel
theorem wd_abort : (tl (wordT "abort")).all (· < 128) = true ∧ tl (wordT "abort") ≠ [] ∧ (wordT "abort").length ≤ 10 ∧ (PySem.reprText "abort").length ≤ 100 ∧ PyData.strOk "abort" = true := by decide +kernel
theorem wordF {r : Req} (h : Open r ∨ Last r) : WordF r := by
  obtain ⟨x, ns⟩ := r
  rcases h with ⟨hb, ⟨h | h, a, b, e, le⟩ | ⟨h, a, b, e⟩ | ⟨h, a, e⟩⟩ | ⟨h | h, e⟩ <;> (simp only at h e; subst h e)
  · exact ⟨hb, Nat.le_refl 2, wd_read.1, wd_read.2.1, wd_read.2.2.1, wd_read.2.2.2.1, wd_read.2.2.2.2⟩
  · exact ⟨hb, Nat.le_refl 2, wd_values.1, wd_values.2.1, wd_values.2.2.1, wd_values.2.2.2.1, wd_values.2.2.2.2⟩
  · exact ⟨hb, Nat.le_refl 2, wd_put.1, wd_put.2.1, wd_put.2.2.1, wd_put.2.2.2.1, wd_put.2.2.2.2⟩
  · exact ⟨hb, Nat.le_succ 1, wd_erase.1, wd_erase.2.1, wd_erase.2.2.1, wd_erase.2.2.2.1, wd_erase.2.2.2.2⟩
  · exact ⟨nofun, Nat.zero_le 2, wd_end.1, wd_end.2.1, wd_end.2.2.1, wd_end.2.2.2.1, wd_end.2.2.2.2⟩
  · exact ⟨nofun, Nat.zero_le 2, wd_abort.1, wd_abort.2.1, wd_abort.2.2.1, wd_abort.2.2.2.1, wd_abort.2.2.2.2⟩
theorem numI_low (n : Int) : ∀ c ∈ numI n, c < 128 := by
  intro c hc
  unfold numI at hc
  split at hc
  · rcases List.mem_cons.mp hc with rfl | h
    · decide
    · have := numL_digits _ c h
      omega
  · have := numL_digits _ c hc
    omega
theorem req_low {r : Req} (h : WordF r) : ∀ c ∈ tl (reqT r), c < 128 := by
  intro c hc
  rw [reqT, tl_Join] at hc
  rcases mem_join hc with hc | ⟨p, hp, hc⟩
  · have e : tl " " = [32] := by decide +kernel
    rw [e, List.mem_singleton] at hc
    omega
  · obtain ⟨q, hq, rfl⟩ := List.mem_map.mp hp
    rcases List.mem_cons.mp hq with rfl | hq
    · exact of_decide_eq_true (List.all_eq_true.mp h.low c hc)
    · obtain ⟨n, _, rfl⟩ := List.mem_map.mp hq
      rw [tl_numS] at hc
      exact numI_low n c hc
theorem script_low {rs : List Req} (h : ∀ r ∈ rs, WordF r) : ∀ c ∈ tl (scriptT rs), c < 128 := by
  intro c hc
  rw [scriptT, tl_Join] at hc
  rcases mem_join hc with hc | ⟨p, hp, hc⟩
  · have e : tl "; " = [59, 32] := by decide +kernel
    rw [e] at hc
    simp at hc
    omega
  · obtain ⟨q, hq, rfl⟩ := List.mem_map.mp hp
    obtain ⟨r, hr, rfl⟩ := List.mem_map.mp hq
    exact req_low (h r hr) c hc
theorem fine_req {r : Req} (h : WordF r) : Fine 1 4 (reqD r) := by
  have f := h.few
  refine (fine_tuple (n := 0) (m := 1) fun x hx => ?_).mono (Nat.le_refl _) ?_
  · rcases List.mem_cons.mp hx with rfl | hx
    · exact fine_str h.rep h.ok
    · obtain ⟨n, hn, rfl⟩ := List.mem_map.mp hx
      have b : n.natAbs < 1000000000000000000000000000000000000000000000000000000000000 := h.nums n hn
      exact fine_int (by omega) (by omega)
  · rw [List.length_cons, List.length_map]
    omega
theorem fine_reqs {rs : List Req} (h : ∀ r ∈ rs, WordF r) (hl : rs.length ≤ 8) : Fine 2 33 (.list (rs.map reqD)) := by
  refine (fine_list (m := 4) fun x hx => ?_).mono (Nat.le_refl _) ?_
  · obtain ⟨r, hr, rfl⟩ := List.mem_map.mp hx
    exact fine_req (h r hr)
  · rw [List.length_map]
    omega
/-- two texts in a list may be shown -/
theorem two_texts {p q : Str} (hp : p.length ≤ 2000) (hq : q.length ≤ 2000) (lp : ∀ c ∈ tl p, c < 128) (lq : ∀ c ∈ tl q, c < 128) :
    SeqAt.shaped (.list [.str p, .str q]) = true ∧ (PyData.list [.str p, .str q]).showable = true ∧ (PyData.list [.str p, .str q]).shown.length ≤ sizeLine := by
  have ok : ∀ x : Str, (∀ c ∈ tl x, c < 128) → PyData.strOk x = true := fun x h => by
    unfold PyData.strOk
    rw [← Array.all_toList, List.all_eq_true]
    intro c hc
    have := h c hc
    exact decide_eq_true (by omega)
  have len : ∀ x : Str, (∀ c ∈ tl x, c < 128) → x.length ≤ 2000 → (PySem.reprText x).length ≤ 20002 := fun x h l => by
    have := PySem.StrLaws.reprText_len x fun c hc => Nat.lt_trans (h c hc) (by decide)
    omega
  refine ⟨?_, by simp [PyData.showable, PyData.showableAll], ?_⟩
  · simp [SeqAt.shaped, PyData.canLay0, PyData.canLayAll0, PyData.depth, PyData.depthAll, ok p lp, ok q lq]
  · have h := listText_le (PyData.shownAll [.str p, .str q])
    have a := len p lp hp
    have b := len q lq hq
    have e : piled (PyData.shownAll [.str p, .str q]) ≤ (PySem.reprText p).length + (PySem.reprText q).length + 100 := by
      simp [PyData.shownAll, PyData.shown, piled]
      omega
    rw [sizeLine_eq]
    show (listText (PyData.shownAll [.str p, .str q])).length ≤ _
    omega
theorem WordF.wri {r : Req} (h : WordF r) : Wri r := ⟨h.nums, h.few, h.short⟩
end
end Gk

/-! The request that any text writes, if it writes one -/
namespace Gk
open PySem L2 Gx SX TL
theorem spl_lens (sep : List Nat) : ∀ (l : List Nat) (k : Nat) (acc : List Nat), (∀ p ∈ spl sep k acc l, p.length ≤ acc.length + l.length) ∧ (spl sep k acc l).length ≤ l.length + 1 ∧ spl sep k acc l ≠ []
  | [], k, acc => by
    rw [spl_nil]
    refine ⟨fun p hp => ?_, Nat.le_refl _, by simp⟩
    rw [List.mem_singleton.mp hp]
    exact Nat.le_refl _
  | c :: r, 0, acc => by
    cases h : pre sep (c :: r) with
    | true =>
      rw [spl_hit h]
      obtain ⟨h1, h2, h3⟩ := spl_lens sep r (sep.length - 1) []
      refine ⟨fun p hp => ?_, ?_, by simp⟩
      · rcases List.mem_cons.mp hp with rfl | hp
        · omega
        · have := h1 p hp
          rw [List.length_cons]
          rw [List.length_nil] at this
          omega
      · rw [List.length_cons, List.length_cons]
        omega
    | false =>
      rw [spl_miss h]
      obtain ⟨h1, h2, h3⟩ := spl_lens sep r 0 (acc ++ [c])
      refine ⟨fun p hp => ?_, ?_, h3⟩
      · have := h1 p hp
        rw [List.length_append] at this
        rw [List.length_cons]
        simp only [List.length_cons, List.length_nil] at this
        omega
      · rw [List.length_cons]
        omega
  | c :: r, k + 1, acc => by
    have e : spl sep (k + 1) acc (c :: r) = spl sep k acc r := rfl
    rw [e]
    obtain ⟨h1, h2, h3⟩ := spl_lens sep r k acc
    refine ⟨fun p hp => ?_, ?_, h3⟩
    · have := h1 p hp
      rw [List.length_cons]
      omega
    · rw [List.length_cons]
      omega
/-- a word of a request: its name, how many numbers -/
def nameOf (x : Str) : Option (Str × Nat) := if x = "read" then some ("read", 2) else if x = "values" then some ("read_values", 2) else if x = "put" then some ("put", 2) else if x = "erase" then some ("erase", 1) else none
def allI (as : List (List Nat)) : Option (List Int) := if (as.any fun a => (readI a).isNone) = true then none else some (as.filterMap readI)
def inOrder : List Int → Bool
  | a :: b :: _ => decide (a ≤ b)
  | _ => true
def reqOf (w : Str) (rest : List (List Nat)) : Option Req :=
  if w = "end" ∨ w = "abort" then (if rest = [] then some (w, []) else none)
  else match nameOf w, allI rest with
    | some (nm, c), some ns => if ns.length = c ∧ (w = "read" ∨ w = "values" → inOrder ns = true) then some (nm, ns) else none
    | _, _ => none
def reqI (a : List Nat) : Option Req := match spl [32] 0 [] a with
  | [] => none
  | w :: rest => reqOf (S w) rest
end Gk

/-! Lists of texts as data; a text among two -/
namespace Gx
open PySem L2
section
variable {K : PySem.W.Frag} {H : Hp}
theorem shaped_strs : ∀ (xs : List Str), (∀ x ∈ xs, PyData.strOk x = true) → SeqAt.shaped (.list (xs.map PyData.str)) = true := fun xs h => by
  unfold SeqAt.shaped
  have h1 : PyData.canLayAll0 (xs.map PyData.str) = true := by
    induction xs with
    | nil => simp [PyData.canLayAll0]
    | cons n ns ih =>
      have h2 := ih fun x hx => h x (List.mem_cons_of_mem _ hx)
      have h3 := h n List.mem_cons_self
      simp [PyData.canLayAll0, PyData.canLay0, h2, h3]
  have h2 : PyData.depthAll (xs.map PyData.str) ≤ 0 := depthAll_le fun x hx => by
    obtain ⟨n, _, rfl⟩ := List.mem_map.mp hx
    simp [PyData.depth]
  have h3 : PyData.depthAll (xs.map PyData.str) + 1 ≤ 64 := by omega
  simp [PyData.canLay0, PyData.depth, h1, h3]
theorem dpAll_strs : ∀ (xs : List Str), DpAll K H (xs.map V.str) (xs.map PyData.str)
  | [] => .nil
  | x :: r => .cons (.str x) (dpAll_strs r)
theorem bare_strs (xs : List Str) : bare (.list (xs.map PyData.str)) = true := by
  simp only [bare]
  exact bareAll_iff.mpr fun x hx => by
    obtain ⟨n, _, rfl⟩ := List.mem_map.mp hx
    simp [bare]
theorem dp_strs {p : Addr} {xs : List Str} (h : SqL K H p (xs.map V.str)) : Dp K H (.ref p) (.list (xs.map PyData.str)) := .lst h (dpAll_strs xs)
theorem strs_inj {ns ms : List Str} : PyData.list (ns.map PyData.str) = PyData.list (ms.map PyData.str) ↔ ns = ms := by
  constructor
  · intro h
    injection h with h
    induction ns generalizing ms with
    | nil => cases ms with
      | nil => rfl
      | cons m ms => simp at h
    | cons n ns ih => cases ms with
      | nil => simp at h
      | cons m ms =>
        simp only [List.map_cons, List.cons.injEq, PyData.str.injEq] at h
        rw [h.1, ih h.2]
  · intro h
    rw [h]
theorem eqv_strs (ns ms : List Str) : PyData.eqv (.list (ns.map PyData.str)) (.list (ms.map PyData.str)) = decide (ns = ms) := by
  by_cases h : ns = ms
  · rw [decide_eq_true h, eqv_yes (bare_strs _) (bare_strs _) (by rw [h])]
  · rw [decide_eq_false h, eqv_no (bare_strs _) (bare_strs _) (fun z => h (strs_inj.mp z))]
theorem g_eqS {Q : VK} {p q : Addr} {ns ms : List Str} (h1 : SqL K H p (ns.map V.str)) (h2 : SqL K H q (ms.map V.str)) (o1 : ∀ x ∈ ns, PyData.strOk x = true) (o2 : ∀ x ∈ ms, PyData.strOk x = true) (k : Q (.bl (decide (ns = ms))) H) : rEqD K (.ref p) (.ref q) H Q := by
  refine g_eqD (dp_strs h1) (dp_strs h2) (shaped_strs _ o1) (shaped_strs _ o2) ?_
  rw [eqv_strs]
  exact k
theorem strOk_low {x : Str} (h : ∀ c ∈ TL.tl x, c < 128) : PyData.strOk x = true := by
  unfold PyData.strOk
  rw [← Array.all_toList, List.all_eq_true]
  intro c hc
  have := h c hc
  exact decide_eq_true (by omega)
theorem inV_two (x a b : Str) : inV (.str x) [V.str a, V.str b] = decide (x = a ∨ x = b) := by
  have e : inV (.str x) [V.str a, V.str b] = ((a == x) || ((b == x) || false)) := rfl
  rw [e]
  by_cases h1 : x = a
  · subst h1
    simp
  · by_cases h2 : x = b
    · subst h2
      simp
    · have e1 : (a == x) = false := by simpa using fun z => h1 z.symm
      have e2 : (b == x) = false := by simpa using fun z => h2 z.symm
      rw [e1, e2]
      simp [h1, h2]
end
end Gx
namespace Gk
open PySem L2 Gx SX TL
theorem spl_mem (sep : List Nat) : ∀ (l : List Nat) (k : Nat) (acc : List Nat), ∀ p ∈ spl sep k acc l, ∀ c ∈ p, c ∈ acc ∨ c ∈ l
  | [], k, acc => by
    rw [spl_nil]
    intro p hp c hc
    rw [List.mem_singleton.mp hp] at hc
    exact .inl hc
  | c :: r, 0, acc => by
    intro p hp y hy
    cases h : pre sep (c :: r) with
    | true =>
      rw [spl_hit h] at hp
      rcases List.mem_cons.mp hp with rfl | hp
      · exact .inl hy
      · rcases spl_mem sep r _ [] p hp y hy with z | z
        · cases z
        · exact .inr (List.mem_cons_of_mem _ z)
    | false =>
      rw [spl_miss h] at hp
      rcases spl_mem sep r 0 (acc ++ [c]) p hp y hy with z | z
      · rcases List.mem_append.mp z with z | z
        · exact .inl z
        · rw [List.mem_singleton.mp z]
          exact .inr List.mem_cons_self
      · exact .inr (List.mem_cons_of_mem _ z)
  | c :: r, k + 1, acc => by
    have e : spl sep (k + 1) acc (c :: r) = spl sep k acc r := rfl
    rw [e]
    intro p hp y hy
    rcases spl_mem sep r k acc p hp y hy with z | z
    · exact .inl z
    · exact .inr (List.mem_cons_of_mem _ z)
/-- all signs below 128 -/
def Low (a : List Nat) : Prop := ∀ c ∈ a, c < 128
theorem low_spl {sep a : List Nat} (h : Low a) : ∀ p ∈ spl sep 0 [] a, Low p := fun p hp c hc => by
  rcases spl_mem sep a 0 [] p hp c hc with z | z
  · cases z
  · exact h c z
theorem ok_S {a : List Nat} (h : Low a) : PyData.strOk (S a) = true := strOk_low fun c hc => h c hc
/-- what the tables say of a word of a request -/
structure NameF (K : PySem.W.Frag) (aN aC : Addr) (z nm : Str) (c : Nat) : Prop where
  name : ∃ t, PySem.W.nsIn K aN z = some (some (.str nm t))
  count : ∃ t, PySem.W.nsIn K aC z = some (some (.int c t))
  two : (z = "read" ∨ z = "values") → c = 2
  le : c ≤ 2
theorem nameF {K : PySem.W.Frag} {w : World} {mg : Str → Option Value} {aL aN aC : Addr} {eN eC : Array DictEntry} {mN mC : Nat} (W : Words K w mg aL aN aC eN eC mN mC) {z nm : Str} {c : Nat} (h : nameOf z = some (nm, c)) : NameF K aN aC z nm c := by
  unfold nameOf at h
  split at h
  · rename_i e
    obtain ⟨rfl, rfl⟩ := Prod.mk.inj (Option.some.inj h)
    subst e
    exact ⟨W.n1, W.c1, fun _ => rfl, Nat.le_refl 2⟩
  split at h
  · rename_i e
    obtain ⟨rfl, rfl⟩ := Prod.mk.inj (Option.some.inj h)
    subst e
    exact ⟨W.n2, W.c2, fun _ => rfl, Nat.le_refl 2⟩
  split at h
  · rename_i e
    obtain ⟨rfl, rfl⟩ := Prod.mk.inj (Option.some.inj h)
    subst e
    refine ⟨W.n3, W.c3, fun z => ?_, Nat.le_refl 2⟩
    rcases z with z | z <;> exact absurd z (by decide +kernel)
  split at h
  · rename_i e
    obtain ⟨rfl, rfl⟩ := Prod.mk.inj (Option.some.inj h)
    subst e
    refine ⟨W.n4, W.c4, fun z => ?_, Nat.le_succ 1⟩
    rcases z with z | z <;> exact absurd z (by decide +kernel)
  · cases h
end Gk

/-! Errors: defs that raise and are called, by place and by keyword; what is asked of a caught error; raising one with a place -/
namespace Gx
open PySem L2 PySem.Spec PyProof.Rows
/-- what an own class of errors says, so that a caught one may be asked -/
structure ErrC (K : PySem.W.Frag) (D : Addr) : Prop where
  cl : (PySem.W.clsIn K D).isSome = true
  hg : PySem.W.findIn K (.ref D) "__getattribute__" = some (some (.builtin "BaseException.__getattribute__"))
  hk : PySem.W.findIn K (.ref D) "__getattr__" = some none
  hs : PySem.W.subIn K (.ref D) (.type "BaseException") = some true
  hd : PySem.W.hasDictIn K D = true
  ha : PySem.W.findIn K (.ref D) "__class__" = some (some (.builtin "object.__class__"))
  hn : PySem.W.specialIn K (.builtin "object.__class__") "__get__" = some (some (.builtin "getset_descriptor.__get__"))
  ht : PySem.W.takesIn K (.builtin "object.__class__") = some true
  hm : PySem.W.mroIn K D (.type "object") = some true
/-- isinstance(e, c), e a caught error that has its dict -/
def rIsD (K : PySem.W.Frag) (a : Addr) (cls : Value) (d : Option Addr) : List V → Hp → VK → Prop := fun xs H Q => ∃ (D dd : Addr) (fs : List (Str × V)) (c : V) (b : Bool), xs = [.ref a, c] ∧ cls = .ref D ∧ d = some dd ∧ H dd = some (.xd fs) ∧ ErrC K D ∧
  ((∃ u, ClsV c u ∧ PySem.W.kitOne K (.ref D) u = some b) ∨ ∃ tp cs us, c = .ref tp ∧ H tp = some (.tup cs) ∧ Paired ClsV cs us ∧ PySem.W.kitAny K (.ref D) us = some b) ∧ Q (.bl b) H
theorem err_inst {X : Cx} {pins : List (Addr × Obj)} {σ : L2.St} {H : Hp} {s : Shared} {a D dd : Addr} {oe : Obj} {pn : List (Addr × Obj)} {fs : List (Str × V)} (I : Inv (X.suite a ((a, oe) :: pn)) pins σ H s) (hz : Zc (.ref D) (some dd) oe) (hf : ∃ vs, oe.data = .fields vs) (ed : H dd = some (.xd fs)) :
    ∃ (od : Obj) (mA : Str → Option Value), PySem.W.InstAt s.heap a oe D (some od) ∧ (∀ name, PySem.W.lookIn name od = some (mA name)) ∧ ∀ f, RelO (fs.lookup f) (mA f) := by
  obtain ⟨ha, _⟩ := I.pin (a, oe) (List.mem_append_left _ List.mem_cons_self)
  obtain ⟨vs, hd⟩ := hf
  have hx : ObjOk X.prog X.w H s.heap dd (.xd fs) := I.hok dd _ ed
  obtain ⟨mA, hns, hr⟩ := hx
  obtain ⟨od, ho, hl⟩ := lookIn_ns hns
  exact ⟨od, mA, ⟨ha, hz.1, by unfold PySem.W.notCls; rw [hd] <;> rfl, by rw [hz.2]; exact ho⟩, hl, hr⟩
theorem call_isD {X : Cx} {a : Addr} {oe : Obj} {cls : Value} {d : Option Addr} {pn : List (Addr × Obj)} (hz : Zc cls d oe) (hf : ∃ vs, oe.data = .fields vs) : CallR (X.suite a ((a, oe) :: pn)) (.builtin "isinstance") (rIsD X.K a cls d) := by
  intro pins s σ H xs us Q I r h
  obtain ⟨D, dd, fs, c, b, rfl, rfl, rfl, ed, C, hc, q⟩ := h
  obtain ⟨u1, u2, rfl, r1, r2⟩ := vals2 r
  cases (show u1 = Value.ref a from r1)
  obtain ⟨od, mA, J, _, _⟩ := err_inst I hz hf ed
  have Z := PySem.W.kitx_exc (x := a) (ox := oe) (od := some od) C.cl C.hg C.hk C.hs C.ha C.hn C.ht C.hm
  rcases hc with ⟨u, k, e⟩ | ⟨tp, cs, ws, rfl, hT, k, e⟩
  · have e2 := k.eq r2
    subst e2
    exact PySem.W.kia_one Z I.kIn J e (fun z => nomatch z) fun tk => ⟨.bl b, H, I.tok tk, rfl, q⟩
  · cases (show u2 = Value.ref tp from r2)
    obtain ⟨_, its, rv, o, h1, h2, n, h3⟩ := (show ObjOk X.prog X.w H s.heap tp (.tup cs) from I.hok tp _ hT)
    have e3 := ClsV.all k rv
    subst e3
    obtain ⟨oc, od', dt, sl⟩ := o
    simp only at h2 h3
    subst h2 h3
    exact PySem.W.kia_tup Z I.kIn J h1 e (fun z => nomatch z) fun tk => ⟨.bl b, H, I.tok tk, rfl, q⟩
/-- e.f, e a caught error -/
def tErr (K : PySem.W.Frag) (a : Addr) (cls : Value) (d : Option Addr) (f : Str) (te : TE) : TE := fun σ H Q => te σ H fun x H1 => x = .ref a ∧ ∃ (D dd : Addr) (fs : List (Str × V)) (v : V), cls = .ref D ∧ d = some dd ∧ H1 dd = some (.xd fs) ∧ fs.lookup f = some v ∧ ErrC K D ∧ PySem.W.findIn K (.ref D) f = some none ∧ Q v H1
theorem pe_err {X : Cx} {a : Addr} {oe : Obj} {cls : Value} {d : Option Addr} {pn : List (Addr × Obj)} {e : Expr} {te : TE} {f : Str} {pos : Pos} (hz : Zc cls d oe) (hf : ∃ vs, oe.data = .fields vs) (he : PE (X.suite a ((a, oe) :: pn)) e te)
    (hb : attributeBase e f X.env (eval e X.env) = eval e X.env := by rfl) : PE (X.suite a ((a, oe) :: pn)) (.Attribute e f pos) (tErr X.K a cls d f te) := by
  refine ⟨fun pins s σ H Q I h => ?_⟩
  refine attr_of hb (thn (he.run pins s σ H _ I h) fun u s1 hh => ?_)
  obtain ⟨x, H1, I1, rx, ex, D, dd, fs, v, ec, edd, ed, hl, C, no, q⟩ := hh
  subst ex
  obtain rfl : u = Value.ref a := rx
  subst ec
  subst edd
  obtain ⟨od, mA, J, lk, hr⟩ := err_inst I1 hz hf ed
  obtain ⟨u, hu, ru⟩ := RelO.some_of (v := v) (o := mA f) (by rw [← hl]; exact hr f)
  exact PySem.HandSPX.exc_get I1.kIn J C.hg C.hk C.hs (PySem.W.findObj_own C.hd no rfl (by rw [lk, hu])) (handed_of ru) ⟨v, H1, I1.tok _, ru, q⟩
section
variable {X : Cx} {e : Expr} {es : List Expr} {x : Str} {ta : TA} {p pos : Pos}
/-- a def that may raise, called by its name -/
structure CalX (P : Program) (w : World) (K : PySem.W.Frag) (mg : Str → Option Value) (base : Heap) (k : Nat) (x : Str) (sp : Sp) : Prop where
  ex : ∃ (f : Addr) (fd : FuncData) (ps : List Str), FnOk P w K mg base (L2.CX P w) k f fd ps sp ∧ mg x = some (.ref f) ∧ PySem.W.keepIn K (.ref f) = true ∧ Binds K fd ps []
theorem pe_cX {k j : Nat} {sp : Sp} {E : L2.St → XK} (c : CalX X.prog X.w X.K X.mg X.base k x sp) (hr : Room j X.A) (hk : k ≤ j) (hg : Gl X x) (hx : ∀ σ, PassesAt (L2.CX X.prog X.w) X σ (E σ)) (ha : PA X (e :: es) ta)
    (hdb : (x == ("__debug__" : Str)) = false := by decide) (he : starEach (e :: es) X.env = (false, eval e X.env) :: starEach es X.env := by rfl) (hpl : (backTo pos (starEach es X.env)).any (·.1) = false := by rfl) : PE X (.Call (.Name x p) (e :: es) [] pos) (tCallS sp E ta) := by
  obtain ⟨f, fd, ps, F, named, kept, b⟩ := c.ex
  exact pe_callS F (hr.mono hk) hg named kept b hx ha hdb he hpl
/-- .. with keywords alone -/
structure CalKX (P : Program) (w : World) (K : PySem.W.Frag) (mg : Str → Option Value) (base : Heap) (k : Nat) (x : Str) (ks : List Str) (gV : List V → List V → List V) (sp : Sp) : Prop where
  ex : ∃ (f : Addr) (fd : FuncData) (ps : List Str) (g : List Value → List Value → List Value), FnOk P w K mg base (L2.CX P w) k f fd ps sp ∧ mg x = some (.ref f) ∧ PySem.W.keepIn K (.ref f) = true ∧ KBinds K fd ps ks g gV
theorem run_fnkS {pins : List (Addr × Obj)} {σ : L2.St} {H : Hp} {s : Shared} {Q : VK} {us ws : List Value} {vs zs : List V} {CX : CXT} {k : Nat} {f : Addr} {fd : FuncData} {ps ks : List Str} {sp : Sp} {g : List Value → List Value → List Value} {gV : List V → List V → List V} {E : L2.St → XK}
    (F : FnOk X.prog X.w X.K X.mg X.base CX k f fd ps sp) (hr : Room k X.A) (hb : KBinds X.K fd ps ks g gV) (hx : PassesAt CX X σ (E σ))
    (I : Inv X pins σ H s) (r : Vals vs us) (rz : Vals zs ws) (h : sp (gV vs zs) H Q (E σ)) : wpAny (model X.prog X.w) X.A (call (.ref f) us (ks.zip ws)) (EP X pins σ Q) X.xe s := by
  have r2 := hb.rel r rz
  have hl : (g us ws).length = ps.length := by rw [← r2.length]; exact F.len _ _ _ _ h
  refine wpAny_call (codeAny_mono (F.run X.A X.stack s H ⟨us, ks.zip ws⟩ (g us ws) (gV vs zs) Q (E σ) hr I.env0 (hb.to s us ws I.kIn hl) r2 h) fun r s' hq => ?_)
  cases r with
  | error e => exact hx pins H s e s' I hq
  | ok fl =>
    cases fl with
    | ret u => exact I.after hq
    | next => exact False.elim hq
    | brk => exact False.elim hq
    | cont => exact False.elim hq
def tCallKX (sp : Sp) (gV : List V → List V → List V) (E : L2.St → XK) (tk : TA) : TE := fun σ H Q => tk σ H fun zs H2 => sp (gV [] zs) H2 Q (E σ)
theorem pe_cKX {k j : Nat} {ks : List Str} {gV : List V → List V → List V} {sp : Sp} {kws : List Keyword} {tk : TA} {E : L2.St → XK} (c : CalKX X.prog X.w X.K X.mg X.base k x ks gV sp) (hr : Room j X.A) (hk : k ≤ j) (hg : Gl X x) (hx : ∀ σ, PassesAt (L2.CX X.prog X.w) X σ (E σ)) (hkw : PK X kws tk)
    (hdb : (x == ("__debug__" : Str)) = false := by decide) (hall : (backToKw pos (keywordEach kws X.env)).all (·.1.isSome) = true := by rfl) (hks : (backToKw pos (keywordEach kws X.env)).filterMap (·.1) = ks := by rfl)
    (hpl : ((backTo pos (starEach [] X.env)).any (·.1) || (backToKw pos (keywordEach kws X.env)).any (·.1.isNone)) = false := by rfl) : PE X (.Call (.Name x p) [] kws pos) (tCallKX sp gV E tk) := by
  obtain ⟨f, fd, ps, g, F, named, kept, kb⟩ := c.ex
  refine ⟨fun pins s σ H Q I h => wpAny_Call_Name_kw (ld_glob I hg named ?_ hdb)⟩
  refine PySem.W.callWith_KW0 (h₀ := X.base) I.ok.mod.kin kept hall (thn (hkw.run pos pins s σ H _ I h) fun ws s2 got => ?_) hpl
  obtain ⟨zs, H2, I2, rz, q2⟩ := got
  refine ⟨I2.kIn, ?_⟩
  rw [hks]
  exact run_fnkS (us := []) (vs := []) F (hr.mono hk) kb (hx σ) I2 .nil rz q2
end
/-- membership in a tuple of data -/
def rInDT (K : PySem.W.Frag) : R2 := fun x y H Q => ∃ d ds, Dp K H x d ∧ Dp K H y (.tuple ds) ∧ SeqAt.shaped d = true ∧ SeqAt.shaped (.tuple ds) = true ∧ d.depth ≤ 60 ∧ Q (.bl (ds.any fun z => PyData.eqv z d)) H
theorem op_inDT {X : Cx} (hu : X.A.units + 64 < cLine) : OpR X (compareOp .In) (rInDT X.K) := by
  intro pins s σ H x y v u Q I rx ry h
  obtain ⟨d, ds, hd, he, sd, se, dd, q⟩ := h
  obtain ⟨as, r1⟩ := Dp.reads I d x v hd rx
  obtain ⟨bs, r2⟩ := Dp.reads I (.tuple ds) y u he ry
  exact SeqAt.in_tuple_reads r2 r1 (SeqAt.canLay_of_shaped se) (SeqAt.canLay_of_shaped sd) (by omega) ⟨.bl _, H, I, rfl, q⟩
section
variable {σ : L2.St} {H : Hp} {Q : VK} {K : PySem.W.Frag} {ta tk : TA} {te : TE} {D : Ends}
theorem g_cX {sp : Sp} {E : L2.St → XK} (q : ta σ H fun vs H1 => sp vs H1 Q (E σ)) : tCallS sp E ta σ H Q := q
theorem g_cKX {sp : Sp} {gV : List V → List V → List V} {E : L2.St → XK} (q : tk σ H fun zs H2 => sp (gV [] zs) H2 Q (E σ)) : tCallKX sp gV E tk σ H Q := q
theorem g_err {a : Addr} {cls : Value} {d : Option Addr} {f : Str} (q : te σ H fun x H1 => x = .ref a ∧ ∃ (D dd : Addr) (fs : List (Str × V)) (v : V), cls = .ref D ∧ d = some dd ∧ H1 dd = some (.xd fs) ∧ fs.lookup f = some v ∧ ErrC K D ∧ PySem.W.findIn K (.ref D) f = some none ∧ Q v H1) : tErr K a cls d f te σ H Q := q
end
end Gx

/-! Methods of one of several classes that may raise; raising an own error made with a text -/
namespace Gx
open PySem L2 PySem.Spec PyProof.Rows
open C8 (Cal Met Mak)
structure MetF (P : Program) (w : World) (K : PySem.W.Frag) (mg : Str → Option Value) (base : Heap) (CX : CXT) (k : Nat) (S : Addr → Prop) (m : Str) (sp : Addr → Sp) : Prop where
  ex : ∀ C, S C → ∃ (f : Addr) (fd : FuncData) (ps : List Str), Cls K C ∧ Meth K C m f ∧ FnOk P w K mg base CX k f fd ps (sp C) ∧ Binds K fd ps []
theorem passF {X : Cx} {E : L2.St → XK} (σ : L2.St) : PassesAt CX0 X σ (E σ) := fun _ _ _ _ _ _ h => h.elim
def tMethF (S : Addr → Prop) (m : Str) (sp : Addr → Sp) (E : L2.St → XK) (ta : TE) (t : TA) : TE := fun σ H Q => ta σ H fun x H1 => ∃ a C dx fs, x = .ref a ∧ H1 a = some (.ins C dx fs) ∧ S C ∧ fs.lookup m = none ∧ t σ H1 fun vs H2 => sp C (.ref a :: vs) H2 Q (E σ)
section
variable {X : Cx} {CX : CXT} {k j : Nat} {S : Addr → Prop} {m : Str} {sp : Addr → Sp} {E : L2.St → XK} {pos apos : Pos} {e o : Expr} {es : List Expr} {ta : TE} {t : TA}
theorem pe_mtF {pl : Sem Bool} (c : MetF X.prog X.w X.K X.mg X.base CX k S m sp) (hr : Room j X.A) (hk : k ≤ j) (hx : ∀ σ, PassesAt CX X σ (E σ)) (ho : PE X o ta) (ha : PA X (e :: es) t)
    (hst : starEach (e :: es) X.env = (false, eval e X.env) :: starEach es X.env := by rfl) (hpl : (backTo pos (starEach es X.env)).any (·.1) = false := by rfl)
    (form : eval (.Call (.Attribute o m apos) (e :: es) [] pos) X.env = (do
      let obj ← eval o X.env
      standAt apos.atName
      let (fn, firsts) ← holding [obj] (getMethod obj m pl)
      callWith pos fn firsts (backTo pos (starEach (e :: es) X.env)) (backToKw pos (keywordEach [] X.env))) := by rfl) :
    PE X (.Call (.Attribute o m apos) (e :: es) [] pos) (tMethF S m sp E ta t) := by
  refine ⟨fun pins s σ H Q I h => PySem.W.methodCall_KW (pl := pl) (thn (ho.run pins s σ H _ I h) fun u s1 got => ?_) form⟩
  obtain ⟨x, H1, I1, rx, a, C, dx, fs, ex, ea, hC, l, q⟩ := got
  subst ex
  obtain rfl : u = Value.ref a := rx
  obtain ⟨f, fd, ps, cl, me, F, b⟩ := c.ex C hC
  refine getmeth_ok I1 ea cl me l ?_
  refine PySem.W.callWith_K (first := [.ref a]) (h₀ := X.base) I1.ok.mod.kin me.kp (thn (ha.run pos pins s1 σ H1 _ I1 q) fun us s2 got2 => ?_) hst hpl
  obtain ⟨vs, H2, I2, r, q2⟩ := got2
  exact ⟨I2.kIn, run_fnS (us := .ref a :: us) (vs := .ref a :: vs) F (hr.mono hk) b (hx σ) I2 (.cons rfl r) q2⟩
theorem pe_mt0F {pl : Sem Bool} (c : MetF X.prog X.w X.K X.mg X.base CX k S m sp) (hr : Room j X.A) (hk : k ≤ j) (hx : ∀ σ, PassesAt CX X σ (E σ)) (ho : PE X o ta)
    (form : eval (.Call (.Attribute o m apos) [] [] pos) X.env = (do
      let obj ← eval o X.env
      standAt apos.atName
      let (fn, firsts) ← holding [obj] (getMethod obj m pl)
      callWith pos fn firsts (backTo pos (starEach [] X.env)) (backToKw pos (keywordEach [] X.env))) := by rfl) :
    PE X (.Call (.Attribute o m apos) [] [] pos) (tMethF S m sp E ta tNil) := by
  refine ⟨fun pins s σ H Q I h => PySem.W.methodCall_KW (pl := pl) (thn (ho.run pins s σ H _ I h) fun u s1 got => ?_) form⟩
  obtain ⟨x, H1, I1, rx, a, C, dx, fs, ex, ea, hC, l, q⟩ := got
  subst ex
  obtain rfl : u = Value.ref a := rx
  obtain ⟨f, fd, ps, cl, me, F, b⟩ := c.ex C hC
  refine getmeth_ok I1 ea cl me l ?_
  exact PySem.W.callWith_K0 (first := [.ref a]) I1.kIn me.kp (run_fnS (us := [.ref a]) (vs := [.ref a]) F (hr.mono hk) b (hx σ) I1 (.cons rfl .nil) q)
structure MetKF (P : Program) (w : World) (K : PySem.W.Frag) (mg : Str → Option Value) (base : Heap) (CX : CXT) (k : Nat) (S : Addr → Prop) (m : Str) (ks : List Str) (gV : List V → List V → List V) (sp : Addr → Sp) : Prop where
  ex : ∀ C, S C → ∃ (f : Addr) (fd : FuncData) (ps : List Str) (g : List Value → List Value → List Value), Cls K C ∧ Meth K C m f ∧ FnOk P w K mg base CX k f fd ps (sp C) ∧ KBinds K fd ps ks g gV
def tMethKF (S : Addr → Prop) (m : Str) (sp : Addr → Sp) (gV : List V → List V → List V) (E : L2.St → XK) (ta : TE) (tk : TA) : TE := fun σ H Q => ta σ H fun x H1 => ∃ a C dx fs, x = .ref a ∧ H1 a = some (.ins C dx fs) ∧ S C ∧ fs.lookup m = none ∧ tk σ H1 fun zs H2 => sp C (gV [.ref a] zs) H2 Q (E σ)
theorem pe_mtKF {ks : List Str} {gV : List V → List V → List V} {kws : List Keyword} {tk : TA} {pl : Sem Bool} (c : MetKF X.prog X.w X.K X.mg X.base CX k S m ks gV sp) (hr : Room j X.A) (hk : k ≤ j) (hx : ∀ σ, PassesAt CX X σ (E σ)) (ho : PE X o ta) (hkw : PK X kws tk)
    (hall : (backToKw pos (keywordEach kws X.env)).all (·.1.isSome) = true := by rfl) (hks : (backToKw pos (keywordEach kws X.env)).filterMap (·.1) = ks := by rfl)
    (hpl : ((backTo pos (starEach [] X.env)).any (·.1) || (backToKw pos (keywordEach kws X.env)).any (·.1.isNone)) = false := by rfl)
    (form : eval (.Call (.Attribute o m apos) [] kws pos) X.env = (do
      let obj ← eval o X.env
      standAt apos.atName
      let (fn, firsts) ← holding [obj] (getMethod obj m pl)
      callWith pos fn firsts (backTo pos (starEach [] X.env)) (backToKw pos (keywordEach kws X.env))) := by rfl) :
    PE X (.Call (.Attribute o m apos) [] kws pos) (tMethKF S m sp gV E ta tk) := by
  refine ⟨fun pins s σ H Q I h => PySem.W.methodCall_KW (pl := pl) (thn (ho.run pins s σ H _ I h) fun u s1 got => ?_) form⟩
  obtain ⟨x, H1, I1, rx, a, C, dx, fs, ex, ea, hC, l, q⟩ := got
  subst ex
  obtain rfl : u = Value.ref a := rx
  obtain ⟨f, fd, ps, g, cl, me, F, kb⟩ := c.ex C hC
  refine getmeth_ok I1 ea cl me l ?_
  refine PySem.W.callWith_KW0 (h₀ := X.base) I1.ok.mod.kin me.kp hall (thn (hkw.run pos pins s1 σ H1 _ I1 q) fun ws s2 got2 => ?_) hpl
  obtain ⟨zs, H2, I2, rz, q2⟩ := got2
  refine ⟨I2.kIn, ?_⟩
  rw [hks]
  exact run_fnkS (us := [.ref a]) (vs := [.ref a]) F (hr.mono hk) kb (hx σ) I2 (.cons rfl .nil) rz q2
structure PropF (P : Program) (w : World) (K : PySem.W.Frag) (mg : Str → Option Value) (base : Heap) (k : Nat) (S : Addr → Prop) (f : Str) (sp : Addr → Sp) : Prop where
  ex : ∀ C, S C → PropR P w K mg base k C f (sp C)
def tPropF (S : Addr → Prop) (sp : Addr → Sp) (ta : TE) : TE := fun σ H Q => ta σ H fun x H1 => ∃ a C dx fs, x = .ref a ∧ H1 a = some (.ins C dx fs) ∧ S C ∧ sp C [.ref a] H1 Q (fun _ _ _ => False)
theorem pe_prF {f : Str} (c : PropF X.prog X.w X.K X.mg X.base k S f sp) (hr : Room j X.A) (hk : k + 1 ≤ j) (he : PE X e ta) (hab : attributeBase e f X.env (eval e X.env) = eval e X.env := by rfl) : PE X (.Attribute e f pos) (tPropF S sp ta) := by
  refine ⟨fun pins s σ H Q I h => ?_⟩
  refine attr_of hab (thn (he.run pins s σ H _ I h) fun u s1 got => ?_)
  obtain ⟨x, H1, I1, rx, a, C, dx, fs, ex, ea, hC, q⟩ := got
  subst ex
  obtain rfl : u = Value.ref a := rx
  obtain ⟨p, g, fd, ps, cl, pr, F, b⟩ := (c.ex C hC).ex
  exact getprop_ok I1 ea cl pr F (hr.mono hk) b .nil pass0 q
def rOwnF (S : Addr → Prop) (sp : Addr → Sp) (neg : Bool) : R2 := fun y x H Q => ∃ a C dx fs, x = .ref a ∧ H a = some (.ins C dx fs) ∧ S C ∧ sp C [.ref a, y] H (fun r H' => ∃ b, r = .bl b ∧ Q (.bl (if neg = true then !b else b)) H') (fun _ _ _ => False)
theorem op_ownInF (c : MetF X.prog X.w X.K X.mg X.base CX0 k S "__contains__" sp) (hr : Room j X.A) (hk : k ≤ j) : OpR X (compareOp .In) (rOwnF S sp false) := fun pins s σ H y x v u Q I ry rx h => by
  obtain ⟨a, C, dx, fs, e, ha, hC, q⟩ := h
  obtain ⟨f, fd, ps, cl, me, F, b⟩ := c.ex C hC
  exact op_ownIn (k := k) (C := C) (sp := sp C) ⟨f, fd, ps, [], cl, me, F, b, .nil⟩ hr hk pins s σ H y x v u Q I ry rx ⟨a, dx, fs, e, ha, q⟩
theorem op_ownNotInF (c : MetF X.prog X.w X.K X.mg X.base CX0 k S "__contains__" sp) (hr : Room j X.A) (hk : k ≤ j) : OpR X (compareOp .NotIn) (rOwnF S sp true) := fun pins s σ H y x v u Q I ry rx h => by
  obtain ⟨a, C, dx, fs, e, ha, hC, q⟩ := h
  obtain ⟨f, fd, ps, cl, me, F, b⟩ := c.ex C hC
  exact op_ownNotIn (k := k) (C := C) (sp := sp C) ⟨f, fd, ps, [], cl, me, F, b, .nil⟩ hr hk pins s σ H y x v u Q I ry rx ⟨a, dx, fs, e, ha, q⟩
/-- an own class of errors that may be raised with a text -/
structure OwnE (K : PySem.W.Frag) (mg : Str → Option Value) (x : Str) (C : Addr) : Prop where
  named : mg x = some (.ref C)
  shape : PySem.W.excIn K C [.type "ValueError", .type "Exception", .type "BaseException", .type "object"] "ValueError.__new__" = true
  kept : PySem.W.keepIn K (.ref C) = true
  under : PySem.W.subIn K (.ref C) (.type "BaseException") = some true
  typed : PySem.W.typeIn K (.ref C) = some (.type "type")
def tOwn (C : Addr) (W : WX) : TS := fun _ σ H => W (.ref C) none σ H
theorem ps_own {x : Str} {m : Str} {j : Nat} {p p2 pos pos2 : Pos} {C : Addr} {W : WX} (B : OwnE X.K X.mg x C) (hc : X.calm = true) (tk : Takes X W) (hg : Gl X x) (hdb : (x == ("__debug__" : Str)) = false := by decide) :
    PS X (.Raise (some (.Call (.Name x p) [.Constant (.str m) j p2] [] pos)) none pos2) (tOwn C W) :=
  ps_raise hc tk (pmk_own PySem.F.excBase_ValueError B.shape B.named B.kept (raises_own B.under B.typed) hg hdb)
end
section
variable {σ : L2.St} {H : Hp} {Q : VK} {S : Addr → Prop} {m : Str} {sp : Addr → Sp} {ta : TE} {t : TA} {a C dx : Addr} {fs : List (Str × V)} {E : L2.St → XK}
def MethFQ (S : Addr → Prop) (m : Str) (sp : Addr → Sp) (E : L2.St → XK) (t : TA) (σ : L2.St) (x : V) (H : Hp) (Q : VK) : Prop := ∃ a C dx fs, x = .ref a ∧ H a = some (.ins C dx fs) ∧ S C ∧ fs.lookup m = none ∧ t σ H fun vs H2 => sp C (.ref a :: vs) H2 Q (E σ)
theorem g_tmethF (q : ta σ H fun x H1 => MethFQ S m sp E t σ x H1 Q) : tMethF S m sp E ta t σ H Q := q
theorem g_methF (h : H a = some (.ins C dx fs)) (hC : S C) (l : fs.lookup m = none) (q : t σ H fun vs H2 => sp C (.ref a :: vs) H2 Q (E σ)) : MethFQ S m sp E t σ (.ref a) H Q := ⟨a, C, dx, fs, rfl, h, hC, l, q⟩
def MethKFQ (S : Addr → Prop) (m : Str) (sp : Addr → Sp) (gV : List V → List V → List V) (E : L2.St → XK) (t : TA) (σ : L2.St) (x : V) (H : Hp) (Q : VK) : Prop := ∃ a C dx fs, x = .ref a ∧ H a = some (.ins C dx fs) ∧ S C ∧ fs.lookup m = none ∧ t σ H fun zs H2 => sp C (gV [.ref a] zs) H2 Q (E σ)
theorem g_tmethKF {gV : List V → List V → List V} (q : ta σ H fun x H1 => MethKFQ S m sp gV E t σ x H1 Q) : tMethKF S m sp gV E ta t σ H Q := q
theorem g_methKF {gV : List V → List V → List V} (h : H a = some (.ins C dx fs)) (hC : S C) (l : fs.lookup m = none) (q : t σ H fun zs H2 => sp C (gV [.ref a] zs) H2 Q (E σ)) : MethKFQ S m sp gV E t σ (.ref a) H Q := ⟨a, C, dx, fs, rfl, h, hC, l, q⟩
def PropFQ (S : Addr → Prop) (sp : Addr → Sp) (x : V) (H : Hp) (Q : VK) : Prop := ∃ a C dx fs, x = .ref a ∧ H a = some (.ins C dx fs) ∧ S C ∧ sp C [.ref a] H Q (fun _ _ _ => False)
theorem g_tpropF (q : ta σ H fun x H1 => PropFQ S sp x H1 Q) : tPropF S sp ta σ H Q := q
theorem g_propF (h : H a = some (.ins C dx fs)) (hC : S C) (q : sp C [.ref a] H Q (fun _ _ _ => False)) : PropFQ S sp (.ref a) H Q := ⟨a, C, dx, fs, rfl, h, hC, q⟩
theorem g_ownF {y : V} (h : H a = some (.ins C dx fs)) (hC : S C) (q : sp C [.ref a, y] H (fun r H' => ∃ b, r = .bl b ∧ Q (.bl (if false = true then !b else b)) H') (fun _ _ _ => False)) : rOwnF S sp false y (.ref a) H Q := ⟨a, C, dx, fs, rfl, h, hC, q⟩
theorem g_ownE {C : Addr} {W : WX} {D : Ends} (q : W (.ref C) none σ H) : tOwn C W D σ H := q
end
end Gx

/-! What an object is to a line: a point of its kind or not; lines in the heap; what a range meets -/
namespace Gx
open PySem L2 PySem.Spec PyProof.Rows
theorem g_iteNF {c : Prop} [Decidable c] {A B : Prop} (h : c) (q : B) : if (!decide c) = true then A else B := g_ifF (by rw [decide_eq_true h]; rfl) q
theorem g_iteNT {c : Prop} [Decidable c] {A B : Prop} (h : ¬ c) (q : A) : if (!decide c) = true then A else B := g_ifT (by rw [decide_eq_false h]; rfl) q
section
variable {K : PySem.W.Frag} {H H' : Hp}
theorem tyO_same {x : V} {t : Value} (s : Same H H') (h : TyOf K H x t) : TyOf K H' x t := by
  cases h with
  | non => exact .non
  | bl b => exact .bl b
  | int i => exact .int i
  | str a => exact .str a
  | flt a => exact .flt a
  | lst e => exact .lst (s _ _ e)
  | frz e => exact .frz (s _ _ e)
  | tup e => exact .tup (s _ _ e)
  | dK e => exact .dK (s _ _ e)
  | dT e => exact .dT (s _ _ e)
  | ins e c a b d m => exact .ins (s _ _ e) c a b d m
theorem tyX_same {x : V} {t : Value} (s : Same H H') (h : TyX K H x t) : TyX K H' x t := by
  cases h with
  | base h => exact .base (tyO_same s h)
  | byt b => exact .byt b
  | set e => exact .set (s _ _ e)
  | kList e c => exact .kList e c
  | kTuple e c => exact .kTuple e c
  | kDict e c => exact .kDict e c
  | fTuple e => exact .fTuple (s _ _ e)
  | fDict e => exact .fDict (s _ _ e)
theorem whole_same {x : V} {b : Bool} (s : Same H H') (h : WholeV K H x b) : WholeV K H' x b := by
  cases h with
  | int i => exact .int i
  | bl c => exact .bl c
  | other ty no => exact .other (tyX_same s ty) no
theorem sqT_ty {a : Addr} {xs : List V} (h : SqT K H a xs) : TyX K H (.ref a) (.type "tuple") := by
  rcases h with h | ⟨o, its, n, e, c, _⟩
  · rcases h with h | ⟨o, h⟩
    · exact .base (.tup h)
    · exact .fTuple h
  · exact .kTuple e c
/-- is it a tuple of two whole numbers -/
inductive PairV (K : PySem.W.Frag) (H : Hp) : V → Bool → Prop
  | other {x : V} {t : Value} (ty : TyX K H x t) (no : PySem.W.kitOne K t (.type "tuple") = some false) : PairV K H x false
  | tup {r : Addr} {xs : List V} {bs : List Bool} (e : SqT K H r xs) (l : xs.length = bs.length) (w : ∀ (i : Nat) x b, xs[i]? = some x → bs[i]? = some b → WholeV K H x b) : PairV K H (.ref r) (decide (xs.length = 2) && bs.all id)
theorem pair_same {x : V} {b : Bool} (s : Same H H') (h : PairV K H x b) : PairV K H' x b := by
  cases h with
  | other ty no => exact .other (tyX_same s ty) no
  | tup e l w => exact .tup (same_sqT s e) l fun i x b h1 h2 => whole_same s (w i x b h1 h2)
end
/-- a kind of points, as lines know it -/
class Ln (α : Type) extends Kd α where
  pv : PySem.W.Frag → Hp → V → Bool → Prop
  pv_same : ∀ {K H H' x b}, Same H H' → pv K H x b → pv K H' x b
  pv_ok : ∀ {K H x} {a : α}, Dp K H x (D a) → pv K H x true
  ahead : α → Int → Bool
  beyond : α → Int → Bool
  gap : Option α → Option α → Int → Int → Bool
def gapV (l r : Option Pr) (lo hi : Int) : Bool := match l, r with
  | some a, some b => if a.1 = b.1 then decide (lo ≤ a.1 ∧ a.1 ≤ hi) && decide (1 < b.2 - a.2) else decide (a.1 ≤ hi) && decide (lo ≤ b.1)
  | none, some b => decide (lo ≤ b.1)
  | some a, none => decide (a.1 ≤ hi)
  | none, none => true
instance : Ln Int where
  pv := WholeV
  pv_same := whole_same
  pv_ok h := by
    cases h
    exact .int _
  ahead a lo := decide (a < lo)
  beyond a hi := decide (hi < a)
  gap := gapIn
instance : Ln Pr where
  pv := PairV
  pv_same := pair_same
  pv_ok h := by
    obtain ⟨r, rfl, e⟩ := pr_at h
    exact .tup (bs := [true, true]) e rfl fun i x b h1 h2 => by
      match i, h1, h2 with
      | 0, h1, h2 => cases (Option.some.inj h1); cases (Option.some.inj h2); exact .int _
      | 1, h1, h2 => cases (Option.some.inj h1); cases (Option.some.inj h2); exact .int _
      | n + 2, h1, h2 => simp at h1
  ahead a lo := decide (a.1 < lo)
  beyond a hi := decide (hi < a.1)
  gap := gapV
section
variable {α : Type} [Ln α] {K : PySem.W.Frag} {H H' : Hp}
open Kd
/-- a line of the class at C with these points -/
def LnAt (K : PySem.W.Frag) (C : Addr) (H : Hp) (p : Addr) (as : List α) : Prop := ∃ dx q, H p = some (.ins C dx (lf q)) ∧ PtsL K H q as
theorem LnAt.same {C p : Addr} {as : List α} (h : LnAt K C H p as) (s : Same H H') : LnAt K C H' p as := by
  obtain ⟨dx, q, e, l⟩ := h
  exact ⟨dx, q, s _ _ e, l.same s⟩
/-- .. of one of some classes -/
def LnS (K : PySem.W.Frag) (S : Addr → Prop) (H : Hp) (p : Addr) (as : List α) : Prop := ∃ C, S C ∧ LnAt K C H p as
theorem LnS.same {S : Addr → Prop} {p : Addr} {as : List α} (h : LnS K S H p as) (s : Same H H') : LnS K S H' p as := by
  obtain ⟨C, hC, l⟩ := h
  exact ⟨C, hC, l.same s⟩
/-- None or a point -/
def oK : Option α → PyData
  | none => .none
  | some a => D a
theorem nol_o (o : Option α) : noLst (oK o) = true := by
  cases o with
  | none => simp [oK, noLst]
  | some a => exact nol a
def gapK (l r : Option α) : PyData := .tuple [.str "gap", oK l, oK r]
def pointK (y : α) : PyData := .tuple [.str "point", D y]
def inK (y : α) (lo hi : Int) : Bool := !Ln.ahead y lo && !Ln.beyond y hi
def ptStepK (lo hi : Int) : Option α → List PyData
  | none => []
  | some y => if inK y lo hi = true then [pointK y] else []
def stepK (lo hi : Int) (l r : Option α) : List PyData := (if Ln.gap l r lo hi = true then [gapK l r] else []) ++ ptStepK lo hi r
def foldK (lo hi : Int) (s : Option α × List PyData) (r : Option α) : Option α × List PyData := (r, s.2 ++ stepK lo hi s.1 r)
def rightsK (as : List α) : List (Option α) := as.map some ++ [none]
def cellsK (as : List α) (lo hi : Int) : List PyData := ((rightsK as).foldl (foldK lo hi) (none, [])).2
theorem rightsK_len (as : List α) : (rightsK as).length = as.length + 1 := by simp [rightsK]
theorem nol_gapK (l r : Option α) : noLst (gapK l r) = true := by
  simp [gapK, noLst, noLstAll, nol_o]
theorem nol_pointK (y : α) : noLst (pointK y) = true := by
  simp [pointK, noLst, noLstAll, nol]
theorem stepK_len (lo hi : Int) (l r : Option α) : (stepK lo hi l r).length ≤ 2 := by
  unfold stepK
  rw [List.length_append]
  have h1 : (if Ln.gap l r lo hi = true then [gapK l r] else []).length ≤ 1 := by
    split
    · exact Nat.le_refl 1
    · exact Nat.zero_le 1
  have h2 : (ptStepK lo hi r).length ≤ 1 := by
    cases r with
    | none => exact Nat.zero_le 1
    | some y =>
      show (if inK y lo hi = true then [pointK y] else []).length ≤ 1
      split
      · exact Nat.le_refl 1
      · exact Nat.zero_le 1
  omega
theorem stepK_all (P : PyData → Prop) (lo hi : Int) (l r : Option α) (h1 : P (gapK l r)) (h2 : ∀ y, r = some y → P (pointK y)) : ∀ d ∈ stepK lo hi l r, P d := by
  intro d hd
  unfold stepK at hd
  rcases List.mem_append.mp hd with h | h
  · by_cases c : Ln.gap l r lo hi = true
    · rw [if_pos c] at h
      rw [List.mem_singleton.mp h]
      exact h1
    · rw [if_neg c] at h
      cases h
  · cases r with
    | none => cases h
    | some y =>
      have h : d ∈ (if inK y lo hi = true then [pointK y] else []) := h
      by_cases c : inK y lo hi = true
      · rw [if_pos c] at h
        rw [List.mem_singleton.mp h]
        exact h2 y rfl
      · rw [if_neg c] at h
        cases h
theorem cellsK_keep (P : PyData → Prop) (lo hi : Int) : ∀ (rs : List (Option α)) (s : Option α × List PyData), (∀ (l r : Option α), ∀ d ∈ stepK lo hi l r, P d) → (∀ d ∈ s.2, P d) → ∀ d ∈ (rs.foldl (foldK lo hi) s).2, P d
  | [], s, _, h2 => h2
  | r :: rs, s, h1, h2 => cellsK_keep P lo hi rs (foldK lo hi s r) h1 fun d hd => by
    rcases List.mem_append.mp hd with h | h
    · exact h2 d h
    · exact h1 _ _ d h
theorem nol_cellsK (lo hi : Int) (rs : List (Option α)) : noLstAll (rs.foldl (foldK lo hi) (none, [])).2 = true :=
  noLstAll_iff.mpr (cellsK_keep (fun d => noLst d = true) lo hi rs _ (fun l r => stepK_all _ lo hi l r (nol_gapK l r) fun y _ => nol_pointK y) (by intro d hd; cases hd))
/-- the values of such options in the heap -/
theorem dpO_at {rs : List (Option α)} {xs : List V} {i : Nat} {x : V} (d : DpAll K H xs (rs.map oK)) (h : xs[i]? = some x) : ∃ r, rs[i]? = some r ∧ Dp K H x (oK r) := by
  obtain ⟨d', h1, h2⟩ := dpAll_get d h
  rw [List.getElem?_map] at h1
  cases e : rs[i]? with
  | none => rw [e] at h1; cases h1
  | some a =>
    rw [e] at h1
    have : oK a = d' := Option.some.inj h1
    rw [← this] at h2
    exact ⟨a, rfl, h2⟩
theorem dpO_rights {xs : List V} {as : List α} (d : DpAll K H xs (as.map D)) : DpAll K H (xs ++ [V.non]) ((rightsK as).map oK) := by
  have e : (rightsK as).map oK = as.map D ++ [PyData.none] := by
    unfold rightsK
    rw [List.map_append, List.map_map]
    rfl
  rw [e]
  exact dpAll_append d (.cons .non .nil)
theorem dp_non {x : V} {o : Option α} (h : Dp K H x (oK o)) : decide (x = V.non) = o.isNone := by
  cases o with
  | none =>
    have h : Dp K H x .none := h
    cases h
    rfl
  | some a =>
    have h : Dp K H x (D a) := h
    refine decide_eq_false fun z => ?_
    subst z
    have b := nn a
    generalize D a = d at h b
    cases h
    exact b rfl
end
section
variable {K : PySem.W.Frag} {H H' : Hp}
/-- an object that is no list and no tuple is changed: data stays -/
def Odd (o : HO) : Prop := (∀ xs, o ≠ .lst xs) ∧ (∀ xs, o ≠ .tup xs) ∧ ∀ ob u, o ≠ .frz ob u
theorem odd_ins {C dx : Addr} {fs : List (Str × V)} : Odd (.ins C dx fs) := ⟨(by intro xs z; cases z), (by intro xs z; cases z), (by intro ob u z; cases z)⟩
theorem sqL_odd {p a : Addr} {o : HO} {xs : List V} (hp : H p = some o) (no : Odd o) (b : But p H H') (h : SqL K H a xs) : SqL K H' a xs := by
  rcases h with (h | ⟨ob, h⟩) | h
  · exact .inl (.inl (b a _ (ne_of h hp (fun z => no.1 _ z.symm)) h))
  · exact .inl (.inr ⟨ob, b a _ (ne_of h hp (fun z => no.2.2 _ _ z.symm)) h⟩)
  · exact .inr h
theorem sqT_odd {p a : Addr} {o : HO} {xs : List V} (hp : H p = some o) (no : Odd o) (b : But p H H') (h : SqT K H a xs) : SqT K H' a xs := by
  rcases h with (h | ⟨ob, h⟩) | h
  · exact .inl (.inl (b a _ (ne_of h hp (fun z => no.2.1 _ z.symm)) h))
  · exact .inl (.inr ⟨ob, b a _ (ne_of h hp (fun z => no.2.2 _ _ z.symm)) h⟩)
  · exact .inr h
mutual
theorem dp_odd {p : Addr} {o : HO} (hp : H p = some o) (no : Odd o) (b : But p H H') : ∀ (d : PyData) (v : V), Dp K H v d → Dp K H' v d
  | .none, _, h => by cases h; exact .non
  | .bool c, _, h => by cases h; exact .bl c
  | .int i, _, h => by cases h; exact .int i
  | .str x, _, h => by cases h; exact .str x
  | .list ds, _, h => by
    cases h with
    | lst a c => exact .lst (sqL_odd hp no b a) (dp_oddAll hp no b ds _ c)
  | .dict _, _, h => by cases h
  | .tuple ds, _, h => by
    cases h with
    | tup a c => exact .tup (sqT_odd hp no b a) (dp_oddAll hp no b ds _ c)
theorem dp_oddAll {p : Addr} {o : HO} (hp : H p = some o) (no : Odd o) (b : But p H H') : ∀ (ds : List PyData) (vs : List V), DpAll K H vs ds → DpAll K H' vs ds
  | [], _, h => by cases h; exact .nil
  | d :: ds, _, h => by
    cases h with
    | cons a c => exact .cons (dp_odd hp no b d _ a) (dp_oddAll hp no b ds _ c)
end
end
end Gx

/-! Errors as values: made (by place, by keyword), kept, asked, read -/
namespace PySem
namespace EVX
open PySem.W PySem.Calls PyProof.Rows PySem.HandSPX
section
variable {M : Model} {prog : Program} {w : World} {A : Around} {E : Value → Shared → Prop} {R : Result → Shared → Prop} {h : Heap} {g : Array GenState} {d : Drawn} {t : Nat} {os : OsState}
variable {nm q : Str} {C N : Addr} {bs bm bmB : List Value} {hdct : Bool} {sn : List Str} {sub : List Value} {ab : Bool} {col : Option Bool} {dd : Option Addr} {k0 k1 k2 k3 k5 : Option Value} {B newId initId : String} {kw : List (Str × Value)}
theorem check_new_ownK (F : ExcBaseFacts B newId initId bmB) (hT : ∀ X : String, bm.contains (.type X) = bmB.contains (.type X)) {rest : List Value} {Q : Unit → Shared → Prop}
    (hC : h.get? C = some (excClassObj nm q C N bs bm hdct sn sub ab col dd k0 k1 k2 k3 k5 newId)) (hq : Q () ⟨h, g, d, t, os⟩) : wpAny M A (checkBuiltinCall newId ⟨.ref C :: rest, kw⟩) Q E ⟨h, g, d, t, os⟩ := by
  have hcont : (Value.ref C :: bm).contains (.type B) = true := by rw [List.contains_cons, hT, F.hasB, Bool.or_true]
  have hstar := F.noStar
  simp only [checkBuiltinCall, F.newKind, F.newSplit, F.newRow]
  repeat (first | refine wpAny_loadPart_at hC ?_ | (refine wpAny_isSubtype_exc hC ?_; rw [hcont]) | refine wpAny_staticBase_exc hC ?_ | refine wpAny_madeBy_exc hC ?_ | simp only [bne_self_eq_false, Bool.false_eq_true, if_false] | wp_step)
  exact hq
theorem new_ownK (F : ExcBaseFacts B newId initId bmB) (hT : ∀ X : String, bm.contains (.type X) = bmB.contains (.type X)) {rest : List Value}
    (hC : h.get? C = some (excClassObj nm q C N bs bm hdct sn sub ab col dd k0 k1 k2 k3 k5 newId))
    (hq : R (.ok (.ret (.ref (h.objs.size + 1)))) ⟨(h.push { cls := .type "tuple", data := .seq rest.toArray }).push
      { cls := .ref C, data := .fields #[.ref h.objs.size, .none, .none, .none, .bool false, .none] }, g, d, t, os⟩) (hrest : rest.length ≤ sizeLine) :
    codeAny (model prog w) A (.builtin newId ⟨.ref C :: rest, kw⟩) R ⟨h, g, d, t, os⟩ := by
  have hends := F.ends
  have hcB : (Value.ref C :: bm).contains (.type B) = true := by rw [List.contains_cons, hT, F.hasB, Bool.or_true]
  have hcA : (Value.ref C :: bm).contains (.type "AttributeError") = false := by rw [List.contains_cons, hT, F.noAttr]; rfl
  have hcN : (Value.ref C :: bm).contains (.type "NameError") = false := by rw [List.contains_cons, hT, F.noName]; rfl
  refine codeAny_builtinAt F.entry ?_
  unfold Builtin.«BaseException.__new__»
  refine wpAt_bind ?_
  show wpAt _ _ _ (stack >>= _) _ _ _
  refine wpAt_bind (wpAt_stack fun p below => wpAt_of_wpAny ?_)
  wp_walk
  refine wpAt_of_wpAny ?_
  rw [F.owner]
  repeat (first | with_reducible refine wpAny_madeHere_exc F.canon hC ?_ | with_reducible refine wpAny_loadPart_at hC ?_ | (with_reducible refine wpAny_isSubtype_exc hC ?_; first | rw [hcB] | rw [hcA] | rw [hcN]) | wp_step)
  show R _ _
  rw [Heap.size_push]
  exact hq
theorem type_call_ownK (F : ExcBaseFacts B newId initId bmB) (hT : ∀ X : String, bm.contains (.type X) = bmB.contains (.type X)) {rest : List Value} {fI : Addr} {Q : Fin → Shared → Prop}
    (hC : h.get? C = some (excClassObj nm q C N bs bm hdct sn sub ab col dd k0 k1 k2 k3 k5 newId))
    (hi : W.Looks (model prog w) h (typeLookup (.ref C) "__init__") (some (.ref fI))) (hb : ∀ self, W.Looks (model prog w) h (bindSpecial (.ref fI) self) (.ref fI, [self])) (hrest : rest.length ≤ sizeLine)
    (hq : codeAny (model prog w) A (.call (.ref fI) ⟨.ref (h.objs.size + 1) :: rest, kw⟩)
      (fun r s' => match r with | .ok (.ret v) => v = .none ∧ Q (.done (.ret (.ref (h.objs.size + 1)))) s' | .ok _ => False | .error e => E e s')
      ⟨(h.push (W.kdv_tup rest)).push (excO C h.objs.size), g, d, t, os⟩) :
    wpAny (model prog w) A (Builtin.«type.__call__» ⟨.ref C :: rest, kw⟩) Q E ⟨h, g, d, t, os⟩ := by
  repeat (first | with_reducible refine wpAny_loadPart_at hC ?_ | with_reducible refine wpAny_madeBy_exc hC ?_ | wp_step)
  refine codeAny_call_builtin_code (Code.quiet_builtin _ F.quiet) (check_new_ownK F hT hC ?_)
  refine new_ownK F hT hC ?_ hrest
  show wpAny _ _ _ _ _ _
  have k : ∀ b o, h.get? b = some o → ((h.push (W.kdv_tup rest)).push (excO C h.objs.size)).get? b = some o := fun b o e => Heap.get?_push_of_some _ (Heap.get?_push_of_some _ e)
  have hC₁ := k _ _ hC
  have hget : ((h.push (W.kdv_tup rest)).push (excO C h.objs.size)).get? (h.objs.size + 1) = some (excO C h.objs.size) := by heap_get
  have hcC : (Value.ref C :: bm).contains (.ref C) = true := by simp
  have i1 := hi.keeps k
  have b1 := (hb (.ref (h.objs.size + 1))).keeps k
  unfold isInstance
  repeat (first | with_reducible refine wpAny_loadPart_at hget ?_ | (with_reducible refine wpAny_isSubtype_exc hC₁ ?_; rw [hcC]) | wp_step)
  show wpAny _ _ (typeLookup (.ref C) _) _ _ _
  refine i1.at ?_
  refine wpAny_holding (wpAny_bind (b1.at ?_))
  refine wpAny_bind (wpAny_call (codeAny_mono hq fun r s' z => ?_))
  rcases r with e | (v | _ | _ | _) <;> first | exact z | exact z.elim | skip
  obtain ⟨rfl, z⟩ := z
  first
    | exact wpAny_pure (wpAny_pure z)
    | (wp_walk; exact z)
theorem check_type_call_subK {rest : List Value} {Q : Unit → Shared → Prop} (hC : h.get? C = some (excClassObj nm q C N bs bm hdct sn sub ab col dd k0 k1 k2 k3 k5 newId))
    (hq : Q () ⟨h, g, d, t, os⟩) : wpAny M A (checkBuiltinCall "type.__call__" ⟨.ref C :: rest, kw⟩) Q E ⟨h, g, d, t, os⟩ := by
  have f3 := tc_sub
  have hT : (⟨h, g, d, t, os⟩ : Shared).TypeIs (.ref C) "type" := ⟨_, hC, rfl⟩
  simp only [checkBuiltinCall, tc_kind, tc_split]
  repeat (any_goals (first | assumption | with_reducible refine wpAny_loadPart_at hC ?_ | with_reducible refine wpAny_onRaise ?_ | with_reducible refine wpAny_map ?_ | wp_step))
theorem call_ownK (F : ExcBaseFacts B newId initId bmB) (hT : ∀ X : String, bm.contains (.type X) = bmB.contains (.type X)) {rest : List Value} {fI : Addr}
    (hC : h.get? C = some (excClassObj nm q C N bs bm hdct sn sub ab col dd k0 k1 k2 k3 k5 newId))
    (hi : W.Looks (model prog w) h (typeLookup (.ref C) "__init__") (some (.ref fI))) (hb : ∀ self, W.Looks (model prog w) h (bindSpecial (.ref fI) self) (.ref fI, [self])) (hrest : rest.length ≤ sizeLine)
    (hq : codeAny (model prog w) (A.under (.builtin "type.__call__" ⟨.ref C :: rest, kw⟩)) (.call (.ref fI) ⟨.ref (h.objs.size + 1) :: rest, kw⟩) (W.InitBack (h.objs.size + 1) R)
      ⟨(h.push (W.kdv_tup rest)).push (excO C h.objs.size), g, d, t, os⟩) :
    codeAny (model prog w) A (.call (.ref C) ⟨rest, kw⟩) R ⟨h, g, d, t, os⟩ := by
  have f1 := tc_lookup
  have f2 := tc_bind (.ref C)
  have hTy : (⟨h, g, d, t, os⟩ : Shared).TypeIs (.ref C) "type" := ⟨_, hC, rfl⟩
  refine codeAny_of_tree ?_
  show wpAny _ _ (callAny (.ref C) _) _ _ _
  repeat (any_goals (first | assumption | with_reducible refine wpAny_loadPart_at hC ?_ | wp_step))
  refine ⟨rfl, ?_⟩
  refine codeAny_call_builtin_at (Code.quiet_builtin _ (by decide +kernel)) entry_typeCall (check_type_call_subK hC (type_call_ownK F hT hC hi hb hrest ?_))
  refine codeAny_mono hq fun r s' z => ?_
  rcases r with e | (v | _ | _ | _) <;> exact z
end
end EVX
end PySem

/-! Errors as values: rules -/
namespace Gx
open PySem L2 PySem.Spec PyProof.Rows
/-- an error of the class at D is kept at a -/
def VErr (H : Hp) (a D : Addr) : Prop := H a = some (ExO (.ref D) a) ∨ ∃ (d : Addr) (fs : List (Str × V)), H a = some (exo a D (some d)) ∧ H d = some (exd d fs)
theorem VErr.same {H H' : Hp} {a D : Addr} (v : VErr H a D) (s : Same H H') : VErr H' a D := by
  rcases v with v | ⟨d, fs, v, u⟩
  · exact .inl (s _ _ v)
  · exact .inr ⟨d, fs, s _ _ v, s _ _ u⟩
theorem verr_kit {X : Cx} {pins : List (Addr × Obj)} {σ : L2.St} {H : Hp} {s : Shared} {a D : Addr} (I : Inv X pins σ H s) (v : VErr H a D) (C : ErrC X.K D) : ∃ P, PySem.W.KitX X.K (.ref a) (.ref D) P ∧ P s.heap := by
  rcases v with v | ⟨dd, fs, v, u⟩
  · have q : ObjOk X.prog X.w H s.heap a (ExO (.ref D) a) := I.hok a _ v
    obtain ⟨⟨oe, vs, e, z, hd, _⟩, _, _⟩ := q
    exact ⟨_, PySem.W.kitx_exc (x := a) (ox := oe) (od := none) C.cl C.hg C.hk C.hs C.ha C.hn C.ht C.hm, e, z.1, by unfold PySem.W.notCls; rw [hd] <;> rfl, by rw [z.2]; trivial⟩
  · obtain ⟨t0, e⟩ := exo_at I.hok v
    obtain ⟨mA, ⟨o, es, ep, ho, hr⟩, _⟩ := exd_at I.hok u
    exact ⟨_, PySem.W.kitx_exc (x := a) (ox := _) (od := some o) C.cl C.hg C.hk C.hs C.ha C.hn C.ht C.hm, e, rfl, rfl, ho⟩
/-- isinstance(e, C), e an error that is kept -/
def rIsV (K : PySem.W.Frag) : List V → Hp → VK → Prop := fun xs H Q => ∃ (a D : Addr) (c : V) (u : Value) (b : Bool), xs = [.ref a, c] ∧ VErr H a D ∧ ErrC K D ∧ ClsV c u ∧ PySem.W.kitOne K (.ref D) u = some b ∧ Q (.bl b) H
theorem call_isV {X : Cx} : CallR X (.builtin "isinstance") (rIsV X.K) := by
  intro pins s σ H xs us Q I r h
  obtain ⟨a, D, c, u, b, rfl, v, C, k, e, q⟩ := h
  obtain ⟨u1, u2, rfl, r1, r2⟩ := vals2 r
  cases (show u1 = Value.ref a from r1)
  obtain ⟨P, Z, hp⟩ := verr_kit I v C
  have e2 := k.eq r2
  subst e2
  exact PySem.W.kia_one Z I.kIn hp e (fun z => nomatch z) fun tk => ⟨.bl b, H, I.tok tk, rfl, q⟩
theorem g_isV {K : PySem.W.Frag} {H : Hp} {Q : VK} {a D : Addr} {c : V} {u : Value} {b : Bool} (v : VErr H a D) (C : ErrC K D) (k : ClsV c u) (e : PySem.W.kitOne K (.ref D) u = some b) (q : Q (.bl b) H) : rIsV K [.ref a, c] H Q := ⟨a, D, c, u, b, rfl, v, C, k, e, q⟩
/-- e.f, e an error that is kept -/
def tErrV (K : PySem.W.Frag) (f : Str) (te : TE) : TE := fun σ H Q => te σ H fun x H1 => ∃ (a D d : Addr) (fs : List (Str × V)) (v : V), x = .ref a ∧ H1 a = some (exo a D (some d)) ∧ H1 d = some (exd d fs) ∧ fs.lookup f = some v ∧ ErrC K D ∧ PySem.W.findIn K (.ref D) f = some none ∧ Q v H1
theorem pe_errV {X : Cx} {e : Expr} {te : TE} {f : Str} {pos : Pos} (he : PE X e te) (hb : attributeBase e f X.env (eval e X.env) = eval e X.env := by rfl) : PE X (.Attribute e f pos) (tErrV X.K f te) := by
  refine ⟨fun pins s σ H Q I h => ?_⟩
  refine attr_of hb (thn (he.run pins s σ H _ I h) fun u s1 hh => ?_)
  obtain ⟨x, H1, I1, rx, a, D, dd, fs, v, ex, ea, ed, hl, C, no, q⟩ := hh
  subst ex
  obtain rfl : u = Value.ref a := rx
  obtain ⟨t0, e⟩ := exo_at I1.hok ea
  obtain ⟨mA, hns, hr⟩ := exd_at I1.hok ed
  obtain ⟨od, ho, lk⟩ := lookIn_ns hns
  obtain ⟨u, hu, ru⟩ := RelO.some_of (v := v) (o := mA f) (by rw [← hl]; exact hr f)
  have J : PySem.W.InstAt s1.heap a _ D (some od) := ⟨e, rfl, rfl, ho⟩
  exact PySem.HandSPX.exc_get I1.kIn J C.hg C.hk C.hs (PySem.W.findObj_own C.hd no rfl (by rw [lk, hu])) (handed_of ru) ⟨v, H1, I1.tok _, ru, q⟩
theorem g_errV {K : PySem.W.Frag} {f : Str} {te : TE} {σ : L2.St} {H : Hp} {Q : VK} (q : te σ H fun x H1 => ∃ (a D d : Addr) (fs : List (Str × V)) (v : V), x = .ref a ∧ H1 a = some (exo a D (some d)) ∧ H1 d = some (exd d fs) ∧ fs.lookup f = some v ∧ ErrC K D ∧ PySem.W.findIn K (.ref D) f = some none ∧ Q v H1) : tErrV K f te σ H Q := q
/-- C(e), an own class of errors without own __init__, as a value -/
def ExcQ (C : Addr) (H : Hp) (Q : VK) : Prop := ∀ a, H a = none → Q (.ref a) (upd H a (ExO (.ref C) a))
def tExcV (C : Addr) (te : TE) : TE := fun σ H Q => te σ H fun _ H1 => ExcQ C H1 Q
theorem g_excV {C : Addr} {te : TE} {σ : L2.St} {H : Hp} {Q : VK} (q : te σ H fun _ H1 => ExcQ C H1 Q) : tExcV C te σ H Q := q
theorem g_excQ {C : Addr} {H : Hp} {Q : VK} (q : ∀ (a : Addr) (H2 : Hp), H a = none → Same H H2 → VErr H2 a C → Q (.ref a) H2) : ExcQ C H Q := fun a n => q a _ n (same_new n) (.inl upd_same)
/-- C(e), C's own __init__ keeping sp, as a value -/
def OexQ (C : Addr) (sp : Sp) (vs : List V) (H : Hp) (Q : VK) : Prop := vs.length ≤ 1000 ∧ ∀ a, H a = none → sp (.ref a :: vs) (upd H a (exo a C none)) (fun v H2 => v = .non ∧ Q (.ref a) H2) (fun _ _ _ => False)
def tOexV (C : Addr) (sp : Sp) (ta : TA) : TE := fun σ H Q => ta σ H fun vs H1 => OexQ C sp vs H1 Q
theorem g_oexV {C : Addr} {sp : Sp} {ta : TA} {σ : L2.St} {H : Hp} {Q : VK} (q : ta σ H fun vs H1 => OexQ C sp vs H1 Q) : tOexV C sp ta σ H Q := q
section
variable {X : Cx} {e : Expr} {es : List Expr} {kws : List Keyword} {ta tk : TA} {p pos : Pos} {x : Str} {C fI : Addr} {k j : Nat} {fd : FuncData} {ps : List Str} {sp : Sp}
theorem pe_excV {te : TE} (B : OwnE X.K X.mg x C) (hg : Gl X x) (he : PE X e te) (hs : starEach [e] X.env = (false, eval e X.env) :: starEach [] X.env := by rfl) (hdb : (x == ("__debug__" : Str)) = false := by decide) : PE X (.Call (.Name x p) [e] [] pos) (tExcV C te) :=
  pe_exc1 F.excBase_ValueError B.shape B.named B.kept hg he hs hdb
theorem oex_run {pins : List (Addr × Obj)} {σ : L2.St} {H : Hp} {s : Shared} {Q : VK} {us : List Value} {kw : List (Str × Value)} {vs : List V} (T : OexC X.K C) (iC : PySem.W.findIn X.K (.ref C) "__init__" = some (some (.ref fI))) (tI : PySem.W.typeIn X.K (.ref fI) = some (.type "function"))
    (F1 : FnOk X.prog X.w X.K X.mg X.base CX0 k fI fd ps sp) (hr : Room (k + 1) X.A) (I : Inv X pins σ H s) (hus : us.length ≤ sizeLine)
    (hb : ∀ (s : Shared) (o : Addr), X.K.In s.heap → ∃ ws, BindsTo s fd ⟨.ref o :: us, kw⟩ (ps.zip ws) ∧ Vals (.ref o :: vs) ws)
    (h : ∀ a, H a = none → sp (.ref a :: vs) (upd H a (exo a C none)) (fun v H2 => v = .non ∧ Q (.ref a) H2) (fun _ _ _ => False)) :
    wpAny (model X.prog X.w) X.A (call (.ref C) us kw) (EP X pins σ Q) X.xe s := by
  obtain ⟨nm, q, N, bs, bm, sn, sub, ab, col, dd, k0, k1, k2, k3, k5, hC, hbm⟩ := T.cls
  obtain ⟨hp, g, dr, tk, os⟩ := s
  have hsz : hp.objs.size ≤ hp.objs.size + 1 := Nat.le_succ _
  have hn : H (hp.objs.size + 1) = none := I.hok.fresh hsz
  have hq := h (hp.objs.size + 1) hn
  have kk : ∀ b o, hp.get? b = some o → ((hp.push (PySem.W.kdv_tup us)).push (PySem.HandSPX.excO C hp.objs.size)).get? b = some o := fun b o e => Heap.get?_push_of_some _ (Heap.get?_push_of_some _ e)
  have hget : ((hp.push (PySem.W.kdv_tup us)).push (PySem.HandSPX.excO C hp.objs.size)).get? (hp.objs.size + 1) = some (PySem.HandSPX.excO C hp.objs.size) := by heap_get
  have I2 : Inv X pins σ (upd H (hp.objs.size + 1) (exo (hp.objs.size + 1) C none)) ⟨(hp.push (PySem.W.kdv_tup us)).push (PySem.HandSPX.excO C hp.objs.size), g, dr, tk, os⟩ :=
    I.laid (t' := tk) (a := hp.objs.size + 1) (o := exo (hp.objs.size + 1) C none) (h' := (hp.push (PySem.W.kdv_tup us)).push (PySem.HandSPX.excO C hp.objs.size)) kk hsz (exo_ok hget)
  obtain ⟨ws, b, r2⟩ := hb _ (hp.objs.size + 1) I2.kIn
  refine wpAny_call (PySem.EVX.call_ownK F.excBase_ValueError (fun Y => PySem.HandSPX.refsVE_contains Y bm hbm) (I.kIn _ _ hC) (PySem.W.looks_findIn I.kIn iC) (fun self => PySem.W.bind_fn I.kIn self tI) hus
    (codeAny_mono (F1.run _ X.stack _ _ ⟨Value.ref (hp.objs.size + 1) :: us, kw⟩ ws _ _ (fun _ _ _ => False) (hr.make C us kw) (I2.env0.make C us kw) b r2 hq) fun r s' hq' => ?_))
  cases r with
  | error er => exact hq'.elim
  | ok fl =>
    cases fl with
    | ret u =>
      obtain ⟨v, H', I3, rv, ev, q3⟩ := I2.after hq'
      subst ev
      exact ⟨rv, ⟨V.ref (hp.objs.size + 1), H', I3, rfl, q3⟩⟩
    | next => exact False.elim hq'
    | brk => exact False.elim hq'
    | cont => exact False.elim hq'
/-- a class of errors with an own __init__ that keeps sp -/
structure OexM (P : Program) (w : World) (K : PySem.W.Frag) (mg : Str → Option Value) (base : Heap) (k : Nat) (x : Str) (C : Addr) (sp : Sp) : Prop where
  ex : ∃ (f : Addr) (fd : FuncData) (ps : List Str), OexC K C ∧ PySem.W.findIn K (.ref C) "__init__" = some (some (.ref f)) ∧ PySem.W.typeIn K (.ref f) = some (.type "function") ∧ FnOk P w K mg base CX0 k f fd ps sp ∧ mg x = some (.ref C) ∧ PySem.W.keepIn K (.ref C) = true ∧ Binds K fd ps []
structure OexKM (P : Program) (w : World) (K : PySem.W.Frag) (mg : Str → Option Value) (base : Heap) (k : Nat) (x : Str) (C : Addr) (kn : Str) (sp : Sp) : Prop where
  ex : ∃ (f : Addr) (fd : FuncData) (ps : List Str) (g : List Value → List Value → List Value), OexC K C ∧ PySem.W.findIn K (.ref C) "__init__" = some (some (.ref f)) ∧ PySem.W.typeIn K (.ref f) = some (.type "function") ∧ FnOk P w K mg base CX0 k f fd ps sp ∧ mg x = some (.ref C) ∧
    PySem.W.keepIn K (.ref C) = true ∧ KBinds K fd ps [kn] g oneV
theorem pe_oexV (c : OexM X.prog X.w X.K X.mg X.base k x C sp) (hr : Room j X.A) (hk : k + 1 ≤ j) (hg : Gl X x) (ha : PA X (e :: es) ta)
    (hdb : (x == ("__debug__" : Str)) = false := by decide) (he : starEach (e :: es) X.env = (false, eval e X.env) :: starEach es X.env := by rfl) (hpl : (backTo pos (starEach es X.env)).any (·.1) = false := by rfl) :
    PE X (.Call (.Name x p) (e :: es) [] pos) (tOexV C sp ta) := by
  obtain ⟨f, fd, ps, T, iC, tI, F1, hm, kp, b⟩ := c.ex
  refine ⟨fun pins s σ H Q I h => ?_⟩
  refine wpAny_Call_Name_kw (ld_glob I hg hm ?_ hdb)
  refine PySem.W.callWith_K (h₀ := X.base) I.ok.mod.kin kp (thn (ha.run pos pins s σ H _ I h) fun us s1 ⟨vs, H1, I1, r, l, q⟩ => ⟨I1.kIn, ?_⟩) he hpl
  refine oex_run (vs := vs) T iC tI F1 (hr.mono hk) I1 (by show us.length ≤ _; rw [← r.length, sizeLine_eq]; omega) (fun s o hK => ⟨.ref o :: us, ?_, .cons rfl r⟩) q
  have hl : (Value.ref o :: us).length = ps.length := by
    have r2 : Vals (V.ref o :: vs) (Value.ref o :: us) := .cons rfl r
    have := F1.len _ _ _ _ (q (s1.heap.objs.size + 1) (I1.hok.fresh (Nat.le_succ _)))
    rw [← r2.length]
    exact this
  have := b s (.ref o :: us) hK (by rw [List.append_nil]; exact hl)
  rw [List.append_nil] at this
  exact this
def OneOexQ (C : Addr) (sp : Sp) (zs : List V) (H : Hp) (Q : VK) : Prop := ∃ z, zs = [z] ∧ OexQ C sp [z] H Q
def tOexKV (C : Addr) (sp : Sp) (tk : TA) : TE := fun σ H Q => tk σ H fun zs H1 => OneOexQ C sp zs H1 Q
theorem g_oexKV {σ : L2.St} {H : Hp} {Q : VK} (q : tk σ H fun zs H1 => OneOexQ C sp zs H1 Q) : tOexKV C sp tk σ H Q := q
theorem g_oneOex {z : V} {H : Hp} {Q : VK} (q : OexQ C sp [z] H Q) : OneOexQ C sp [z] H Q := ⟨z, rfl, q⟩
theorem pe_oexKV {kn : Str} (c : OexKM X.prog X.w X.K X.mg X.base k x C kn sp) (hr : Room j X.A) (hk : k + 1 ≤ j) (hg : Gl X x) (hkw : PK X kws tk)
    (hdb : (x == ("__debug__" : Str)) = false := by decide) (hall : (backToKw pos (keywordEach kws X.env)).all (·.1.isSome) = true := by rfl) (hks : (backToKw pos (keywordEach kws X.env)).filterMap (·.1) = [kn] := by rfl)
    (hpl : ((backTo pos (starEach [] X.env)).any (·.1) || (backToKw pos (keywordEach kws X.env)).any (·.1.isNone)) = false := by rfl) :
    PE X (.Call (.Name x p) [] kws pos) (tOexKV C sp tk) := by
  obtain ⟨f, fd, ps, g, T, iC, tI, F1, hm, kp, b⟩ := c.ex
  refine ⟨fun pins s σ H Q I h => ?_⟩
  refine wpAny_Call_Name_kw (ld_glob I hg hm ?_ hdb)
  refine PySem.W.callWith_KW0 (h₀ := X.base) I.ok.mod.kin kp hall ?_ hpl
  refine thn (hkw.run pos pins s σ H _ I h) fun ws s2 ⟨zs, H2, I2, rz, z, ez, l, q2⟩ => ⟨I2.kIn, ?_⟩
  subst ez
  rw [hks]
  refine oex_run (vs := [z]) T iC tI F1 (hr.mono hk) I2 (Nat.zero_le _) (fun s o hK => ?_) q2
  have r1 : Vals [V.ref o] [Value.ref o] := .cons rfl .nil
  have r2 := b.rel r1 rz
  refine ⟨g [.ref o] ws, ?_, r2⟩
  refine b.to s [.ref o] ws hK ?_
  rw [← r2.length]
  exact (F1.len [.ref (s2.heap.objs.size + 1), z] _ _ _ (q2 (s2.heap.objs.size + 1) (I2.hok.fresh (Nat.le_succ _))) :)
/-- the __init__ of such a class: the one field nm -/
def spErrInit (C : Addr) (nm : Str) : Sp := fun vs H Q _ => ∃ (a : Addr) (v : V), vs = [.ref a, v] ∧ H a = some (exo a C none) ∧ ∀ (d : Addr), H d = none → d ≠ a → Q .non (upd (upd H d (exd d [(nm, v)])) a (exo a C (some d)))
theorem g_oexQ {C : Addr} {nm : Str} {v : V} {H : Hp} {Q : VK} (q : ∀ (a d : Addr) (H2 : Hp), H a = none → Same H H2 → H2 a = some (exo a C (some d)) → H2 d = some (exd d [(nm, v)]) → Q (.ref a) H2) : OexQ C (spErrInit C nm) [v] H Q := by
  refine ⟨by show 1 ≤ 1000; decide, fun a n => ⟨a, v, rfl, upd_same, fun d nd ne => ⟨rfl, ?_⟩⟩⟩
  have nd' : H d = none := by
    rwa [upd_ne ne] at nd
  refine q a d _ n (fun b o e => ?_) upd_same (by rw [upd_ne ne, upd_same])
  have na : b ≠ a := fun z => by
    rw [z, n] at e
    cases e
  have nb : b ≠ d := fun z => by
    rw [z, nd'] at e
    cases e
  rw [upd_ne na, upd_ne nb, upd_ne na]
  exact e
end
end Gx

/-! powers of greater bases -/
namespace Gx
open PySem L2
def CPowB (i j : Int) : Prop := 0 ≤ j ∧ j ≤ 10000 ∧ i.natAbs < 2 ^ 1000
theorem op_powB {X : Cx} : OpR X (binaryOp .Pow) (rI CPowB fun i j => .int (i ^ j.toNat)) := opI fun i j _ _ _ _ _ hc q => PyProof.Rows.pow_int hc.1 (by
  have hb : Builtin.Int.intBits i ≤ 1000 := PyProof.Rows.intBits_le hc.2.2
  have h1 : (Builtin.Int.intBits i : Int) * j ≤ 1000 * j := Int.mul_le_mul_of_nonneg_right (by omega) hc.1
  have := hc.2.1
  omega) q
theorem g_powB {a b : Int} {H : Hp} {Q : VK} (hc : CPowB a b) (q : Q (.int (a ^ b.toNat)) H) : rI CPowB (fun i j => .int (i ^ j.toNat)) (.int a) (.int b) H Q := ⟨a, b, rfl, rfl, hc, q⟩
end Gx

/-! the bag of draws of the laws k71 to k78 -/
namespace Gk
open PySem L2 Gx
open C8 (Cal Met Mak pe_c pe_mt pe_mt0 pe_mk pe_gc)
local macro_rules | `(tactic| walk_at "g") => `(tactic| (first
  | with_reducible refine g_seq ?_ | with_reducible refine g_asg ?_ | ((with_reducible show tVar _ _ _ _); refine g_var rfl ?_) | with_reducible refine g_c ?_ | with_reducible refine g_name ?_ | with_reducible refine g_op ?_ | with_reducible refine g_I0 ?_
  | with_reducible refine g_cons ?_ | with_reducible refine g_nil ?_ | with_reducible refine g_exbl ?_ | with_reducible refine g_exint ?_ | with_reducible refine g_test ?_ | with_reducible refine g_B ?_ | with_reducible refine g_ifS ?_ | with_reducible refine g_ret ?_ | with_reducible refine g_retN ?_ | with_reducible refine g_next ?_
  | with_reducible refine g_CB ?_ | with_reducible refine g_sub ?_ | with_reducible refine g_drop ?_ | with_reducible refine g_not ?_ | with_reducible refine g_and ?_ | with_reducible refine g_or ?_ | with_reducible refine g_andV ?_ | with_reducible refine g_orV ?_ | with_reducible refine g_notV ?_ | with_reducible refine g_ifE ?_ | with_reducible refine g_isN ?_
  | with_reducible refine g_par ?_ | with_reducible refine g_expar ?_ | with_reducible refine g_chain ?_ | with_reducible refine g_un ?_ | with_reducible refine g_U ?_ | with_reducible refine g_bits ?_ | ((with_reducible show rEq _ _ _ _); refine g_eq rfl ?_) | ((with_reducible show rNe _ _ _ _); refine g_ne rfl ?_)
  | with_reducible refine g_for ?_ | with_reducible refine g_iRng1 ?_ | with_reducible refine g_iRng2 ?_ | with_reducible refine g_iList ?_ | with_reducible refine g_iTup ?_
  | ((with_reducible refine g_Imul ?hc ?_); (case hc => (first | (refine Or.inl ⟨?_, ?_⟩ <;> first | decide | omega) | (refine Or.inr ⟨?_, ?_⟩ <;> first | decide | omega))))
  | ((with_reducible refine g_Idiv ?hc ?_); (case hc => (first | (exact ⟨by decide, by decide⟩) | assumption)))
  | ((with_reducible refine g_Imod ?hc ?_); (case hc => (first | assumption | omega | decide)))
  | ((with_reducible refine g_exR1 ?hlo ?hhi ?_); (case hlo => omega); (case hhi => omega))
  | ((with_reducible refine g_exR2 ?hb ?_); (case hb => omega))
  | with_reducible refine g_lst ?_ | with_reducible refine g_tup ?_ | with_reducible refine g_call ?_ | with_reducible refine g_BM ?_ | with_reducible refine g_BM0 ?_
  | with_reducible refine g_intB ?_ | with_reducible refine g_lc ?_ | with_reducible refine g_yes ?_ | with_reducible refine g_iZip ?_ | with_reducible refine g_sl ?_ | with_reducible refine g_noP ?_ | with_reducible refine g_part ?_ | with_reducible refine g_gcons ?_ | with_reducible refine g_gnil ?_
  | with_reducible refine g_tfld ?_ | with_reducible refine g_tmeth ?_ | with_reducible refine g_tmake ?_ | with_reducible refine g_sfld ?_ | with_reducible refine g_tprop ?_ | with_reducible refine g_tstar ?_ | with_reducible refine g_tmethK ?_ | with_reducible refine g_isN1 ?_ | with_reducible refine g_notN1 ?_))
local macro_rules | `(tactic| walk_at "gs1") => `(tactic| (first
  | with_reducible refine g_seq ?_ | with_reducible refine g_asg ?_ | ((with_reducible show tVar _ _ _ _); refine g_var rfl ?_) | with_reducible refine g_c ?_ | with_reducible refine g_name ?_ | with_reducible refine g_op ?_ | with_reducible refine g_I0 ?_
  | with_reducible refine g_cons ?_ | with_reducible refine g_nil ?_ | with_reducible refine g_exbl ?_ | with_reducible refine g_exint ?_ | with_reducible refine g_test ?_ | with_reducible refine g_B ?_ | with_reducible refine g_ifS ?_ | with_reducible refine g_retN ?_ | with_reducible refine g_next ?_
  | with_reducible refine g_CB ?_ | with_reducible refine g_sub ?_ | with_reducible refine g_drop ?_ | with_reducible refine g_not ?_ | with_reducible refine g_and ?_ | with_reducible refine g_or ?_ | with_reducible refine g_andV ?_ | with_reducible refine g_orV ?_ | with_reducible refine g_notV ?_ | with_reducible refine g_ifE ?_ | with_reducible refine g_isN ?_
  | with_reducible refine g_par ?_ | with_reducible refine g_expar ?_ | with_reducible refine g_chain ?_ | with_reducible refine g_un ?_ | with_reducible refine g_U ?_ | with_reducible refine g_bits ?_ | ((with_reducible show rEq _ _ _ _); refine g_eq rfl ?_) | ((with_reducible show rNe _ _ _ _); refine g_ne rfl ?_)
  | with_reducible refine g_for ?_ | with_reducible refine g_iRng1 ?_ | with_reducible refine g_iRng2 ?_ | with_reducible refine g_iList ?_ | with_reducible refine g_iTup ?_
  | ((with_reducible refine g_Imul ?hc ?_); (case hc => (first | (refine Or.inl ⟨?_, ?_⟩ <;> first | decide | omega) | (refine Or.inr ⟨?_, ?_⟩ <;> first | decide | omega))))
  | ((with_reducible refine g_Idiv ?hc ?_); (case hc => (first | (exact ⟨by decide, by decide⟩) | assumption)))
  | ((with_reducible refine g_Imod ?hc ?_); (case hc => (first | assumption | omega | decide)))
  | ((with_reducible refine g_exR1 ?hlo ?hhi ?_); (case hlo => omega); (case hhi => omega))
  | ((with_reducible refine g_exR2 ?hb ?_); (case hb => omega))
  | with_reducible refine g_lst ?_ | with_reducible refine g_tup ?_ | with_reducible refine g_call ?_ | with_reducible refine g_BM ?_ | with_reducible refine g_BM0 ?_
  | with_reducible refine g_intB ?_ | with_reducible refine g_lc ?_ | with_reducible refine g_yes ?_ | with_reducible refine g_iZip ?_ | with_reducible refine g_sl ?_ | with_reducible refine g_noP ?_ | with_reducible refine g_part ?_ | with_reducible refine g_gcons ?_ | with_reducible refine g_gnil ?_
  | with_reducible refine g_tfld ?_ | with_reducible refine g_tmeth ?_ | with_reducible refine g_tmake ?_ | with_reducible refine g_sfld ?_ | with_reducible refine g_tprop ?_ | with_reducible refine g_tstar ?_ | with_reducible refine g_tmethK ?_ | with_reducible refine g_isN1 ?_ | with_reducible refine g_notN1 ?_))
local macro_rules | `(tactic| walk_at "gx1") => `(tactic| (first
  | with_reducible refine g_seq ?_ | with_reducible refine g_asg ?_ | ((with_reducible show tVar _ _ _ _); refine g_var rfl ?_) | with_reducible refine g_c ?_ | with_reducible refine g_name ?_ | with_reducible refine g_op ?_ | with_reducible refine g_I0 ?_
  | with_reducible refine g_cons ?_ | with_reducible refine g_nil ?_ | with_reducible refine g_exbl ?_ | with_reducible refine g_exint ?_ | with_reducible refine g_test ?_ | with_reducible refine g_B ?_ | with_reducible refine g_ifS ?_ | with_reducible refine g_retN ?_ | with_reducible refine g_next ?_
  | with_reducible refine g_CB ?_ | with_reducible refine g_sub ?_ | with_reducible refine g_drop ?_ | with_reducible refine g_not ?_ | with_reducible refine g_and ?_ | with_reducible refine g_or ?_ | with_reducible refine g_andV ?_ | with_reducible refine g_orV ?_ | with_reducible refine g_notV ?_ | with_reducible refine g_ret ?_ | with_reducible refine g_isN ?_
  | with_reducible refine g_par ?_ | with_reducible refine g_expar ?_ | with_reducible refine g_chain ?_ | with_reducible refine g_un ?_ | with_reducible refine g_U ?_ | with_reducible refine g_bits ?_ | ((with_reducible show rEq _ _ _ _); refine g_eq rfl ?_) | ((with_reducible show rNe _ _ _ _); refine g_ne rfl ?_)
  | with_reducible refine g_for ?_ | with_reducible refine g_iRng1 ?_ | with_reducible refine g_iRng2 ?_ | with_reducible refine g_iList ?_ | with_reducible refine g_iTup ?_
  | ((with_reducible refine g_Imul ?hc ?_); (case hc => (first | (refine Or.inl ⟨?_, ?_⟩ <;> first | decide | omega) | (refine Or.inr ⟨?_, ?_⟩ <;> first | decide | omega))))
  | ((with_reducible refine g_Idiv ?hc ?_); (case hc => (first | (exact ⟨by decide, by decide⟩) | assumption)))
  | ((with_reducible refine g_Imod ?hc ?_); (case hc => (first | assumption | omega | decide)))
  | ((with_reducible refine g_exR1 ?hlo ?hhi ?_); (case hlo => omega); (case hhi => omega))
  | ((with_reducible refine g_exR2 ?hb ?_); (case hb => omega))
  | with_reducible refine g_lst ?_ | with_reducible refine g_tup ?_ | with_reducible refine g_call ?_ | with_reducible refine g_BM ?_ | with_reducible refine g_BM0 ?_
  | with_reducible refine g_intB ?_ | with_reducible refine g_lc ?_ | with_reducible refine g_yes ?_ | with_reducible refine g_iZip ?_ | with_reducible refine g_sl ?_ | with_reducible refine g_noP ?_ | with_reducible refine g_part ?_ | with_reducible refine g_gcons ?_ | with_reducible refine g_gnil ?_
  | with_reducible refine g_tfld ?_ | with_reducible refine g_tmeth ?_ | with_reducible refine g_tmake ?_ | with_reducible refine g_sfld ?_ | with_reducible refine g_tprop ?_ | with_reducible refine g_tstar ?_ | with_reducible refine g_tmethK ?_ | with_reducible refine g_isN1 ?_ | with_reducible refine g_notN1 ?_))
local macro_rules | `(tactic| walk_at "hp") => `(tactic| (first | assumption | exact upd_same | (refine same_get (by assumption) ?_; walk_at "hp")))
local macro_rules | `(tactic| walk_at "sm") => `(tactic| (first | assumption | exact Same.refl _ | (refine Same.trans ?ha (by assumption); walk_at "sm")))
local macro_rules | `(tactic| walk_at "nn") => `(tactic| (first | assumption | (refine same_free (by assumption) ?_; walk_at "nn")))
local macro_rules | `(tactic| walk_at "sb") => `(tactic| (first | decide | (refine small_bits ?_ ?_ <;> omega)))
local macro_rules | `(tactic| walk_at "ln") => `(tactic| (simp only [List.length_cons, List.length_nil]; omega))
local macro_rules | `(tactic| walk_at "gg") => `(tactic| (repeat walk_at "g"))
local macro_rules | `(tactic| walk_at "gs") => `(tactic| (repeat walk_at "gs1"))
local macro_rules | `(tactic| walk_at "gx") => `(tactic| (repeat walk_at "gx1"))

def top (i : Nat) : Stmt := PySem.Challenge.pw_gapreach_k78_errors_made.main.body.getD i (.Pass ⟨0, 0, 0, 0⟩)
abbrev bagM : Int := 2147483647
/-- what a bag holds: the cells, the place, the number, the stir, how often -/
def BagG (q : Addr) (c : Nat) (vs : List V) : Prop := ∃ i x s n : Int, vs = [.ref q, .int i, .int x, .int s, .int n] ∧ 0 ≤ i ∧ 0 ≤ x ∧ 0 ≤ s ∧ s < bagM ∧ 0 ≤ n ∧ n ≤ (c : Int)
/-- f is a bag that was stirred at most c times -/
def Bag (c : Nat) (H : Hp) (f : Addr) : Prop := ∃ (q : Addr), q ≠ f ∧ H f = some (HidO (BagG q c) f) ∧ H q = some (HidO Nats q)
theorem Bag.same {c : Nat} {H H' : Hp} {f : Addr} (h : Bag c H f) (s : Same H H') : Bag c H' f := by
  obtain ⟨q, n, h1, h2⟩ := h
  exact ⟨q, n, s _ _ h1, s _ _ h2⟩
theorem Bag.but {c : Nat} {H H' : Hp} {f D : Addr} {l : List V} (h : Bag c H f) (e : H D = some (.lst l)) (s : But D H H') : Bag c H' f := by
  obtain ⟨q, n, h1, h2⟩ := h
  exact ⟨q, n, s _ _ (fun z => by subst z; rw [h1] at e; cases e) h1, s _ _ (fun z => by subst z; rw [h2] at e; cases e) h2⟩
def spStir : Sp := fun vs H Q _ => ∃ (f q : Addr) (i x s n m : Int), vs = [.ref f, .int m] ∧ H f = some (.lst [.ref q, .int i, .int x, .int s, .int n]) ∧ 0 ≤ s ∧ s < bagM ∧ 0 ≤ n ∧ n ≤ 100000000 ∧ 0 < m ∧ m.natAbs < 2 ^ 1000 ∧
  ∀ (r s' n' : Int) (H' : Hp), 0 ≤ r → r < m → 0 ≤ s' → s' < bagM → 0 ≤ n' → n' ≤ n + 40 → (∀ a o, a ≠ f → H a = some o → H' a = some o) → H' f = some (.lst [.ref q, .int i, .int x, .int s', .int n']) → Q (.int r) H'
def spDraw0 : Sp := fun vs H Q _ => ∃ (f q : Addr) (i x s n m : Int) (ns : List Int), vs = [.ref f, .int m] ∧ q ≠ f ∧ H f = some (.lst [.ref q, .int i, .int x, .int s, .int n]) ∧ H q = some (.lst (ns.map V.int)) ∧ (∀ n ∈ ns, 0 ≤ n) ∧
  0 ≤ i ∧ 0 ≤ x ∧ 0 ≤ s ∧ s < bagM ∧ 0 ≤ n ∧ n ≤ 100000000 ∧ 0 < m ∧ m.natAbs < 2 ^ 1000 ∧
  ∀ (r i' x' s' n' : Int) (H' : Hp), 0 ≤ r → r < m → 0 ≤ i' → 0 ≤ x' → 0 ≤ s' → s' < bagM → 0 ≤ n' → n' ≤ n + 40 → (∀ a o, a ≠ f → H a = some o → H' a = some o) → H' f = some (.lst [.ref q, .int i', .int x', .int s', .int n']) → Q (.int r) H'
def spDraw1 : Sp := fun vs H Q _ => ∃ (f q : Addr) (i x s n m : Int), vs = [.ref f, .int m] ∧ q ≠ f ∧ H f = some (.lst [.ref q, .int i, .int x, .int s, .int n]) ∧ H q = some (HidO Nats q) ∧
  0 ≤ i ∧ 0 ≤ x ∧ 0 ≤ s ∧ s < bagM ∧ 0 ≤ n ∧ n ≤ 100000000 ∧ 0 < m ∧ m.natAbs < 2 ^ 1000 ∧
  ∀ (r i' x' s' n' : Int) (H' : Hp), 0 ≤ r → r < m → 0 ≤ i' → 0 ≤ x' → 0 ≤ s' → s' < bagM → 0 ≤ n' → n' ≤ n + 40 → (∀ a o, a ≠ f → H a = some o → H' a = some o) → H' f = some (.lst [.ref q, .int i', .int x', .int s', .int n']) → Q (.int r) H'
/-- a draw -/
def spDraw : Sp := fun vs H Q _ => ∃ (f : Addr) (c : Nat) (m : Int), vs = [.ref f, .int m] ∧ Bag c H f ∧ c ≤ 100000000 ∧ 0 < m ∧ m.natAbs < 2 ^ 1000 ∧ ∀ (r : Int) (H' : Hp), 0 ≤ r → r < m → SmV H H' → Bag (c + 40) H' f → Q (.int r) H'
section
variable {P : Program} {w : World} {K : PySem.W.Frag} {mg : Str → Option Value} {base : Heap} {X : Cx}
theorem draw_view {k : Nat} {fa : Addr} {fd : FuncData} {ps : List Str} (hl : ps.length = 2) (F : FnOk P w K mg base CX0 k fa fd ps spDraw0) : FnOk P w K mg base CX0 k fa fd ps spDraw := by
  have F1 : FnOk P w K mg base CX0 k fa fd ps spDraw1 := by
    refine hid_view F (fun _ vs H Q E h => ?_) fun vs H Q E h => ?_
    · obtain ⟨f, q, i, x, s, n, m, rfl, _⟩ := h
      exact hl.symm
    · obtain ⟨f, q, i, x, s, n, m, rfl, hn, hf, hq, i0, x0, s0, s1, n0, n1, m0, m1, k⟩ := h
      refine ⟨q, Nats, Nats, hq, fun xs g => ?_⟩
      obtain ⟨ns, rfl, pos⟩ := g
      refine ⟨f, q, i, x, s, n, m, ns, rfl, hn, by rw [upd_ne (Ne.symm hn)]; exact hf, upd_same, pos, i0, x0, s0, s1, n0, n1, m0, m1, fun r i' x' s' n' H' r0 r1 i0' x0' s0' s1' n0' n1' ke kf => ?_⟩
      refine ⟨⟨_, ⟨ns, rfl, pos⟩, ke q _ hn upd_same⟩, ?_⟩
      refine k r i' x' s' n' _ r0 r1 i0' x0' s0' s1' n0' n1' (fun a o na e => ?_) (by rw [upd_ne (Ne.symm hn)]; exact kf)
      by_cases ha : a = q
      · subst ha
        rw [upd_same]
        rw [hq] at e
        exact e
      · rw [upd_ne ha]
        exact ke a o na (by rw [upd_ne ha]; exact e)
  refine hid_view F1 (fun _ vs H Q E h => ?_) fun vs H Q E h => ?_
  · obtain ⟨f, c, m, rfl, _⟩ := h
    exact hl.symm
  · obtain ⟨f, c, m, rfl, ⟨q, hn, hf, hq⟩, c1, m0, m1, k⟩ := h
    refine ⟨f, BagG q c, BagG q (c + 40), hf, fun xs g => ?_⟩
    obtain ⟨i, x, s, n, rfl, i0, x0, s0, s1, n0, n1⟩ := g
    refine ⟨f, q, i, x, s, n, m, rfl, hn, upd_same, by rw [upd_ne hn]; exact hq, i0, x0, s0, s1, n0, by omega, m0, m1, fun r i' x' s' n' H' r0 r1 i0' x0' s0' s1' n0' n1' ke kf => ?_⟩
    refine ⟨⟨_, ⟨i', x', s', n', rfl, i0', x0', s0', s1', n0', by omega⟩, kf⟩, ?_⟩
    refine k r _ r0 r1 (fun a o vo e => ?_) ⟨q, hn, upd_same, ?_⟩
    · have na : a ≠ f := fun z => by
        subst z
        rw [hf] at e
        obtain rfl := Option.some.inj e
        cases vo
      rw [upd_ne na]
      exact ke a o na (by rw [upd_ne na]; exact e)
    · rw [upd_ne hn]
      exact ke q _ hn (by rw [upd_ne hn]; exact hq)
theorem g_mulW {a b : Int} {H : Hp} {Q : VK} (ha : a.natAbs < 2 ^ 200) (hb : b.natAbs < 2 ^ 200) (q : Q (.int (a * b)) H) : rI CMulW (fun i j => .int (i * j)) (.int a) (.int b) H Q := ⟨a, b, rfl, rfl, wide_mul ha hb (by decide) (by decide) (by decide), q⟩
theorem bits_le (m : Int) (h : m.natAbs < 2 ^ 1000) : Builtin.Int.intBits m ≤ 1000 := PyProof.Rows.intBits_le h
abbrev s_stirred : Stmt := top 22
abbrev N_stirred : List Str := ["_law_bag_here", "_law_many", "_law_found", "_law_k"]
theorem sc_stirred : FnScope N_stirred ["_law_bag_here", "_law_many"] (defScope s_stirred) := ⟨rfl, rfl, rfl, by decide +kernel, rfl, by decide +kernel, by decide +kernel⟩

theorem ok_stir {f : Addr} {fd : FuncData} (D : Dn K mg "_law_stirred" s_stirred ["_law_bag_here", "_law_many"] f fd) (T : Bt mg) : Cal P w K mg base 1 "_law_stirred" spStir [] := by
  refine cal_of D (D.fn.ok sc_stirred (fun vs H Q E h => ?_) (fun cdv A outer s H vs Q E hr h => ?_))
  · obtain ⟨f, q, i, x, s, n, m, rfl, _⟩ := h
    rfl
  · obtain ⟨f, q, i, x, s, n, m, rfl, hf, s0, s1, n0, n1, m0, m1, k⟩ := h
    refine ⟨_, (pss_cons (ps_set (i := 2) sc_stirred.nd rfl (Or.inl rfl) pe_int)
    (pss_cons (ps_for PassesOwn.never rfl (pi_range1 (by rfl) T.n_range (pa_cons (pe_op op_add pe_int (pe_op op_fdivW (pe_bits (pv 1)) pe_int)) pa_nil)) (pg_name (i := 3) sc_stirred.nd rfl (Or.inl rfl)) (pss_cons (ps_asg (pe_op op_add (pe_ix ix_list (pv 0) pe_int (fun _ _ => rfl)) pe_int) (pg_sub (pv 0) pe_int set_list))
    (pss_cons (ps_asg (pe_op op_mod (pe_op op_add (pe_op op_add (pe_op op_add (pe_op op_powB (pe_ix ix_list (pv 0) pe_int (fun _ _ => rfl)) pe_int) (pe_op op_mulW pe_int (pe_ix ix_list (pv 0) pe_int (fun _ _ => rfl)))) (pe_op op_mulW pe_int (pe_ix ix_list (pv 0) pe_int (fun _ _ => rfl)))) pe_int) pe_int) (pg_sub (pv 0) pe_int set_list))
    (pss_one (ps_set (i := 2) sc_stirred.nd rfl (Or.inl rfl) (pe_op op_add (pe_op op_mulW (pv 2) pe_int) (pe_op op_fdivW (pe_ix ix_list (pv 0) pe_int (fun _ _ => rfl)) pe_int)))))))
    (pss_one (ps_ret (pe_op op_mod (pv 2) (pv 1)))))), ?_⟩
    walk_at "gg"
    have hb := bits_le m m1
    have hb0 : (0 : Int) ≤ (Builtin.Int.intBits m : Int) := Int.natCast_nonneg _
    have hk0 : (0 : Int) ≤ (Builtin.Int.intBits m : Int) / 27 := Int.ediv_nonneg hb0 (by decide)
    have hk1 : (Builtin.Int.intBits m : Int) / 27 ≤ 37 := by omega
    generalize (Builtin.Int.intBits m : Int) / 27 = t at hk0 hk1
    refine ⟨_, rfl, by omega, by omega, ?_⟩
    have ht : ((1 + t).toNat : Int) ≤ 38 := by omega
    have ht2 : (1 + t).toNat ≤ 38 := by omega
    generalize (1 + t).toNat = N at ht ht2
    refine fw_range (fun i2 σ H' => ∃ (v3 : Option V) (fo s' n' : Int), σ = [some (.ref f), some (.int m), some (.int fo), v3] ∧ 0 ≤ fo ∧ fo < 2 ^ (40 * i2 + 1) ∧ 0 ≤ s' ∧ s' < bagM ∧ 0 ≤ n' ∧ n' ≤ n + i2 ∧ (∀ a o, a ≠ f → H a = some o → H' a = some o) ∧ H' f = some (.lst [.ref q, .int i, .int x, .int s', .int n']))
      ⟨_, 0, s, n, rfl, by decide, by decide, s0, s1, n0, by omega, fun _ _ _ e => e, hf⟩ ?_ ?_
    · rintro j σ H' hj ⟨v3, fo, s', n', rfl, fo0, fo1, s0', s1', n0', n1', st, hf'⟩
      have s1'' : s' < 2147483647 := s1'
      have jN : (j : Int) ≤ 38 := by omega
      walk_at "gg"
      refine g_ixL (SqL.of hf') rfl ?_
      walk_at "gg"
      refine g_setL hf' rfl ?_
      walk_at "gg"
      refine g_ixL (SqL.of upd_same) rfl ?_
      walk_at "gg"
      refine g_powB ⟨by decide, by decide, by omega⟩ ?_
      walk_at "gg"
      refine g_ixL (SqL.of upd_same) rfl ?_
      refine g_mulW (by decide) (by omega) ?_
      walk_at "gg"
      refine g_ixL (SqL.of upd_same) rfl ?_
      refine g_mulW (by decide) (by omega) ?_
      walk_at "gg"
      generalize hy : (s' ^ (3 : Int).toNat + 69621 * s' + 1031 * (n' + 1) + 1) % 2147483647 = y
      have y0 : 0 ≤ y := by rw [← hy]; exact Int.emod_nonneg _ (by decide)
      have y1 : y < 2147483647 := by rw [← hy]; exact Int.emod_lt_of_pos _ (by decide)
      refine g_setL upd_same rfl ?_
      walk_at "gg"
      have fN : fo.natAbs < 2 ^ 2000 := by
        have e : ((2 : Int) ^ (40 * j + 1)) = ((2 ^ (40 * j + 1) : Nat) : Int) := by norm_cast
        have pw : 2 ^ (40 * j + 1) ≤ 2 ^ 2000 := Nat.pow_le_pow_right (by decide) (by omega)
        rw [e] at fo1
        exact Nat.lt_of_lt_of_le (by omega) pw
      refine ⟨_, _, rfl, rfl, wide_mul (b := 30) fN (by decide) (by decide) (by decide) (by decide), ?_⟩
      walk_at "gg"
      refine g_ixL (SqL.of upd_same) rfl ?_
      walk_at "gg"
      have z0 : 0 ≤ y / 16 := Int.ediv_nonneg y0 (by decide)
      have z1 : y / 16 < 134217728 := by omega
      have pw2 : (2 : Int) ^ (40 * (j + 1) + 1) = 1099511627776 * 2 ^ (40 * j + 1) := by
        rw [show 40 * (j + 1) + 1 = 40 + (40 * j + 1) by omega, Int.pow_add]
        rfl
      refine ⟨_, _, y, n' + 1, rfl, by omega, by rw [pw2]; omega, y0, y1, by omega, by omega, fun a o h1 e => ?_, upd_same⟩
      rw [upd_ne h1, upd_ne h1]
      exact st a o h1 e
    · rintro σ H' ⟨v3, fo, s', n', rfl, fo0, fo1, s0', s1', n0', n1', st, hf'⟩
      walk_at "gg"
      exact k _ s' n' _ (Int.emod_nonneg _ (by omega)) (Int.emod_lt_of_pos _ m0) s0' s1' n0' (by omega) st hf'
abbrev s_draw : Stmt := top 23
abbrev N_draw : List Str := ["_law_bag_here", "_law_many", "_law_found"]
theorem sc_draw : FnScope N_draw ["_law_bag_here", "_law_many"] (defScope s_draw) := ⟨rfl, rfl, rfl, by decide +kernel, rfl, by decide +kernel, by decide +kernel⟩

theorem ok_draw {f : Addr} {fd : FuncData} (D : Dn K mg "_law_draw" s_draw ["_law_bag_here", "_law_many"] f fd) (T : Bt mg) (c__law_stirred : Cal P w K mg base 1 "_law_stirred" spStir []) : Cal P w K mg base 2 "_law_draw" spDraw [] := by
  refine cal_of D (draw_view rfl (D.fn.ok sc_draw (fun vs H Q E h => ?_) (fun cdv A outer s H vs Q E hr h => ?_)))
  · obtain ⟨f, q, i, x, s, n, m, ns, rfl, _⟩ := h
    rfl
  · obtain ⟨f, q, i, x, s, n, m, ns, rfl, hn, hf, hq, pos, i0, x0, s0, s1, n0, n1, m0, m1, k⟩ := h
    refine ⟨_, (pss_cons (ps_if (PW.pt (pw_and (pt_cmpR op_eq (pe_ix ix_list (pv 0) pe_int (fun _ _ => rfl)) pe_int (nomark _)) (pw_and1 (pt_cmpR op_lt (pe_ix ix_list (pv 0) pe_int (fun _ _ => rfl)) (pe_callB cr_lenQ (by rfl) T.n_len bt_len (pa_cons (pe_ix ix_list (pv 0) pe_int (fun _ _ => rfl)) pa_nil)) (nomark _))))) (pss_cons (ps_asg (pe_ix ix_list (pe_ix ix_list (pv 0) pe_int (fun _ _ => rfl)) (pe_ix ix_list (pv 0) pe_int (fun _ _ => rfl)) (fun _ _ => rfl)) (pg_sub (pv 0) pe_int set_list))
    (pss_one (ps_asg (pe_op op_add (pe_ix ix_list (pv 0) pe_int (fun _ _ => rfl)) pe_int) (pg_sub (pv 0) pe_int set_list)))) (pss_one (ps_if (pt_cmpR op_eq (pe_ix ix_list (pv 0) pe_int (fun _ _ => rfl)) pe_int (nomark _)) (pss_one (ps_ret (pe_c c__law_stirred hr (by decide) (by rfl) (pa_cons (pv 0) (pa_cons (pv 1) pa_nil))))) pss_nil)))
    (pss_cons (ps_set (i := 2) sc_draw.nd rfl (Or.inl rfl) (pe_op op_mod (pe_ix ix_list (pv 0) pe_int (fun _ _ => rfl)) (pv 1)))
    (pss_cons (ps_asg (pe_op op_fdivW (pe_ix ix_list (pv 0) pe_int (fun _ _ => rfl)) (pv 1)) (pg_sub (pv 0) pe_int set_list))
    (pss_one (ps_ret (pv 2)))))), ?_⟩
    have tail : ∀ (i' x' : Int) (H' : Hp), 0 ≤ i' → 0 ≤ x' → (∀ a o, a ≠ f → H a = some o → H' a = some o) → Q (.int (x' % m)) (upd H' f (.lst [.ref q, .int i', .int (x' / m), .int s, .int n])) := fun i' x' H' i0' x0' st => by
      refine k _ i' (x' / m) s n _ (Int.emod_nonneg _ (by omega)) (Int.emod_lt_of_pos _ m0) i0' (Int.ediv_nonneg x0' (by omega)) s0 s1 n0 (by omega) (fun a o h1 e => ?_) upd_same
      rw [upd_ne h1]
      exact st a o h1 e
    walk_at "gg"
    refine g_ixL (SqL.of hf) rfl ?_
    walk_at "gg"
    refine g_ite (fun hx => ?_) (fun hx => ?_)
    · walk_at "gg"
      refine g_ixL (SqL.of hf) rfl ?_
      walk_at "gg"
      refine g_ixL (SqL.of hf) rfl ?_
      walk_at "gg"
      refine g_len (SqL.of hq) ?_
      walk_at "gg"
      rw [List.length_map]
      refine g_ite (fun hi => ?_) (fun hi => ?_)
      · have li : i.toNat < ns.length := by omega
        have gi : ns[i.toNat]? = some ns[i.toNat] := List.getElem?_eq_getElem li
        have ai : atI (ns.map V.int) i = some (.int ns[i.toNat]) := by
          have z := atI_nat (xs := ns.map V.int) (j := i.toNat) (by rw [List.getElem?_map, gi]; rfl)
          rwa [Int.toNat_of_nonneg i0] at z
        have c0 : 0 ≤ ns[i.toNat] := pos _ (List.getElem_mem li)
        walk_at "gg"
        refine g_ixL (SqL.of hf) rfl ?_
        walk_at "gg"
        refine g_ixL (SqL.of hf) rfl ?_
        walk_at "gg"
        refine g_ixL (SqL.of hq) ai ?_
        walk_at "gg"
        refine g_setL hf rfl ?_
        walk_at "gg"
        refine g_ixL (SqL.of upd_same) rfl ?_
        walk_at "gg"
        refine g_setL upd_same rfl ?_
        walk_at "gg"
        refine g_ixL (SqL.of upd_same) rfl ?_
        walk_at "gg"
        refine g_ixL (SqL.of upd_same) rfl ?_
        walk_at "gg"
        refine g_Idiv (wide_div m0 m1 (by decide) (by decide)) ?_
        walk_at "gg"
        refine g_setL upd_same rfl ?_
        walk_at "gg"
        exact tail (i + 1) (ns[i.toNat]) (upd (upd H f _) f _) (by omega) c0 (fun a o h1 e => by rw [upd_ne h1, upd_ne h1]; exact e)
      · walk_at "gg"
        refine g_ixL (SqL.of hf) rfl ?_
        walk_at "gg"
        refine g_ite (fun hx => ?_) (fun hx' => absurd hx hx')
        walk_at "gg"
        refine ⟨f, q, i, x, s, n, m, rfl, hf, s0, s1, n0, n1, m0, m1, fun r s' n' H' r0 r1 s0' s1' n0' n1' st hf' => ?_⟩
        exact k r i x s' n' H' r0 r1 i0 x0 s0' s1' n0' n1' st hf'
    · walk_at "gg"
      refine g_ifF rfl ?_
      walk_at "gg"
      refine g_ixL (SqL.of hf) rfl ?_
      walk_at "gg"
      refine g_ite (fun hx' => absurd hx' hx) (fun hx' => ?_)
      walk_at "gg"
      refine g_ixL (SqL.of hf) rfl ?_
      walk_at "gg"
      refine g_ixL (SqL.of hf) rfl ?_
      walk_at "gg"
      refine g_Idiv (wide_div m0 m1 (by decide) (by decide)) ?_
      walk_at "gg"
      refine g_setL hf rfl ?_
      walk_at "gg"
      exact tail i x H i0 x0 (fun a o h1 e => e)
/-- a bag of the cells of a script -/
def spBag0 (K : PySem.W.Frag) : Sp := fun vs H Q _ => ∃ (a : Addr) (ns : List Int), vs = [.ref a] ∧ SqL K H a (ns.map V.int) ∧ ns.length ≤ 1000 ∧
  ∀ (f q : Addr) (s : Int) (ms : List Int) (H' : Hp), H f = none → H q = none → f ≠ q → Same H H' → H' f = some (.lst [.ref q, .int 0, .int 0, .int s, .int 0]) → H' q = some (.lst (ms.map V.int)) → (∀ m ∈ ms, 0 ≤ m) → 0 ≤ s → s < bagM → Q (.ref f) H'
def spBag (K : PySem.W.Frag) : Sp := fun vs H Q _ => ∃ (a : Addr) (ns : List Int), vs = [.ref a] ∧ SqL K H a (ns.map V.int) ∧ ns.length ≤ 1000 ∧ ∀ (f : Addr) (H' : Hp), H f = none → Same H H' → Bag 0 H' f → Q (.ref f) H'
theorem cut_intsB (ns : List Int) (lo hi : Option Int) : ∃ ms : List Int, cutV (ns.map V.int) lo hi = ms.map V.int ∧ ms.length ≤ ns.length := by
  refine ⟨(ns.drop (HT.sIx (ns.map V.int).length 0 lo)).take (HT.sIx (ns.map V.int).length (ns.map V.int).length hi - HT.sIx (ns.map V.int).length 0 lo), ?_, ?_⟩
  · unfold cutV
    rw [List.map_take, List.map_drop]
  · rw [List.length_take, List.length_drop]
    omega
abbrev s_bag : Stmt := top 21
abbrev N_bag : List Str := ["_law_script", "_law_stir", "_law_cell"]
theorem sc_bag : FnScope N_bag ["_law_script"] (defScope s_bag) := ⟨rfl, rfl, rfl, by decide +kernel, rfl, by decide +kernel, by decide +kernel⟩

theorem ok_bag0 {f : Addr} {fd : FuncData} (D : Dn K mg "_law_bag" s_bag ["_law_script"] f fd) (T : Bt mg) : FnOk P w K mg base L2.CX0 1 f fd ["_law_script"] (spBag0 K) := by
  refine D.fn.ok sc_bag (fun vs H Q E h => ?_) (fun cdv A outer s H vs Q E hr h => ?_)
  · obtain ⟨a, ns, rfl, _⟩ := h
    rfl
  · obtain ⟨a, ns, rfl, ha, hl, k⟩ := h
    refine ⟨_, (pss_cons (ps_set (i := 1) sc_bag.nd rfl (Or.inl rfl) pe_int)
    (pss_cons (ps_for PassesOwn.never rfl (pi_list (pe_slice sl_list (pv 0) po_none (po_some pe_int))) (pg_name (i := 2) sc_bag.nd rfl (Or.inl rfl)) (pss_one (ps_set (i := 1) sc_bag.nd rfl (Or.inl rfl) (pe_op op_mod (pe_op op_add (pe_op op_add (pe_op op_mul (pv 1) pe_int) (pe_op op_mod (pv 2) pe_int)) pe_int) pe_int))))
    (pss_one (ps_ret (pe_lst (pa_cons (pe_lc (own := [("_law_cell", 2)]) (g := gName 2) (tt := tYes) rfl sc_bag.nd (pi_list (pe_slice sl_list (pv 0) po_none (po_some pe_int))) (blkOk_by (own := [("_law_cell", 2)]) (N := N_bag) (sc := defScope s_bag) (by decide +kernel)) (fun _ _ _ _ _ => pg_name (i := 2) sc_bag.nd rfl (Or.inl rfl)) (fun _ _ _ _ _ => pts_nil) (fun _ _ _ _ _ => (pe_op op_mod (pe_callB cr_absQ (by rfl) T.n_abs bt_abs (pa_cons (pv 2) pa_nil)) (pe_op op_powB (pe_op op_powB pe_int pe_int) pe_int)))) (pa_cons pe_int (pa_cons pe_int (pa_cons (pv 1) (pa_cons pe_int pa_nil)))))))))), ?_⟩
    walk_at "gg"
    obtain ⟨ms, em, lm⟩ := cut_intsB ns none (some 63)
    refine g_slL ha fun l1 H1 n1 S1 e1 => ?_
    rw [em] at e1
    refine ⟨l1, rfl, ⟨_, SqL.of e1⟩, ?_⟩
    refine fw_list (xs := ms.map V.int) (fun i σ H' => ∃ (b : Int) (v2 : Option V), σ = [some (.ref a), some (.int b), v2] ∧ Same H1 H' ∧ 0 ≤ b ∧ b < bagM) ⟨_, none, rfl, Same.refl _, by decide, by decide⟩ (fun i σ H' _ ⟨b, v2, _, S, _⟩ => SqL.of (S _ _ e1)) ?_ ?_
    · rintro i x σ H2 hx ⟨b, v2, rfl, S2, b0, b1⟩
      rw [List.getElem?_map] at hx
      cases hm : ms[i]? with
      | none =>
        rw [hm] at hx
        cases hx
      | some c =>
        rw [hm] at hx
        obtain rfl := Option.some.inj hx
        walk_at "gg"
        exact ⟨_, _, rfl, S2, Int.emod_nonneg _ (by decide), Int.emod_lt_of_pos _ (by decide)⟩
    · rintro σ H2 ⟨b, v2, rfl, S2, b0, b1⟩
      walk_at "gg"
      refine g_slL (same_sq (S1.trans S2) ha) fun l3 H3 n3 S3 e3 => ?_
      rw [em] at e3
      refine ⟨l3, rfl, ⟨_, SqL.of e3⟩, ?_⟩
      refine lc_src (item := fun i x _ => (ms.map V.int)[i]? = some x) (src_list (SqL.of e3)) (by rw [List.length_map]; omega) (fun _ acc _ => ∃ ks : List Int, acc = ks.map V.int ∧ ∀ k ∈ ks, 0 ≤ k) (fun _ _ _ _ _ _ _ _ _ _ a => a) (fun _ _ => ⟨[], rfl, nofun⟩) (fun i x acc H4 Nx No hi S4 hx ⟨ks, ea, hk⟩ hl k1 k2 => ?_) fun l5 acc H5 n5 S5 e5 ⟨ks, ea, hk⟩ hl5 => ?_
      · rw [List.getElem?_map] at hx
        cases hm : ms[i]? with
        | none =>
          rw [hm] at hx
          cases hx
        | some c =>
          rw [hm] at hx
          obtain rfl := Option.some.inj hx
          walk_at "gg"
          refine ⟨rfl, ?_⟩
          walk_at "gg"
          refine g_ifT rfl ?_
          walk_at "gg"
          refine g_abs fun c1 c10 _ => ?_
          walk_at "gg"
          refine g_powB ⟨by decide, by decide, by decide⟩ ?_
          walk_at "gg"
          refine g_powB ⟨by decide, by decide, by decide +kernel⟩ ?_
          walk_at "gg"
          have y0 : 0 ≤ c1 % (10 ^ Int.toNat 60) ^ Int.toNat 10 := Int.emod_nonneg _ (by decide +kernel)
          generalize c1 % (10 ^ Int.toNat 60) ^ Int.toNat 10 = y at y0
          refine k1 _ _ (Same.refl _) ⟨ks ++ [y], by rw [ea, List.map_append]; rfl, fun z hz => ?_⟩
          rcases List.mem_append.mp hz with h | h
          · exact hk z h
          · rw [List.mem_singleton.mp h]
            exact y0
      · walk_at "gg"
        refine g_mkL (by walk_at "ln") fun l6 H6 n6 S6 e6 => ?_
        rw [ea] at e5
        have S05 := ((S1.trans S2).trans S3).trans S5
        refine k l6 l5 b ks H6 ?_ ?_ (fun z => ?_) (S05.trans S6) e6 (S6 _ _ e5) hk b0 b1
        · exact same_free S05 n6
        · exact same_free ((S1.trans S2).trans S3) n5
        · subst z
          rw [e5] at n6
          cases n6
theorem ok_bag {f : Addr} {fd : FuncData} (D : Dn K mg "_law_bag" s_bag ["_law_script"] f fd) (T : Bt mg) : Cal P w K mg base 1 "_law_bag" (spBag K) [] := by
  refine cal_of D (hid_made (hid_made (ok_bag0 D T) (sp' := fun vs H Q _ => ∃ (a : Addr) (ns : List Int), vs = [.ref a] ∧ SqL K H a (ns.map V.int) ∧ ns.length ≤ 1000 ∧
    ∀ (f q : Addr) (s : Int) (H' : Hp), H f = none → H q = none → f ≠ q → Same H H' → H' f = some (.lst [.ref q, .int 0, .int 0, .int s, .int 0]) → H' q = some (HidO Nats q) → 0 ≤ s → s < bagM → Q (.ref f) H') fun vs H Q E h => ?_) fun vs H Q E h => ?_)
  · obtain ⟨a, ns, rfl, ha, hl, k⟩ := h
    refine ⟨a, ns, rfl, ha, hl, fun f q s ms H' nf nq ne S ef eq hm s0 s1 => ⟨q, Nats, _, ⟨ms, rfl, hm⟩, eq, k f q s _ nf nq ne (same_mut S nq) (by rw [upd_ne ne]; exact ef) upd_same s0 s1⟩⟩
  · obtain ⟨a, ns, rfl, ha, hl, k⟩ := h
    refine ⟨a, ns, rfl, ha, hl, fun f q s H' nf nq ne S ef eq s0 s1 => ⟨f, BagG q 0, _, ⟨0, 0, s, 0, rfl, by decide, by decide, s0, s1, by decide, by decide⟩, ef, k f _ nf (same_mut S nf) ⟨q, Ne.symm ne, upd_same, by rw [upd_ne (Ne.symm ne)]; exact eq⟩⟩⟩
end
end Gk

namespace Gk
open PySem L2 Gx
open C8 (Cal Met Mak pe_c pe_mt pe_mt0 pe_mk pe_gc)
local macro_rules | `(tactic| walk_at "g") => `(tactic| (first
  | with_reducible refine g_seq ?_ | with_reducible refine g_asg ?_ | ((with_reducible show tVar _ _ _ _); refine g_var rfl ?_) | with_reducible refine g_c ?_ | with_reducible refine g_name ?_ | with_reducible refine g_op ?_ | with_reducible refine g_I0 ?_
  | with_reducible refine g_cons ?_ | with_reducible refine g_nil ?_ | with_reducible refine g_exbl ?_ | with_reducible refine g_exint ?_ | with_reducible refine g_test ?_ | with_reducible refine g_B ?_ | with_reducible refine g_ifS ?_ | with_reducible refine g_ret ?_ | with_reducible refine g_retN ?_ | with_reducible refine g_next ?_
  | with_reducible refine g_CB ?_ | with_reducible refine g_sub ?_ | with_reducible refine g_drop ?_ | with_reducible refine g_not ?_ | with_reducible refine g_and ?_ | with_reducible refine g_or ?_ | with_reducible refine g_andV ?_ | with_reducible refine g_orV ?_ | with_reducible refine g_notV ?_ | with_reducible refine g_ifE ?_ | with_reducible refine g_isN ?_
  | with_reducible refine g_par ?_ | with_reducible refine g_expar ?_ | with_reducible refine g_chain ?_ | with_reducible refine g_un ?_ | with_reducible refine g_U ?_ | with_reducible refine g_bits ?_ | ((with_reducible show rEq _ _ _ _); refine g_eq rfl ?_) | ((with_reducible show rNe _ _ _ _); refine g_ne rfl ?_)
  | with_reducible refine g_for ?_ | with_reducible refine g_iRng1 ?_ | with_reducible refine g_iRng2 ?_ | with_reducible refine g_iList ?_ | with_reducible refine g_iTup ?_
  | ((with_reducible refine g_Imul ?hc ?_); (case hc => (first | (refine Or.inl ⟨?_, ?_⟩ <;> first | decide | omega) | (refine Or.inr ⟨?_, ?_⟩ <;> first | decide | omega))))
  | ((with_reducible refine g_Idiv ?hc ?_); (case hc => (first | (exact ⟨by decide, by decide⟩) | assumption)))
  | ((with_reducible refine g_Imod ?hc ?_); (case hc => (first | assumption | omega | decide)))
  | ((with_reducible refine g_exR1 ?hlo ?hhi ?_); (case hlo => omega); (case hhi => omega))
  | ((with_reducible refine g_exR2 ?hb ?_); (case hb => omega))
  | with_reducible refine g_lst ?_ | with_reducible refine g_tup ?_ | with_reducible refine g_call ?_ | with_reducible refine g_BM ?_ | with_reducible refine g_BM0 ?_
  | with_reducible refine g_intB ?_ | with_reducible refine g_lc ?_ | with_reducible refine g_yes ?_ | with_reducible refine g_iZip ?_ | with_reducible refine g_sl ?_ | with_reducible refine g_noP ?_ | with_reducible refine g_part ?_ | with_reducible refine g_gcons ?_ | with_reducible refine g_gnil ?_
  | with_reducible refine g_tfld ?_ | with_reducible refine g_tmeth ?_ | with_reducible refine g_tmake ?_ | with_reducible refine g_sfld ?_ | with_reducible refine g_tprop ?_ | with_reducible refine g_tstar ?_ | with_reducible refine g_tmethK ?_ | with_reducible refine g_isN1 ?_ | with_reducible refine g_notN1 ?_ | with_reducible refine g_callK0 ?_ | with_reducible refine g_m1 ?_ | with_reducible refine g_isstr ?_ | with_reducible refine g_iStr ?_ | with_reducible refine g_exS ?_ | with_reducible refine g_iEnum ?_))
local macro_rules | `(tactic| walk_at "gs1") => `(tactic| (first
  | with_reducible refine g_seq ?_ | with_reducible refine g_asg ?_ | ((with_reducible show tVar _ _ _ _); refine g_var rfl ?_) | with_reducible refine g_c ?_ | with_reducible refine g_name ?_ | with_reducible refine g_op ?_ | with_reducible refine g_I0 ?_
  | with_reducible refine g_cons ?_ | with_reducible refine g_nil ?_ | with_reducible refine g_exbl ?_ | with_reducible refine g_exint ?_ | with_reducible refine g_test ?_ | with_reducible refine g_B ?_ | with_reducible refine g_ifS ?_ | with_reducible refine g_retN ?_ | with_reducible refine g_next ?_
  | with_reducible refine g_CB ?_ | with_reducible refine g_sub ?_ | with_reducible refine g_drop ?_ | with_reducible refine g_not ?_ | with_reducible refine g_and ?_ | with_reducible refine g_or ?_ | with_reducible refine g_andV ?_ | with_reducible refine g_orV ?_ | with_reducible refine g_notV ?_ | with_reducible refine g_ifE ?_ | with_reducible refine g_isN ?_
  | with_reducible refine g_par ?_ | with_reducible refine g_expar ?_ | with_reducible refine g_chain ?_ | with_reducible refine g_un ?_ | with_reducible refine g_U ?_ | with_reducible refine g_bits ?_ | ((with_reducible show rEq _ _ _ _); refine g_eq rfl ?_) | ((with_reducible show rNe _ _ _ _); refine g_ne rfl ?_)
  | with_reducible refine g_for ?_ | with_reducible refine g_iRng1 ?_ | with_reducible refine g_iRng2 ?_ | with_reducible refine g_iList ?_ | with_reducible refine g_iTup ?_
  | ((with_reducible refine g_Imul ?hc ?_); (case hc => (first | (refine Or.inl ⟨?_, ?_⟩ <;> first | decide | omega) | (refine Or.inr ⟨?_, ?_⟩ <;> first | decide | omega))))
  | ((with_reducible refine g_Idiv ?hc ?_); (case hc => (first | (exact ⟨by decide, by decide⟩) | assumption)))
  | ((with_reducible refine g_Imod ?hc ?_); (case hc => (first | assumption | omega | decide)))
  | ((with_reducible refine g_exR1 ?hlo ?hhi ?_); (case hlo => omega); (case hhi => omega))
  | ((with_reducible refine g_exR2 ?hb ?_); (case hb => omega))
  | with_reducible refine g_lst ?_ | with_reducible refine g_tup ?_ | with_reducible refine g_call ?_ | with_reducible refine g_BM ?_ | with_reducible refine g_BM0 ?_
  | with_reducible refine g_intB ?_ | with_reducible refine g_lc ?_ | with_reducible refine g_yes ?_ | with_reducible refine g_iZip ?_ | with_reducible refine g_sl ?_ | with_reducible refine g_noP ?_ | with_reducible refine g_part ?_ | with_reducible refine g_gcons ?_ | with_reducible refine g_gnil ?_
  | with_reducible refine g_tfld ?_ | with_reducible refine g_tmeth ?_ | with_reducible refine g_tmake ?_ | with_reducible refine g_sfld ?_ | with_reducible refine g_tprop ?_ | with_reducible refine g_tstar ?_ | with_reducible refine g_tmethK ?_ | with_reducible refine g_isN1 ?_ | with_reducible refine g_notN1 ?_ | with_reducible refine g_callK0 ?_ | with_reducible refine g_m1 ?_ | with_reducible refine g_isstr ?_ | with_reducible refine g_iStr ?_ | with_reducible refine g_exS ?_ | with_reducible refine g_iEnum ?_))
local macro_rules | `(tactic| walk_at "gx1") => `(tactic| (first
  | with_reducible refine g_seq ?_ | with_reducible refine g_asg ?_ | ((with_reducible show tVar _ _ _ _); refine g_var rfl ?_) | with_reducible refine g_c ?_ | with_reducible refine g_name ?_ | with_reducible refine g_op ?_ | with_reducible refine g_I0 ?_
  | with_reducible refine g_cons ?_ | with_reducible refine g_nil ?_ | with_reducible refine g_exbl ?_ | with_reducible refine g_exint ?_ | with_reducible refine g_test ?_ | with_reducible refine g_B ?_ | with_reducible refine g_ifS ?_ | with_reducible refine g_retN ?_ | with_reducible refine g_next ?_
  | with_reducible refine g_CB ?_ | with_reducible refine g_sub ?_ | with_reducible refine g_drop ?_ | with_reducible refine g_not ?_ | with_reducible refine g_and ?_ | with_reducible refine g_or ?_ | with_reducible refine g_andV ?_ | with_reducible refine g_orV ?_ | with_reducible refine g_notV ?_ | with_reducible refine g_ret ?_ | with_reducible refine g_isN ?_
  | with_reducible refine g_par ?_ | with_reducible refine g_expar ?_ | with_reducible refine g_chain ?_ | with_reducible refine g_un ?_ | with_reducible refine g_U ?_ | with_reducible refine g_bits ?_ | ((with_reducible show rEq _ _ _ _); refine g_eq rfl ?_) | ((with_reducible show rNe _ _ _ _); refine g_ne rfl ?_)
  | with_reducible refine g_for ?_ | with_reducible refine g_iRng1 ?_ | with_reducible refine g_iRng2 ?_ | with_reducible refine g_iList ?_ | with_reducible refine g_iTup ?_
  | ((with_reducible refine g_Imul ?hc ?_); (case hc => (first | (refine Or.inl ⟨?_, ?_⟩ <;> first | decide | omega) | (refine Or.inr ⟨?_, ?_⟩ <;> first | decide | omega))))
  | ((with_reducible refine g_Idiv ?hc ?_); (case hc => (first | (exact ⟨by decide, by decide⟩) | assumption)))
  | ((with_reducible refine g_Imod ?hc ?_); (case hc => (first | assumption | omega | decide)))
  | ((with_reducible refine g_exR1 ?hlo ?hhi ?_); (case hlo => omega); (case hhi => omega))
  | ((with_reducible refine g_exR2 ?hb ?_); (case hb => omega))
  | with_reducible refine g_lst ?_ | with_reducible refine g_tup ?_ | with_reducible refine g_call ?_ | with_reducible refine g_BM ?_ | with_reducible refine g_BM0 ?_
  | with_reducible refine g_intB ?_ | with_reducible refine g_lc ?_ | with_reducible refine g_yes ?_ | with_reducible refine g_iZip ?_ | with_reducible refine g_sl ?_ | with_reducible refine g_noP ?_ | with_reducible refine g_part ?_ | with_reducible refine g_gcons ?_ | with_reducible refine g_gnil ?_
  | with_reducible refine g_tfld ?_ | with_reducible refine g_tmeth ?_ | with_reducible refine g_tmake ?_ | with_reducible refine g_sfld ?_ | with_reducible refine g_tprop ?_ | with_reducible refine g_tstar ?_ | with_reducible refine g_tmethK ?_ | with_reducible refine g_isN1 ?_ | with_reducible refine g_notN1 ?_ | with_reducible refine g_callK0 ?_ | with_reducible refine g_m1 ?_ | with_reducible refine g_isstr ?_ | with_reducible refine g_iStr ?_ | with_reducible refine g_exS ?_ | with_reducible refine g_iEnum ?_))
local macro_rules | `(tactic| walk_at "hp") => `(tactic| (first | assumption | exact upd_same | (refine same_get (by assumption) ?_; walk_at "hp")))
local macro_rules | `(tactic| walk_at "sm") => `(tactic| (first | assumption | exact Same.refl _ | (refine Same.trans ?ha (by assumption); walk_at "sm")))
local macro_rules | `(tactic| walk_at "nn") => `(tactic| (first | assumption | (refine same_free (by assumption) ?_; walk_at "nn")))
local macro_rules | `(tactic| walk_at "sb") => `(tactic| (first | decide | (refine small_bits ?_ ?_ <;> omega)))
local macro_rules | `(tactic| walk_at "ln") => `(tactic| (simp only [List.length_cons, List.length_nil]; omega))
local macro_rules | `(tactic| walk_at "gg") => `(tactic| (repeat walk_at "g"))
local macro_rules | `(tactic| walk_at "gs") => `(tactic| (repeat walk_at "gs1"))
local macro_rules | `(tactic| walk_at "gx") => `(tactic| (repeat walk_at "gx1"))

section
variable {P : Program} {w : World} {K : PySem.W.Frag} {mg : Str → Option Value} {base : Heap} {X : Cx} {C LE : Addr} {mc : Value}
abbrev s_Impossible_init : Stmt := inClass (top 18) 0
abbrev N_Impossible_init : List Str := ["self", "index"]
theorem sc_Impossible_init : FnScope N_Impossible_init ["self", "index"] (defScope s_Impossible_init) := ⟨rfl, rfl, rfl, by decide +kernel, rfl, by decide +kernel, by decide +kernel⟩

theorem ok_impInit {f : Addr} {fd : FuncData} (F : Fun K "__init__" "Impossible.__init__" s_Impossible_init f fd) (T : OexC K C) (np : PySem.W.findIn K (.ref C) "index" = some none) (hm : mg "LockError" = some (.ref LE)) (ga : PySem.W.specialIn K (.ref LE) "__getattribute__" = some (some (.builtin "type.__getattribute__")))
    (rd : PySem.W.readsIn K LE mc = true) (fc : PySem.W.findCls K (.ref LE) mc "__init__" = some (.val (.builtin "ValueError.__init__"))) : FnOk P w K mg base CX0 1 f fd ["self", "index"] (spErrInit C "index") := by
  refine F.ok sc_Impossible_init (fun vs H Q E h => ?_) (fun cdv A outer s H vs Q E hr h => ?_)
  · obtain ⟨a, v, rfl, _⟩ := h
    rfl
  · obtain ⟨a, v, rfl, ha, k⟩ := h
    refine ⟨_, (pss_cons (ps_expr (pe_above (by rfl) hm ga rd fc (pa_cons (pv 0) (pa_cons pe_str pa_nil))))
    (pss_one (ps_ost (pv 0) (pv 1)))), ?_⟩
    walk_at "gg"
    refine g_veI ?_
    walk_at "gg"
    refine ⟨a, C, _, rfl, (by show 1 ≤ 1000; decide), T, ha, ?_⟩
    with_reducible refine g_ost ?_
    walk_at "gg"
    exact ⟨a, C, rfl, T, np, .inl ⟨ha, fun d nd ne => k d nd ne⟩⟩
abbrev s_InvalidText_init : Stmt := inClass (top 19) 0
abbrev N_InvalidText_init : List Str := ["self", "place"]
theorem sc_InvalidText_init : FnScope N_InvalidText_init ["self", "place"] (defScope s_InvalidText_init) := ⟨rfl, rfl, rfl, by decide +kernel, rfl, by decide +kernel, by decide +kernel⟩

theorem ok_txtInit {f : Addr} {fd : FuncData} (F : Fun K "__init__" "InvalidText.__init__" s_InvalidText_init f fd) (T : OexC K C) (np : PySem.W.findIn K (.ref C) "place" = some none) (hm : mg "LockError" = some (.ref LE)) (ga : PySem.W.specialIn K (.ref LE) "__getattribute__" = some (some (.builtin "type.__getattribute__")))
    (rd : PySem.W.readsIn K LE mc = true) (fc : PySem.W.findCls K (.ref LE) mc "__init__" = some (.val (.builtin "ValueError.__init__"))) : FnOk P w K mg base CX0 1 f fd ["self", "place"] (spErrInit C "place") := by
  refine F.ok sc_InvalidText_init (fun vs H Q E h => ?_) (fun cdv A outer s H vs Q E hr h => ?_)
  · obtain ⟨a, v, rfl, _⟩ := h
    rfl
  · obtain ⟨a, v, rfl, ha, k⟩ := h
    refine ⟨_, (pss_cons (ps_expr (pe_above (by rfl) hm ga rd fc (pa_cons (pv 0) (pa_cons pe_str pa_nil))))
    (pss_one (ps_ost (pv 0) (pv 1)))), ?_⟩
    walk_at "gg"
    refine g_veI ?_
    walk_at "gg"
    refine ⟨a, C, _, rfl, (by show 1 ≤ 1000; decide), T, ha, ?_⟩
    with_reducible refine g_ost ?_
    walk_at "gg"
    exact ⟨a, C, rfl, T, np, .inl ⟨ha, fun d nd ne => k d nd ne⟩⟩
end
end Gk

namespace Gk
open PySem L2 Gx
open C8 (Cal Met Mak pe_c pe_mt pe_mt0 pe_mk pe_gc)
local macro_rules | `(tactic| walk_at "g") => `(tactic| (first
  | with_reducible refine g_seq ?_ | with_reducible refine g_asg ?_ | ((with_reducible show tVar _ _ _ _); refine g_var rfl ?_) | with_reducible refine g_c ?_ | with_reducible refine g_name ?_ | with_reducible refine g_op ?_ | with_reducible refine g_I0 ?_
  | with_reducible refine g_cons ?_ | with_reducible refine g_nil ?_ | with_reducible refine g_exbl ?_ | with_reducible refine g_exint ?_ | with_reducible refine g_test ?_ | with_reducible refine g_B ?_ | with_reducible refine g_ifS ?_ | with_reducible refine g_ret ?_ | with_reducible refine g_retN ?_ | with_reducible refine g_next ?_
  | with_reducible refine g_CB ?_ | with_reducible refine g_sub ?_ | with_reducible refine g_drop ?_ | with_reducible refine g_not ?_ | with_reducible refine g_and ?_ | with_reducible refine g_or ?_ | with_reducible refine g_andV ?_ | with_reducible refine g_orV ?_ | with_reducible refine g_notV ?_ | with_reducible refine g_ifE ?_ | with_reducible refine g_isN ?_
  | with_reducible refine g_par ?_ | with_reducible refine g_expar ?_ | with_reducible refine g_chain ?_ | with_reducible refine g_un ?_ | with_reducible refine g_U ?_ | with_reducible refine g_bits ?_ | ((with_reducible show rEq _ _ _ _); refine g_eq rfl ?_) | ((with_reducible show rNe _ _ _ _); refine g_ne rfl ?_)
  | with_reducible refine g_for ?_ | with_reducible refine g_iRng1 ?_ | with_reducible refine g_iRng2 ?_ | with_reducible refine g_iList ?_ | with_reducible refine g_iTup ?_
  | ((with_reducible refine g_Imul ?hc ?_); (case hc => (first | (refine Or.inl ⟨?_, ?_⟩ <;> first | decide | omega) | (refine Or.inr ⟨?_, ?_⟩ <;> first | decide | omega))))
  | ((with_reducible refine g_Idiv ?hc ?_); (case hc => (first | (exact ⟨by decide, by decide⟩) | assumption)))
  | ((with_reducible refine g_Imod ?hc ?_); (case hc => (first | assumption | omega | decide)))
  | ((with_reducible refine g_exR1 ?hlo ?hhi ?_); (case hlo => omega); (case hhi => omega))
  | ((with_reducible refine g_exR2 ?hb ?_); (case hb => omega))
  | with_reducible refine g_lst ?_ | with_reducible refine g_tup ?_ | with_reducible refine g_call ?_ | with_reducible refine g_BM ?_ | with_reducible refine g_BM0 ?_
  | with_reducible refine g_intB ?_ | with_reducible refine g_lc ?_ | with_reducible refine g_yes ?_ | with_reducible refine g_iZip ?_ | with_reducible refine g_sl ?_ | with_reducible refine g_noP ?_ | with_reducible refine g_part ?_ | with_reducible refine g_gcons ?_ | with_reducible refine g_gnil ?_
  | with_reducible refine g_tfld ?_ | with_reducible refine g_tmeth ?_ | with_reducible refine g_tmake ?_ | with_reducible refine g_sfld ?_ | with_reducible refine g_tprop ?_ | with_reducible refine g_tstar ?_ | with_reducible refine g_tmethK ?_ | with_reducible refine g_isN1 ?_ | with_reducible refine g_notN1 ?_ | with_reducible refine g_callK0 ?_ | with_reducible refine g_m1 ?_ | with_reducible refine g_isstr ?_ | with_reducible refine g_iStr ?_ | with_reducible refine g_exS ?_ | with_reducible refine g_iEnum ?_))
local macro_rules | `(tactic| walk_at "gs1") => `(tactic| (first
  | with_reducible refine g_seq ?_ | with_reducible refine g_asg ?_ | ((with_reducible show tVar _ _ _ _); refine g_var rfl ?_) | with_reducible refine g_c ?_ | with_reducible refine g_name ?_ | with_reducible refine g_op ?_ | with_reducible refine g_I0 ?_
  | with_reducible refine g_cons ?_ | with_reducible refine g_nil ?_ | with_reducible refine g_exbl ?_ | with_reducible refine g_exint ?_ | with_reducible refine g_test ?_ | with_reducible refine g_B ?_ | with_reducible refine g_ifS ?_ | with_reducible refine g_retN ?_ | with_reducible refine g_next ?_
  | with_reducible refine g_CB ?_ | with_reducible refine g_sub ?_ | with_reducible refine g_drop ?_ | with_reducible refine g_not ?_ | with_reducible refine g_and ?_ | with_reducible refine g_or ?_ | with_reducible refine g_andV ?_ | with_reducible refine g_orV ?_ | with_reducible refine g_notV ?_ | with_reducible refine g_ifE ?_ | with_reducible refine g_isN ?_
  | with_reducible refine g_par ?_ | with_reducible refine g_expar ?_ | with_reducible refine g_chain ?_ | with_reducible refine g_un ?_ | with_reducible refine g_U ?_ | with_reducible refine g_bits ?_ | ((with_reducible show rEq _ _ _ _); refine g_eq rfl ?_) | ((with_reducible show rNe _ _ _ _); refine g_ne rfl ?_)
  | with_reducible refine g_for ?_ | with_reducible refine g_iRng1 ?_ | with_reducible refine g_iRng2 ?_ | with_reducible refine g_iList ?_ | with_reducible refine g_iTup ?_
  | ((with_reducible refine g_Imul ?hc ?_); (case hc => (first | (refine Or.inl ⟨?_, ?_⟩ <;> first | decide | omega) | (refine Or.inr ⟨?_, ?_⟩ <;> first | decide | omega))))
  | ((with_reducible refine g_Idiv ?hc ?_); (case hc => (first | (exact ⟨by decide, by decide⟩) | assumption)))
  | ((with_reducible refine g_Imod ?hc ?_); (case hc => (first | assumption | omega | decide)))
  | ((with_reducible refine g_exR1 ?hlo ?hhi ?_); (case hlo => omega); (case hhi => omega))
  | ((with_reducible refine g_exR2 ?hb ?_); (case hb => omega))
  | with_reducible refine g_lst ?_ | with_reducible refine g_tup ?_ | with_reducible refine g_call ?_ | with_reducible refine g_BM ?_ | with_reducible refine g_BM0 ?_
  | with_reducible refine g_intB ?_ | with_reducible refine g_lc ?_ | with_reducible refine g_yes ?_ | with_reducible refine g_iZip ?_ | with_reducible refine g_sl ?_ | with_reducible refine g_noP ?_ | with_reducible refine g_part ?_ | with_reducible refine g_gcons ?_ | with_reducible refine g_gnil ?_
  | with_reducible refine g_tfld ?_ | with_reducible refine g_tmeth ?_ | with_reducible refine g_tmake ?_ | with_reducible refine g_sfld ?_ | with_reducible refine g_tprop ?_ | with_reducible refine g_tstar ?_ | with_reducible refine g_tmethK ?_ | with_reducible refine g_isN1 ?_ | with_reducible refine g_notN1 ?_ | with_reducible refine g_callK0 ?_ | with_reducible refine g_m1 ?_ | with_reducible refine g_isstr ?_ | with_reducible refine g_iStr ?_ | with_reducible refine g_exS ?_ | with_reducible refine g_iEnum ?_))
local macro_rules | `(tactic| walk_at "gx1") => `(tactic| (first
  | with_reducible refine g_seq ?_ | with_reducible refine g_asg ?_ | ((with_reducible show tVar _ _ _ _); refine g_var rfl ?_) | with_reducible refine g_c ?_ | with_reducible refine g_name ?_ | with_reducible refine g_op ?_ | with_reducible refine g_I0 ?_
  | with_reducible refine g_cons ?_ | with_reducible refine g_nil ?_ | with_reducible refine g_exbl ?_ | with_reducible refine g_exint ?_ | with_reducible refine g_test ?_ | with_reducible refine g_B ?_ | with_reducible refine g_ifS ?_ | with_reducible refine g_retN ?_ | with_reducible refine g_next ?_
  | with_reducible refine g_CB ?_ | with_reducible refine g_sub ?_ | with_reducible refine g_drop ?_ | with_reducible refine g_not ?_ | with_reducible refine g_and ?_ | with_reducible refine g_or ?_ | with_reducible refine g_andV ?_ | with_reducible refine g_orV ?_ | with_reducible refine g_notV ?_ | with_reducible refine g_ret ?_ | with_reducible refine g_isN ?_
  | with_reducible refine g_par ?_ | with_reducible refine g_expar ?_ | with_reducible refine g_chain ?_ | with_reducible refine g_un ?_ | with_reducible refine g_U ?_ | with_reducible refine g_bits ?_ | ((with_reducible show rEq _ _ _ _); refine g_eq rfl ?_) | ((with_reducible show rNe _ _ _ _); refine g_ne rfl ?_)
  | with_reducible refine g_for ?_ | with_reducible refine g_iRng1 ?_ | with_reducible refine g_iRng2 ?_ | with_reducible refine g_iList ?_ | with_reducible refine g_iTup ?_
  | ((with_reducible refine g_Imul ?hc ?_); (case hc => (first | (refine Or.inl ⟨?_, ?_⟩ <;> first | decide | omega) | (refine Or.inr ⟨?_, ?_⟩ <;> first | decide | omega))))
  | ((with_reducible refine g_Idiv ?hc ?_); (case hc => (first | (exact ⟨by decide, by decide⟩) | assumption)))
  | ((with_reducible refine g_Imod ?hc ?_); (case hc => (first | assumption | omega | decide)))
  | ((with_reducible refine g_exR1 ?hlo ?hhi ?_); (case hlo => omega); (case hhi => omega))
  | ((with_reducible refine g_exR2 ?hb ?_); (case hb => omega))
  | with_reducible refine g_lst ?_ | with_reducible refine g_tup ?_ | with_reducible refine g_call ?_ | with_reducible refine g_BM ?_ | with_reducible refine g_BM0 ?_
  | with_reducible refine g_intB ?_ | with_reducible refine g_lc ?_ | with_reducible refine g_yes ?_ | with_reducible refine g_iZip ?_ | with_reducible refine g_sl ?_ | with_reducible refine g_noP ?_ | with_reducible refine g_part ?_ | with_reducible refine g_gcons ?_ | with_reducible refine g_gnil ?_
  | with_reducible refine g_tfld ?_ | with_reducible refine g_tmeth ?_ | with_reducible refine g_tmake ?_ | with_reducible refine g_sfld ?_ | with_reducible refine g_tprop ?_ | with_reducible refine g_tstar ?_ | with_reducible refine g_tmethK ?_ | with_reducible refine g_isN1 ?_ | with_reducible refine g_notN1 ?_ | with_reducible refine g_callK0 ?_ | with_reducible refine g_m1 ?_ | with_reducible refine g_isstr ?_ | with_reducible refine g_iStr ?_ | with_reducible refine g_exS ?_ | with_reducible refine g_iEnum ?_))
local macro_rules | `(tactic| walk_at "hp") => `(tactic| (first | assumption | exact upd_same | (refine same_get (by assumption) ?_; walk_at "hp")))
local macro_rules | `(tactic| walk_at "sm") => `(tactic| (first | assumption | exact Same.refl _ | (refine Same.trans ?ha (by assumption); walk_at "sm")))
local macro_rules | `(tactic| walk_at "nn") => `(tactic| (first | assumption | (refine same_free (by assumption) ?_; walk_at "nn")))
local macro_rules | `(tactic| walk_at "sb") => `(tactic| (first | decide | (refine small_bits ?_ ?_ <;> omega)))
local macro_rules | `(tactic| walk_at "ln") => `(tactic| (simp only [List.length_cons, List.length_nil]; omega))
local macro_rules | `(tactic| walk_at "gg") => `(tactic| (repeat walk_at "g"))
local macro_rules | `(tactic| walk_at "gs") => `(tactic| (repeat walk_at "gs1"))
local macro_rules | `(tactic| walk_at "gx") => `(tactic| (repeat walk_at "gx1"))

section
variable {P : Program} {w : World} {K : PySem.W.Frag} {mg : Str → Option Value} {base : Heap} {X : Cx}
/-- the classes of errors, numbered -/
structure ErrG78 (mg : Str → Option Value) (e : Nat → Addr) : Prop where
  e0 : mg "InvalidPoints" = some (.ref (e 0))
  e1 : mg "InvalidEntries" = some (.ref (e 1))
  e2 : mg "InvalidRange" = some (.ref (e 2))
  e3 : mg "InvalidNumber" = some (.ref (e 3))
  e4 : mg "InvalidWay" = some (.ref (e 4))
  e5 : mg "InvalidKind" = some (.ref (e 5))
  e6 : mg "InvalidScripts" = some (.ref (e 6))
  e7 : mg "InvalidTurns" = some (.ref (e 7))
  e8 : mg "InvalidLog" = some (.ref (e 8))
  e9 : mg "InvalidOrder" = some (.ref (e 9))
  e10 : mg "UnknownTransaction" = some (.ref (e 10))
  e11 : mg "IsWaiting" = some (.ref (e 11))
  e12 : mg "NotWaiting" = some (.ref (e 12))
  e13 : mg "NotHeld" = some (.ref (e 13))
  e14 : mg "TooMany" = some (.ref (e 14))
  e15 : mg "NothingToUndo" = some (.ref (e 15))
  e16 : mg "Impossible" = some (.ref (e 16))
  e17 : mg "InvalidText" = some (.ref (e 17))
  e18 : mg "LockError" = some (.ref (e 18))
  v : mg "ValueError" = none
theorem bt_ValueError78 : bootBuiltins "ValueError" = some (.type "ValueError") := by decide +kernel
/-- the class at D, asked for all classes -/
structure AskK (K : PySem.W.Frag) (e : Nat → Addr) (D : Addr) (bs : Nat → Bool) : Prop where
  exc : ErrC K D
  is : ∀ i, i < 18 → PySem.W.kitOne K (.ref D) (.ref (e i)) = some (bs i)
def spOf (K : PySem.W.Frag) (e : Nat → Addr) : Sp := fun vs H Q _ => ∃ (a D : Addr) (bs : Nat → Bool), vs = [.ref a] ∧ VErr H a D ∧ AskK K e D bs ∧ ∀ (l : Addr) (H' : Hp), H l = none → Same H H' → H' l = some (.lst ((List.range 18).map fun i => V.bl (bs i))) → Q (.ref l) H'
abbrev s_of : Stmt := top 25
abbrev N_of : List Str := ["_law_made", "_law_found"]
theorem sc_of : FnScope N_of ["_law_made"] (defScope s_of) := ⟨rfl, rfl, rfl, by decide +kernel, rfl, by decide +kernel, by decide +kernel⟩

theorem ok_of {f : Addr} {fd : FuncData} {e : Nat → Addr} (D : Dn K mg "_law_of" s_of ["_law_made"] f fd) (T : Bt mg) (G : ErrG78 mg e) : Cal P w K mg base 1 "_law_of" (spOf K e) [] := by
  have g_InvalidPoints : ∃ u, mg "InvalidPoints" = some u ∧ RelV (V.ref (e 0)) u := ⟨_, G.e0, rfl⟩
  have g_InvalidEntries : ∃ u, mg "InvalidEntries" = some u ∧ RelV (V.ref (e 1)) u := ⟨_, G.e1, rfl⟩
  have g_InvalidRange : ∃ u, mg "InvalidRange" = some u ∧ RelV (V.ref (e 2)) u := ⟨_, G.e2, rfl⟩
  have g_InvalidNumber : ∃ u, mg "InvalidNumber" = some u ∧ RelV (V.ref (e 3)) u := ⟨_, G.e3, rfl⟩
  have g_InvalidWay : ∃ u, mg "InvalidWay" = some u ∧ RelV (V.ref (e 4)) u := ⟨_, G.e4, rfl⟩
  have g_InvalidKind : ∃ u, mg "InvalidKind" = some u ∧ RelV (V.ref (e 5)) u := ⟨_, G.e5, rfl⟩
  have g_InvalidScripts : ∃ u, mg "InvalidScripts" = some u ∧ RelV (V.ref (e 6)) u := ⟨_, G.e6, rfl⟩
  have g_InvalidTurns : ∃ u, mg "InvalidTurns" = some u ∧ RelV (V.ref (e 7)) u := ⟨_, G.e7, rfl⟩
  have g_InvalidLog : ∃ u, mg "InvalidLog" = some u ∧ RelV (V.ref (e 8)) u := ⟨_, G.e8, rfl⟩
  have g_InvalidOrder : ∃ u, mg "InvalidOrder" = some u ∧ RelV (V.ref (e 9)) u := ⟨_, G.e9, rfl⟩
  have g_UnknownTransaction : ∃ u, mg "UnknownTransaction" = some u ∧ RelV (V.ref (e 10)) u := ⟨_, G.e10, rfl⟩
  have g_IsWaiting : ∃ u, mg "IsWaiting" = some u ∧ RelV (V.ref (e 11)) u := ⟨_, G.e11, rfl⟩
  have g_NotWaiting : ∃ u, mg "NotWaiting" = some u ∧ RelV (V.ref (e 12)) u := ⟨_, G.e12, rfl⟩
  have g_NotHeld : ∃ u, mg "NotHeld" = some u ∧ RelV (V.ref (e 13)) u := ⟨_, G.e13, rfl⟩
  have g_TooMany : ∃ u, mg "TooMany" = some u ∧ RelV (V.ref (e 14)) u := ⟨_, G.e14, rfl⟩
  have g_NothingToUndo : ∃ u, mg "NothingToUndo" = some u ∧ RelV (V.ref (e 15)) u := ⟨_, G.e15, rfl⟩
  have g_Impossible : ∃ u, mg "Impossible" = some u ∧ RelV (V.ref (e 16)) u := ⟨_, G.e16, rfl⟩
  have g_InvalidText : ∃ u, mg "InvalidText" = some u ∧ RelV (V.ref (e 17)) u := ⟨_, G.e17, rfl⟩
  refine cal_of D (D.fn.ok sc_of (fun vs H Q E h => ?_) (fun cdv A outer s H vs Q E hr h => ?_))
  · obtain ⟨a, D, bs, rfl, _⟩ := h
    rfl
  · obtain ⟨a, D, bs, rfl, v, O, k⟩ := h
    refine ⟨_, (pss_cons (ps_set (i := 1) sc_of.nd rfl (Or.inl rfl) (pe_lst (pa_cons (pe_callB call_isV (by rfl) T.n_isinstance bt_isinstance (pa_cons (pv 0) (pa_cons (pe_gc (by rfl) g_InvalidPoints) pa_nil))) (pa_cons (pe_callB call_isV (by rfl) T.n_isinstance bt_isinstance (pa_cons (pv 0) (pa_cons (pe_gc (by rfl) g_InvalidEntries) pa_nil))) (pa_cons (pe_callB call_isV (by rfl) T.n_isinstance bt_isinstance (pa_cons (pv 0) (pa_cons (pe_gc (by rfl) g_InvalidRange) pa_nil))) pa_nil)))))
    (pss_cons (ps_set (i := 1) sc_of.nd rfl (Or.inl rfl) (pe_op op_cat (pv 1) (pe_lst (pa_cons (pe_callB call_isV (by rfl) T.n_isinstance bt_isinstance (pa_cons (pv 0) (pa_cons (pe_gc (by rfl) g_InvalidNumber) pa_nil))) (pa_cons (pe_callB call_isV (by rfl) T.n_isinstance bt_isinstance (pa_cons (pv 0) (pa_cons (pe_gc (by rfl) g_InvalidWay) pa_nil))) (pa_cons (pe_callB call_isV (by rfl) T.n_isinstance bt_isinstance (pa_cons (pv 0) (pa_cons (pe_gc (by rfl) g_InvalidKind) pa_nil))) pa_nil))))))
    (pss_cons (ps_set (i := 1) sc_of.nd rfl (Or.inl rfl) (pe_op op_cat (pv 1) (pe_lst (pa_cons (pe_callB call_isV (by rfl) T.n_isinstance bt_isinstance (pa_cons (pv 0) (pa_cons (pe_gc (by rfl) g_InvalidScripts) pa_nil))) (pa_cons (pe_callB call_isV (by rfl) T.n_isinstance bt_isinstance (pa_cons (pv 0) (pa_cons (pe_gc (by rfl) g_InvalidTurns) pa_nil))) (pa_cons (pe_callB call_isV (by rfl) T.n_isinstance bt_isinstance (pa_cons (pv 0) (pa_cons (pe_gc (by rfl) g_InvalidLog) pa_nil))) pa_nil))))))
    (pss_cons (ps_set (i := 1) sc_of.nd rfl (Or.inl rfl) (pe_op op_cat (pv 1) (pe_lst (pa_cons (pe_callB call_isV (by rfl) T.n_isinstance bt_isinstance (pa_cons (pv 0) (pa_cons (pe_gc (by rfl) g_InvalidOrder) pa_nil))) (pa_cons (pe_callB call_isV (by rfl) T.n_isinstance bt_isinstance (pa_cons (pv 0) (pa_cons (pe_gc (by rfl) g_UnknownTransaction) pa_nil))) (pa_cons (pe_callB call_isV (by rfl) T.n_isinstance bt_isinstance (pa_cons (pv 0) (pa_cons (pe_gc (by rfl) g_IsWaiting) pa_nil))) pa_nil))))))
    (pss_cons (ps_set (i := 1) sc_of.nd rfl (Or.inl rfl) (pe_op op_cat (pv 1) (pe_lst (pa_cons (pe_callB call_isV (by rfl) T.n_isinstance bt_isinstance (pa_cons (pv 0) (pa_cons (pe_gc (by rfl) g_NotWaiting) pa_nil))) (pa_cons (pe_callB call_isV (by rfl) T.n_isinstance bt_isinstance (pa_cons (pv 0) (pa_cons (pe_gc (by rfl) g_NotHeld) pa_nil))) (pa_cons (pe_callB call_isV (by rfl) T.n_isinstance bt_isinstance (pa_cons (pv 0) (pa_cons (pe_gc (by rfl) g_TooMany) pa_nil))) pa_nil))))))
    (pss_cons (ps_set (i := 1) sc_of.nd rfl (Or.inl rfl) (pe_op op_cat (pv 1) (pe_lst (pa_cons (pe_callB call_isV (by rfl) T.n_isinstance bt_isinstance (pa_cons (pv 0) (pa_cons (pe_gc (by rfl) g_NothingToUndo) pa_nil))) (pa_cons (pe_callB call_isV (by rfl) T.n_isinstance bt_isinstance (pa_cons (pv 0) (pa_cons (pe_gc (by rfl) g_Impossible) pa_nil))) (pa_cons (pe_callB call_isV (by rfl) T.n_isinstance bt_isinstance (pa_cons (pv 0) (pa_cons (pe_gc (by rfl) g_InvalidText) pa_nil))) pa_nil))))))
    (pss_one (ps_ret (pv 1))))))))), ?_⟩
    walk_at "gg"
    refine g_isV (v.same (Same.refl H)) O.exc (.own _) (O.is 0 (by decide)) ?_
    walk_at "gg"
    refine g_isV (v.same (Same.refl H)) O.exc (.own _) (O.is 1 (by decide)) ?_
    walk_at "gg"
    refine g_isV (v.same (Same.refl H)) O.exc (.own _) (O.is 2 (by decide)) ?_
    walk_at "gg"
    refine g_mkL (by walk_at "ln") fun l0 A0 n0 T0 e0 => ?_
    have U0 := (Same.refl H).trans T0
    walk_at "gg"
    refine g_isV (v.same U0) O.exc (.own _) (O.is 3 (by decide)) ?_
    walk_at "gg"
    refine g_isV (v.same U0) O.exc (.own _) (O.is 4 (by decide)) ?_
    walk_at "gg"
    refine g_isV (v.same U0) O.exc (.own _) (O.is 5 (by decide)) ?_
    walk_at "gg"
    refine g_mkL (by walk_at "ln") fun l1 A1 n1 T1 e1 => ?_
    have U1 := U0.trans T1
    walk_at "gg"
    refine g_cat (T1 _ _ e0) e1 (by simp only [List.length_append, List.length_cons, List.length_nil]; omega) fun p1 B1 m1 W1 c1 => ?_
    have V1 := U1.trans W1
    walk_at "gg"
    refine g_isV (v.same V1) O.exc (.own _) (O.is 6 (by decide)) ?_
    walk_at "gg"
    refine g_isV (v.same V1) O.exc (.own _) (O.is 7 (by decide)) ?_
    walk_at "gg"
    refine g_isV (v.same V1) O.exc (.own _) (O.is 8 (by decide)) ?_
    walk_at "gg"
    refine g_mkL (by walk_at "ln") fun l2 A2 n2 T2 e2 => ?_
    have U2 := V1.trans T2
    walk_at "gg"
    refine g_cat (T2 _ _ c1) e2 (by simp only [List.length_append, List.length_cons, List.length_nil]; omega) fun p2 B2 m2 W2 c2 => ?_
    have V2 := U2.trans W2
    walk_at "gg"
    refine g_isV (v.same V2) O.exc (.own _) (O.is 9 (by decide)) ?_
    walk_at "gg"
    refine g_isV (v.same V2) O.exc (.own _) (O.is 10 (by decide)) ?_
    walk_at "gg"
    refine g_isV (v.same V2) O.exc (.own _) (O.is 11 (by decide)) ?_
    walk_at "gg"
    refine g_mkL (by walk_at "ln") fun l3 A3 n3 T3 e3 => ?_
    have U3 := V2.trans T3
    walk_at "gg"
    refine g_cat (T3 _ _ c2) e3 (by simp only [List.length_append, List.length_cons, List.length_nil]; omega) fun p3 B3 m3 W3 c3 => ?_
    have V3 := U3.trans W3
    walk_at "gg"
    refine g_isV (v.same V3) O.exc (.own _) (O.is 12 (by decide)) ?_
    walk_at "gg"
    refine g_isV (v.same V3) O.exc (.own _) (O.is 13 (by decide)) ?_
    walk_at "gg"
    refine g_isV (v.same V3) O.exc (.own _) (O.is 14 (by decide)) ?_
    walk_at "gg"
    refine g_mkL (by walk_at "ln") fun l4 A4 n4 T4 e4 => ?_
    have U4 := V3.trans T4
    walk_at "gg"
    refine g_cat (T4 _ _ c3) e4 (by simp only [List.length_append, List.length_cons, List.length_nil]; omega) fun p4 B4 m4 W4 c4 => ?_
    have V4 := U4.trans W4
    walk_at "gg"
    refine g_isV (v.same V4) O.exc (.own _) (O.is 15 (by decide)) ?_
    walk_at "gg"
    refine g_isV (v.same V4) O.exc (.own _) (O.is 16 (by decide)) ?_
    walk_at "gg"
    refine g_isV (v.same V4) O.exc (.own _) (O.is 17 (by decide)) ?_
    walk_at "gg"
    refine g_mkL (by walk_at "ln") fun l5 A5 n5 T5 e5 => ?_
    have U5 := V4.trans T5
    walk_at "gg"
    refine g_cat (T5 _ _ c4) e5 (by simp only [List.length_append, List.length_cons, List.length_nil]; omega) fun p5 B5 m5 W5 c5 => ?_
    have V5 := U5.trans W5
    walk_at "gg"
    refine k p5 B5 ?_ V5 c5
    exact same_free U5 m5
end
end Gk

namespace Gk
open PySem L2 Gx
open C8 (Cal Met Mak pe_c pe_mt pe_mt0 pe_mk pe_gc)
local macro_rules | `(tactic| walk_at "g") => `(tactic| (first
  | with_reducible refine g_seq ?_ | with_reducible refine g_asg ?_ | ((with_reducible show tVar _ _ _ _); refine g_var rfl ?_) | with_reducible refine g_c ?_ | with_reducible refine g_name ?_ | with_reducible refine g_op ?_ | with_reducible refine g_I0 ?_
  | with_reducible refine g_cons ?_ | with_reducible refine g_nil ?_ | with_reducible refine g_exbl ?_ | with_reducible refine g_exint ?_ | with_reducible refine g_test ?_ | with_reducible refine g_B ?_ | with_reducible refine g_ifS ?_ | with_reducible refine g_ret ?_ | with_reducible refine g_retN ?_ | with_reducible refine g_next ?_
  | with_reducible refine g_CB ?_ | with_reducible refine g_sub ?_ | with_reducible refine g_drop ?_ | with_reducible refine g_not ?_ | with_reducible refine g_and ?_ | with_reducible refine g_or ?_ | with_reducible refine g_andV ?_ | with_reducible refine g_orV ?_ | with_reducible refine g_notV ?_ | with_reducible refine g_ifE ?_ | with_reducible refine g_isN ?_
  | with_reducible refine g_par ?_ | with_reducible refine g_expar ?_ | with_reducible refine g_chain ?_ | with_reducible refine g_un ?_ | with_reducible refine g_U ?_ | with_reducible refine g_bits ?_ | ((with_reducible show rEq _ _ _ _); refine g_eq rfl ?_) | ((with_reducible show rNe _ _ _ _); refine g_ne rfl ?_)
  | with_reducible refine g_for ?_ | with_reducible refine g_iRng1 ?_ | with_reducible refine g_iRng2 ?_ | with_reducible refine g_iList ?_ | with_reducible refine g_iTup ?_
  | ((with_reducible refine g_Imul ?hc ?_); (case hc => (first | (refine Or.inl ⟨?_, ?_⟩ <;> first | decide | omega) | (refine Or.inr ⟨?_, ?_⟩ <;> first | decide | omega))))
  | ((with_reducible refine g_Idiv ?hc ?_); (case hc => (first | (exact ⟨by decide, by decide⟩) | assumption)))
  | ((with_reducible refine g_Imod ?hc ?_); (case hc => (first | assumption | omega | decide)))
  | ((with_reducible refine g_exR1 ?hlo ?hhi ?_); (case hlo => omega); (case hhi => omega))
  | ((with_reducible refine g_exR2 ?hb ?_); (case hb => omega))
  | with_reducible refine g_lst ?_ | with_reducible refine g_tup ?_ | with_reducible refine g_call ?_ | with_reducible refine g_BM ?_ | with_reducible refine g_BM0 ?_
  | with_reducible refine g_intB ?_ | with_reducible refine g_lc ?_ | with_reducible refine g_yes ?_ | with_reducible refine g_iZip ?_ | with_reducible refine g_sl ?_ | with_reducible refine g_noP ?_ | with_reducible refine g_part ?_ | with_reducible refine g_gcons ?_ | with_reducible refine g_gnil ?_
  | with_reducible refine g_tfld ?_ | with_reducible refine g_tmeth ?_ | with_reducible refine g_tmake ?_ | with_reducible refine g_sfld ?_ | with_reducible refine g_tprop ?_ | with_reducible refine g_tstar ?_ | with_reducible refine g_tmethK ?_ | with_reducible refine g_isN1 ?_ | with_reducible refine g_notN1 ?_ | with_reducible refine g_callK0 ?_ | with_reducible refine g_m1 ?_ | with_reducible refine g_isstr ?_ | with_reducible refine g_iStr ?_ | with_reducible refine g_exS ?_ | with_reducible refine g_iEnum ?_))
local macro_rules | `(tactic| walk_at "gs1") => `(tactic| (first
  | with_reducible refine g_seq ?_ | with_reducible refine g_asg ?_ | ((with_reducible show tVar _ _ _ _); refine g_var rfl ?_) | with_reducible refine g_c ?_ | with_reducible refine g_name ?_ | with_reducible refine g_op ?_ | with_reducible refine g_I0 ?_
  | with_reducible refine g_cons ?_ | with_reducible refine g_nil ?_ | with_reducible refine g_exbl ?_ | with_reducible refine g_exint ?_ | with_reducible refine g_test ?_ | with_reducible refine g_B ?_ | with_reducible refine g_ifS ?_ | with_reducible refine g_retN ?_ | with_reducible refine g_next ?_
  | with_reducible refine g_CB ?_ | with_reducible refine g_sub ?_ | with_reducible refine g_drop ?_ | with_reducible refine g_not ?_ | with_reducible refine g_and ?_ | with_reducible refine g_or ?_ | with_reducible refine g_andV ?_ | with_reducible refine g_orV ?_ | with_reducible refine g_notV ?_ | with_reducible refine g_ifE ?_ | with_reducible refine g_isN ?_
  | with_reducible refine g_par ?_ | with_reducible refine g_expar ?_ | with_reducible refine g_chain ?_ | with_reducible refine g_un ?_ | with_reducible refine g_U ?_ | with_reducible refine g_bits ?_ | ((with_reducible show rEq _ _ _ _); refine g_eq rfl ?_) | ((with_reducible show rNe _ _ _ _); refine g_ne rfl ?_)
  | with_reducible refine g_for ?_ | with_reducible refine g_iRng1 ?_ | with_reducible refine g_iRng2 ?_ | with_reducible refine g_iList ?_ | with_reducible refine g_iTup ?_
  | ((with_reducible refine g_Imul ?hc ?_); (case hc => (first | (refine Or.inl ⟨?_, ?_⟩ <;> first | decide | omega) | (refine Or.inr ⟨?_, ?_⟩ <;> first | decide | omega))))
  | ((with_reducible refine g_Idiv ?hc ?_); (case hc => (first | (exact ⟨by decide, by decide⟩) | assumption)))
  | ((with_reducible refine g_Imod ?hc ?_); (case hc => (first | assumption | omega | decide)))
  | ((with_reducible refine g_exR1 ?hlo ?hhi ?_); (case hlo => omega); (case hhi => omega))
  | ((with_reducible refine g_exR2 ?hb ?_); (case hb => omega))
  | with_reducible refine g_lst ?_ | with_reducible refine g_tup ?_ | with_reducible refine g_call ?_ | with_reducible refine g_BM ?_ | with_reducible refine g_BM0 ?_
  | with_reducible refine g_intB ?_ | with_reducible refine g_lc ?_ | with_reducible refine g_yes ?_ | with_reducible refine g_iZip ?_ | with_reducible refine g_sl ?_ | with_reducible refine g_noP ?_ | with_reducible refine g_part ?_ | with_reducible refine g_gcons ?_ | with_reducible refine g_gnil ?_
  | with_reducible refine g_tfld ?_ | with_reducible refine g_tmeth ?_ | with_reducible refine g_tmake ?_ | with_reducible refine g_sfld ?_ | with_reducible refine g_tprop ?_ | with_reducible refine g_tstar ?_ | with_reducible refine g_tmethK ?_ | with_reducible refine g_isN1 ?_ | with_reducible refine g_notN1 ?_ | with_reducible refine g_callK0 ?_ | with_reducible refine g_m1 ?_ | with_reducible refine g_isstr ?_ | with_reducible refine g_iStr ?_ | with_reducible refine g_exS ?_ | with_reducible refine g_iEnum ?_))
local macro_rules | `(tactic| walk_at "gx1") => `(tactic| (first
  | with_reducible refine g_seq ?_ | with_reducible refine g_asg ?_ | ((with_reducible show tVar _ _ _ _); refine g_var rfl ?_) | with_reducible refine g_c ?_ | with_reducible refine g_name ?_ | with_reducible refine g_op ?_ | with_reducible refine g_I0 ?_
  | with_reducible refine g_cons ?_ | with_reducible refine g_nil ?_ | with_reducible refine g_exbl ?_ | with_reducible refine g_exint ?_ | with_reducible refine g_test ?_ | with_reducible refine g_B ?_ | with_reducible refine g_ifS ?_ | with_reducible refine g_retN ?_ | with_reducible refine g_next ?_
  | with_reducible refine g_CB ?_ | with_reducible refine g_sub ?_ | with_reducible refine g_drop ?_ | with_reducible refine g_not ?_ | with_reducible refine g_and ?_ | with_reducible refine g_or ?_ | with_reducible refine g_andV ?_ | with_reducible refine g_orV ?_ | with_reducible refine g_notV ?_ | with_reducible refine g_ret ?_ | with_reducible refine g_isN ?_
  | with_reducible refine g_par ?_ | with_reducible refine g_expar ?_ | with_reducible refine g_chain ?_ | with_reducible refine g_un ?_ | with_reducible refine g_U ?_ | with_reducible refine g_bits ?_ | ((with_reducible show rEq _ _ _ _); refine g_eq rfl ?_) | ((with_reducible show rNe _ _ _ _); refine g_ne rfl ?_)
  | with_reducible refine g_for ?_ | with_reducible refine g_iRng1 ?_ | with_reducible refine g_iRng2 ?_ | with_reducible refine g_iList ?_ | with_reducible refine g_iTup ?_
  | ((with_reducible refine g_Imul ?hc ?_); (case hc => (first | (refine Or.inl ⟨?_, ?_⟩ <;> first | decide | omega) | (refine Or.inr ⟨?_, ?_⟩ <;> first | decide | omega))))
  | ((with_reducible refine g_Idiv ?hc ?_); (case hc => (first | (exact ⟨by decide, by decide⟩) | assumption)))
  | ((with_reducible refine g_Imod ?hc ?_); (case hc => (first | assumption | omega | decide)))
  | ((with_reducible refine g_exR1 ?hlo ?hhi ?_); (case hlo => omega); (case hhi => omega))
  | ((with_reducible refine g_exR2 ?hb ?_); (case hb => omega))
  | with_reducible refine g_lst ?_ | with_reducible refine g_tup ?_ | with_reducible refine g_call ?_ | with_reducible refine g_BM ?_ | with_reducible refine g_BM0 ?_
  | with_reducible refine g_intB ?_ | with_reducible refine g_lc ?_ | with_reducible refine g_yes ?_ | with_reducible refine g_iZip ?_ | with_reducible refine g_sl ?_ | with_reducible refine g_noP ?_ | with_reducible refine g_part ?_ | with_reducible refine g_gcons ?_ | with_reducible refine g_gnil ?_
  | with_reducible refine g_tfld ?_ | with_reducible refine g_tmeth ?_ | with_reducible refine g_tmake ?_ | with_reducible refine g_sfld ?_ | with_reducible refine g_tprop ?_ | with_reducible refine g_tstar ?_ | with_reducible refine g_tmethK ?_ | with_reducible refine g_isN1 ?_ | with_reducible refine g_notN1 ?_ | with_reducible refine g_callK0 ?_ | with_reducible refine g_m1 ?_ | with_reducible refine g_isstr ?_ | with_reducible refine g_iStr ?_ | with_reducible refine g_exS ?_ | with_reducible refine g_iEnum ?_))
local macro_rules | `(tactic| walk_at "hp") => `(tactic| (first | assumption | exact upd_same | (refine same_get (by assumption) ?_; walk_at "hp")))
local macro_rules | `(tactic| walk_at "sm") => `(tactic| (first | assumption | exact Same.refl _ | (refine Same.trans ?ha (by assumption); walk_at "sm")))
local macro_rules | `(tactic| walk_at "nn") => `(tactic| (first | assumption | (refine same_free (by assumption) ?_; walk_at "nn")))
local macro_rules | `(tactic| walk_at "sb") => `(tactic| (first | decide | (refine small_bits ?_ ?_ <;> omega)))
local macro_rules | `(tactic| walk_at "ln") => `(tactic| (simp only [List.length_cons, List.length_nil]; omega))
local macro_rules | `(tactic| walk_at "gg") => `(tactic| (repeat walk_at "g"))
local macro_rules | `(tactic| walk_at "gs") => `(tactic| (repeat walk_at "gs1"))
local macro_rules | `(tactic| walk_at "gx") => `(tactic| (repeat walk_at "gx1"))

section
variable {P : Program} {w : World} {K : PySem.W.Frag} {mg : Str → Option Value} {base : Heap} {X : Cx} {σ : L2.St} {H : Hp} {Q : VK}
theorem g_isiTw {x : V} {tp : Addr} {cs : List V} {t : Value} {us : List Value} {b : Bool} (h : H tp = some (.tup cs)) (p : Paired ClsV cs us) (ty : TyX K H x t) (e : PySem.W.kitAny K t us = some b) (q : Q (.bl b) H) : rIsiT K [x, .ref tp] H Q := ⟨x, tp, cs, t, us, b, rfl, h, p, ty, e, q⟩
theorem kit_twoW {t c d : Value} {b1 b2 : Bool} (h1 : PySem.W.kitOne K t c = some b1) (h2 : PySem.W.kitOne K t d = some b2) : PySem.W.kitAny K t [c, d] = some (b1 || b2) := by
  cases b1 with
  | true => exact kitAny_cons h1 (fun z => by cases z) fun _ => rfl
  | false => exact kitAny_cons h1 (fun _ => by cases b2 with
    | true => exact kitAny_cons h2 (fun z => by cases z) fun _ => rfl
    | false => exact kitAny_cons h2 (fun _ => kitAny_nil) fun z => by cases z) fun z => by cases z
def spNever : Sp := fun _ _ _ _ => False
theorem cal_never {k : Nat} {x : Str} {st : Stmt} {ps : List Str} {f : Addr} {fd : FuncData} (D : Dn K mg x st ps f fd) : Cal P w K mg base k x spNever [] :=
  cal_of D ⟨fun _ _ _ _ h => False.elim h, fun _ _ _ _ _ _ _ _ _ _ _ _ _ h => False.elim h⟩
/-- two equal numbers are alike -/
def spAlikeI : Sp := fun vs H Q _ => ∃ i : Int, vs = [.int i, .int i] ∧ ∀ H', Same H H' → Q (.bl true) H'
abbrev s_alike : Stmt := top 24
abbrev N_alike : List Str := ["_law_found", "_law_due", "_law_k"]
theorem sc_alike : FnScope N_alike ["_law_found", "_law_due"] (defScope s_alike) := ⟨rfl, rfl, rfl, by decide +kernel, rfl, by decide +kernel, by decide +kernel⟩

theorem ok_alikeI {f : Addr} {fd : FuncData} (D : Dn K mg "_law_alike" s_alike ["_law_found", "_law_due"] f fd) (T : Bt mg) : Cal P w K mg base 1 "_law_alike" spAlikeI [] := by
  have c__law_alike : Cal P w K mg base 0 "_law_alike" spNever [] := cal_never D
  refine cal_of D (D.fn.ok sc_alike (fun vs H Q E h => ?_) (fun cdv A outer s H vs Q E hr h => ?_))
  · obtain ⟨i, rfl, _⟩ := h
    rfl
  · obtain ⟨i, rfl, k⟩ := h
    refine ⟨_, (pss_cons (ps_if (pt_val (pe_callB call_isiT (by rfl) T.n_isinstance bt_isinstance (pa_cons (pv 1) (pa_cons (pe_tup (pa_cons (pe_bltn (v := .ty "list") (by rfl) T.n_list bt_list rfl) (pa_cons (pe_bltn (v := .ty "tuple") (by rfl) T.n_tuple bt_tuple rfl) pa_nil))) pa_nil)))) (pss_cons (ps_if (PW.pt (pw_or (pt_not (pt_val (pe_callB call_isiT (by rfl) T.n_isinstance bt_isinstance (pa_cons (pv 0) (pa_cons (pe_tup (pa_cons (pe_bltn (v := .ty "list") (by rfl) T.n_list bt_list rfl) (pa_cons (pe_bltn (v := .ty "tuple") (by rfl) T.n_tuple bt_tuple rfl) pa_nil))) pa_nil))))) (pw_or1 (pt_cmpR op_ne (pe_callB call_isi (by rfl) T.n_isinstance bt_isinstance (pa_cons (pv 0) (pa_cons (pe_bltn (v := .ty "list") (by rfl) T.n_list bt_list rfl) pa_nil))) (pe_callB call_isi (by rfl) T.n_isinstance bt_isinstance (pa_cons (pv 1) (pa_cons (pe_bltn (v := .ty "list") (by rfl) T.n_list bt_list rfl) pa_nil))) (nomark _))))) (pss_one (ps_ret pe_bl)) pss_nil)
    (pss_cons (ps_if (pt_cmpR op_ne (pe_callB cr_lenQ (by rfl) T.n_len bt_len (pa_cons (pv 0) pa_nil)) (pe_callB cr_lenQ (by rfl) T.n_len bt_len (pa_cons (pv 1) pa_nil)) (nomark _)) (pss_one (ps_ret pe_bl)) pss_nil)
    (pss_one (ps_ret (pe_callB (cr_all rfl) (by rfl) T.n_all bt_all (pa_cons (pe_lc (own := [("_law_k", 2)]) (g := gName 2) (tt := tYes) rfl sc_alike.nd (pi_range1 (by rfl) T.n_range (pa_cons (pe_callB cr_lenQ (by rfl) T.n_len bt_len (pa_cons (pv 1) pa_nil)) pa_nil)) (blkOk_by (own := [("_law_k", 2)]) (N := N_alike) (sc := defScope s_alike) (by decide +kernel)) (fun _ _ _ _ _ => pg_name (i := 2) sc_alike.nd rfl (Or.inl rfl)) (fun _ _ _ _ _ => pts_nil) (fun _ _ _ _ _ => (pe_c c__law_alike hr (by decide) (by rfl) (pa_cons (pe_ix (show IxR _ (rIxL K) from ix_list) (pv 0) (pv 2) (fun _ _ => rfl)) (pa_cons (pe_ix (show IxR _ (rIxL K) from ix_list) (pv 1) (pv 2) (fun _ _ => rfl)) pa_nil))))) pa_nil)))))) pss_nil)
    (pss_cons (ps_if (PW.pt (pw_or (pt_cmpR op_ne (pe_callB call_isi (by rfl) T.n_isinstance bt_isinstance (pa_cons (pv 0) (pa_cons (pe_bltn (v := .ty "bool") (by rfl) T.n_bool bt_bool rfl) pa_nil))) (pe_callB call_isi (by rfl) T.n_isinstance bt_isinstance (pa_cons (pv 1) (pa_cons (pe_bltn (v := .ty "bool") (by rfl) T.n_bool bt_bool rfl) pa_nil))) (nomark _)) (pw_or1 (pt_cmpR op_ne (pe_callB call_isi (by rfl) T.n_isinstance bt_isinstance (pa_cons (pv 0) (pa_cons (pe_bltn (v := .ty "int") (by rfl) T.n_int bt_int rfl) pa_nil))) (pe_callB call_isi (by rfl) T.n_isinstance bt_isinstance (pa_cons (pv 1) (pa_cons (pe_bltn (v := .ty "int") (by rfl) T.n_int bt_int rfl) pa_nil))) (nomark _))))) (pss_one (ps_ret pe_bl)) pss_nil)
    (pss_one (ps_ret (pe_and (pe_cmpR op_eq (pe_callB call_isi (by rfl) T.n_isinstance bt_isinstance (pa_cons (pv 0) (pa_cons (pe_bltn (v := .ty "str") (by rfl) T.n_str bt_str rfl) pa_nil))) (pe_callB call_isi (by rfl) T.n_isinstance bt_isinstance (pa_cons (pv 1) (pa_cons (pe_bltn (v := .ty "str") (by rfl) T.n_str bt_str rfl) pa_nil))) (nomark _)) (pe_one (pe_cmpR (op_eqD hr.units) (pv 0) (pv 1) (nomark _)))))))), ?_⟩
    walk_at "gg"
    refine g_mkT (by walk_at "ln") fun t1 H1 n1 S1 e1 => ?_
    walk_at "gg"
    refine g_isiTw e1 (.cons (.ty "list") (.cons (.ty "tuple") .nil)) (.base (.int i)) (kit_twoW (b1 := false) (b2 := false) (kit_ty (by decide +kernel)) (kit_ty (by decide +kernel))) ?_
    walk_at "gg"
    refine g_ifF rfl ?_
    walk_at "gg"
    refine g_isi (.ty "bool") (.base (.int i)) (kit_ty (r := false) (by decide +kernel)) ?_
    walk_at "gg"
    refine g_isi (.ty "bool") (.base (.int i)) (kit_ty (r := false) (by decide +kernel)) ?_
    walk_at "gg"
    refine g_iteNF rfl ?_
    walk_at "gg"
    refine g_isi (.ty "int") (.base (.int i)) (kit_ty (r := true) (by decide +kernel)) ?_
    walk_at "gg"
    refine g_isi (.ty "int") (.base (.int i)) (kit_ty (r := true) (by decide +kernel)) ?_
    walk_at "gg"
    refine g_iteNF rfl ?_
    walk_at "gg"
    refine g_isi (.ty "str") (.base (.int i)) (kit_ty (r := false) (by decide +kernel)) ?_
    walk_at "gg"
    refine g_isi (.ty "str") (.base (.int i)) (kit_ty (r := false) (by decide +kernel)) ?_
    walk_at "gg"
    refine g_iteT rfl ?_
    walk_at "gg"
    refine g_eqD (.int i) (.int i) rfl rfl ?_
    have e : PyData.eqv (.int i) (.int i) = true := by simp [PyData.eqv]
    rw [e]
    exact k _ S1
/-- two lists of the same numbers are alike -/
def spAlikeL : Sp := fun vs H Q _ => ∃ (p q : Addr) (is : List Int), vs = [.ref p, .ref q] ∧ H p = some (.lst (is.map V.int)) ∧ H q = some (.lst (is.map V.int)) ∧ is.length ≤ 1000 ∧ ∀ H', Same H H' → Q (.bl true) H'
theorem ok_alikeL {f : Addr} {fd : FuncData} (D : Dn K mg "_law_alike" s_alike ["_law_found", "_law_due"] f fd) (T : Bt mg) : Cal P w K mg base 2 "_law_alike" spAlikeL [] := by
  have c__law_alike : Cal P w K mg base 1 "_law_alike" spAlikeI [] := ok_alikeI D T
  refine cal_of D (D.fn.ok sc_alike (fun vs H Q E h => ?_) (fun cdv A outer s H vs Q E hr h => ?_))
  · obtain ⟨p, q, is, rfl, _⟩ := h
    rfl
  · obtain ⟨p, q, is, rfl, hp, hq, hl, k⟩ := h
    refine ⟨_, (pss_cons (ps_if (pt_val (pe_callB call_isiT (by rfl) T.n_isinstance bt_isinstance (pa_cons (pv 1) (pa_cons (pe_tup (pa_cons (pe_bltn (v := .ty "list") (by rfl) T.n_list bt_list rfl) (pa_cons (pe_bltn (v := .ty "tuple") (by rfl) T.n_tuple bt_tuple rfl) pa_nil))) pa_nil)))) (pss_cons (ps_if (PW.pt (pw_or (pt_not (pt_val (pe_callB call_isiT (by rfl) T.n_isinstance bt_isinstance (pa_cons (pv 0) (pa_cons (pe_tup (pa_cons (pe_bltn (v := .ty "list") (by rfl) T.n_list bt_list rfl) (pa_cons (pe_bltn (v := .ty "tuple") (by rfl) T.n_tuple bt_tuple rfl) pa_nil))) pa_nil))))) (pw_or1 (pt_cmpR op_ne (pe_callB call_isi (by rfl) T.n_isinstance bt_isinstance (pa_cons (pv 0) (pa_cons (pe_bltn (v := .ty "list") (by rfl) T.n_list bt_list rfl) pa_nil))) (pe_callB call_isi (by rfl) T.n_isinstance bt_isinstance (pa_cons (pv 1) (pa_cons (pe_bltn (v := .ty "list") (by rfl) T.n_list bt_list rfl) pa_nil))) (nomark _))))) (pss_one (ps_ret pe_bl)) pss_nil)
    (pss_cons (ps_if (pt_cmpR op_ne (pe_callB cr_lenQ (by rfl) T.n_len bt_len (pa_cons (pv 0) pa_nil)) (pe_callB cr_lenQ (by rfl) T.n_len bt_len (pa_cons (pv 1) pa_nil)) (nomark _)) (pss_one (ps_ret pe_bl)) pss_nil)
    (pss_one (ps_ret (pe_callB (cr_all rfl) (by rfl) T.n_all bt_all (pa_cons (pe_lc (own := [("_law_k", 2)]) (g := gName 2) (tt := tYes) rfl sc_alike.nd (pi_range1 (by rfl) T.n_range (pa_cons (pe_callB cr_lenQ (by rfl) T.n_len bt_len (pa_cons (pv 1) pa_nil)) pa_nil)) (blkOk_by (own := [("_law_k", 2)]) (N := N_alike) (sc := defScope s_alike) (by decide +kernel)) (fun _ _ _ _ _ => pg_name (i := 2) sc_alike.nd rfl (Or.inl rfl)) (fun _ _ _ _ _ => pts_nil) (fun _ _ _ _ _ => (pe_c c__law_alike hr (by decide) (by rfl) (pa_cons (pe_ix (show IxR _ (rIxL K) from ix_list) (pv 0) (pv 2) (fun _ _ => rfl)) (pa_cons (pe_ix (show IxR _ (rIxL K) from ix_list) (pv 1) (pv 2) (fun _ _ => rfl)) pa_nil))))) pa_nil)))))) pss_nil)
    (pss_cons (ps_if (PW.pt (pw_or (pt_cmpR op_ne (pe_callB call_isi (by rfl) T.n_isinstance bt_isinstance (pa_cons (pv 0) (pa_cons (pe_bltn (v := .ty "bool") (by rfl) T.n_bool bt_bool rfl) pa_nil))) (pe_callB call_isi (by rfl) T.n_isinstance bt_isinstance (pa_cons (pv 1) (pa_cons (pe_bltn (v := .ty "bool") (by rfl) T.n_bool bt_bool rfl) pa_nil))) (nomark _)) (pw_or1 (pt_cmpR op_ne (pe_callB call_isi (by rfl) T.n_isinstance bt_isinstance (pa_cons (pv 0) (pa_cons (pe_bltn (v := .ty "int") (by rfl) T.n_int bt_int rfl) pa_nil))) (pe_callB call_isi (by rfl) T.n_isinstance bt_isinstance (pa_cons (pv 1) (pa_cons (pe_bltn (v := .ty "int") (by rfl) T.n_int bt_int rfl) pa_nil))) (nomark _))))) (pss_one (ps_ret pe_bl)) pss_nil)
    (pss_one (ps_ret (pe_and (pe_cmpR op_eq (pe_callB call_isi (by rfl) T.n_isinstance bt_isinstance (pa_cons (pv 0) (pa_cons (pe_bltn (v := .ty "str") (by rfl) T.n_str bt_str rfl) pa_nil))) (pe_callB call_isi (by rfl) T.n_isinstance bt_isinstance (pa_cons (pv 1) (pa_cons (pe_bltn (v := .ty "str") (by rfl) T.n_str bt_str rfl) pa_nil))) (nomark _)) (pe_one (pe_cmpR (op_eqD hr.units) (pv 0) (pv 1) (nomark _)))))))), ?_⟩
    walk_at "gg"
    refine g_mkT (by walk_at "ln") fun t1 H1 n1 S1 e1 => ?_
    walk_at "gg"
    refine g_isiTw e1 (.cons (.ty "list") (.cons (.ty "tuple") .nil)) (.base (.lst (S1 _ _ hq))) (kit_twoW (b1 := true) (b2 := false) (kit_ty (by decide +kernel)) (kit_ty (by decide +kernel))) ?_
    walk_at "gg"
    refine g_ifT rfl ?_
    walk_at "gg"
    refine g_mkT (by walk_at "ln") fun t2 H2 n2 S2 e2 => ?_
    have S12 := S1.trans S2
    walk_at "gg"
    refine g_isiTw e2 (.cons (.ty "list") (.cons (.ty "tuple") .nil)) (.base (.lst (S12 _ _ hp))) (kit_twoW (b1 := true) (b2 := false) (kit_ty (by decide +kernel)) (kit_ty (by decide +kernel))) ?_
    walk_at "gg"
    refine g_ifF rfl ?_
    walk_at "gg"
    refine g_isi (.ty "list") (.base (.lst (S12 _ _ hp))) (kit_ty (r := true) (by decide +kernel)) ?_
    walk_at "gg"
    refine g_isi (.ty "list") (.base (.lst (S12 _ _ hq))) (kit_ty (r := true) (by decide +kernel)) ?_
    walk_at "gg"
    refine g_iteNF rfl ?_
    walk_at "gg"
    refine g_len (SqL.of (S12 _ _ hp)) ?_
    walk_at "gg"
    refine g_len (SqL.of (S12 _ _ hq)) ?_
    walk_at "gg"
    refine g_iteNF rfl ?_
    walk_at "gg"
    refine g_len (SqL.of (S12 _ _ hq)) ?_
    walk_at "gg"
    rw [List.length_map]
    refine ⟨_, rfl, by omega, by omega, ?_⟩
    rw [show ((is.length : Int)).toNat = is.length from Int.toNat_natCast _]
    refine lc_map (P := fun _ y => y = .bl true) src_rng (by omega) (fun i x H3 Nx hi S3 hx kn => ?_) fun l acc H3 n3 S3 e3 hl3 hA => ?_
    · subst hx
      have gi : is[i]? = some is[i] := List.getElem?_eq_getElem hi
      have ai : atI (is.map V.int) (0 + (i : Int)) = some (.int is[i]) := by
        rw [Int.zero_add]
        exact atI_nat (by rw [List.getElem?_map, gi]; rfl)
      walk_at "gg"
      refine ⟨rfl, ?_⟩
      walk_at "gg"
      refine g_ixL (SqL.of (S3 _ _ (S12 _ _ hp))) ai ?_
      walk_at "gg"
      refine g_ixL (SqL.of (S3 _ _ (S12 _ _ hq))) ai ?_
      walk_at "gg"
      exact ⟨_, rfl, fun H4 S4 => kn _ _ S4 rfl⟩
    · walk_at "gg"
      have ea : acc = (List.replicate is.length true).map V.bl := by
        refine List.ext_getElem? fun i => ?_
        rw [List.getElem?_map]
        rcases Nat.lt_or_ge i is.length with h | h
        · have ga : acc[i]? = some acc[i] := List.getElem?_eq_getElem (by omega)
          rw [ga, hA i _ ga, List.getElem?_replicate_of_lt h]
          rfl
        · rw [List.getElem?_eq_none (by omega), List.getElem?_eq_none (by rw [List.length_replicate]; omega)]
          rfl
      rw [ea] at e3
      refine g_all (SqL.of e3) ?_
      rw [show (List.replicate is.length true).all id = true from List.all_eq_true.mpr fun b hb => by rw [List.eq_of_mem_replicate hb]; rfl]
      exact k _ (S12.trans S3)
end
end Gk

set_option maxHeartbeats 8000000
namespace Gk
open PySem L2 Gx
open C8 (Cal Met Mak pe_c pe_mt pe_mt0 pe_mk pe_gc)
local macro_rules | `(tactic| walk_at "g") => `(tactic| (first
  | with_reducible refine g_seq ?_ | with_reducible refine g_asg ?_ | ((with_reducible show tVar _ _ _ _); refine g_var rfl ?_) | with_reducible refine g_c ?_ | with_reducible refine g_name ?_ | with_reducible refine g_op ?_ | with_reducible refine g_I0 ?_
  | with_reducible refine g_cons ?_ | with_reducible refine g_nil ?_ | with_reducible refine g_exbl ?_ | with_reducible refine g_exint ?_ | with_reducible refine g_test ?_ | with_reducible refine g_B ?_ | with_reducible refine g_ifS ?_ | with_reducible refine g_ret ?_ | with_reducible refine g_retN ?_ | with_reducible refine g_next ?_
  | with_reducible refine g_CB ?_ | with_reducible refine g_sub ?_ | with_reducible refine g_drop ?_ | with_reducible refine g_not ?_ | with_reducible refine g_and ?_ | with_reducible refine g_or ?_ | with_reducible refine g_andV ?_ | with_reducible refine g_orV ?_ | with_reducible refine g_notV ?_ | with_reducible refine g_ifE ?_ | with_reducible refine g_isN ?_
  | with_reducible refine g_par ?_ | with_reducible refine g_expar ?_ | with_reducible refine g_chain ?_ | with_reducible refine g_un ?_ | with_reducible refine g_U ?_ | with_reducible refine g_bits ?_ | ((with_reducible show rEq _ _ _ _); refine g_eq rfl ?_) | ((with_reducible show rNe _ _ _ _); refine g_ne rfl ?_)
  | with_reducible refine g_for ?_ | with_reducible refine g_iRng1 ?_ | with_reducible refine g_iRng2 ?_ | with_reducible refine g_iList ?_ | with_reducible refine g_iTup ?_
  | ((with_reducible refine g_Imul ?hc ?_); (case hc => (first | (refine Or.inl ⟨?_, ?_⟩ <;> first | decide | omega) | (refine Or.inr ⟨?_, ?_⟩ <;> first | decide | omega))))
  | ((with_reducible refine g_Idiv ?hc ?_); (case hc => (first | (exact ⟨by decide, by decide⟩) | assumption)))
  | ((with_reducible refine g_Imod ?hc ?_); (case hc => (first | assumption | omega | decide)))
  | ((with_reducible refine g_exR1 ?hlo ?hhi ?_); (case hlo => omega); (case hhi => omega))
  | ((with_reducible refine g_exR2 ?hb ?_); (case hb => omega))
  | with_reducible refine g_lst ?_ | with_reducible refine g_tup ?_ | with_reducible refine g_call ?_ | with_reducible refine g_BM ?_ | with_reducible refine g_BM0 ?_
  | with_reducible refine g_intB ?_ | with_reducible refine g_lc ?_ | with_reducible refine g_yes ?_ | with_reducible refine g_iZip ?_ | with_reducible refine g_sl ?_ | with_reducible refine g_noP ?_ | with_reducible refine g_part ?_ | with_reducible refine g_gcons ?_ | with_reducible refine g_gnil ?_
  | with_reducible refine g_tfld ?_ | with_reducible refine g_tmeth ?_ | with_reducible refine g_tmake ?_ | with_reducible refine g_sfld ?_ | with_reducible refine g_tprop ?_ | with_reducible refine g_tstar ?_ | with_reducible refine g_tmethK ?_ | with_reducible refine g_isN1 ?_ | with_reducible refine g_notN1 ?_ | with_reducible refine g_callK0 ?_ | with_reducible refine g_m1 ?_ | with_reducible refine g_isstr ?_ | with_reducible refine g_iStr ?_ | with_reducible refine g_exS ?_ | with_reducible refine g_iEnum ?_))
local macro_rules | `(tactic| walk_at "gs1") => `(tactic| (first
  | with_reducible refine g_seq ?_ | with_reducible refine g_asg ?_ | ((with_reducible show tVar _ _ _ _); refine g_var rfl ?_) | with_reducible refine g_c ?_ | with_reducible refine g_name ?_ | with_reducible refine g_op ?_ | with_reducible refine g_I0 ?_
  | with_reducible refine g_cons ?_ | with_reducible refine g_nil ?_ | with_reducible refine g_exbl ?_ | with_reducible refine g_exint ?_ | with_reducible refine g_test ?_ | with_reducible refine g_B ?_ | with_reducible refine g_ifS ?_ | with_reducible refine g_retN ?_ | with_reducible refine g_next ?_
  | with_reducible refine g_CB ?_ | with_reducible refine g_sub ?_ | with_reducible refine g_drop ?_ | with_reducible refine g_not ?_ | with_reducible refine g_and ?_ | with_reducible refine g_or ?_ | with_reducible refine g_andV ?_ | with_reducible refine g_orV ?_ | with_reducible refine g_notV ?_ | with_reducible refine g_ifE ?_ | with_reducible refine g_isN ?_
  | with_reducible refine g_par ?_ | with_reducible refine g_expar ?_ | with_reducible refine g_chain ?_ | with_reducible refine g_un ?_ | with_reducible refine g_U ?_ | with_reducible refine g_bits ?_ | ((with_reducible show rEq _ _ _ _); refine g_eq rfl ?_) | ((with_reducible show rNe _ _ _ _); refine g_ne rfl ?_)
  | with_reducible refine g_for ?_ | with_reducible refine g_iRng1 ?_ | with_reducible refine g_iRng2 ?_ | with_reducible refine g_iList ?_ | with_reducible refine g_iTup ?_
  | ((with_reducible refine g_Imul ?hc ?_); (case hc => (first | (refine Or.inl ⟨?_, ?_⟩ <;> first | decide | omega) | (refine Or.inr ⟨?_, ?_⟩ <;> first | decide | omega))))
  | ((with_reducible refine g_Idiv ?hc ?_); (case hc => (first | (exact ⟨by decide, by decide⟩) | assumption)))
  | ((with_reducible refine g_Imod ?hc ?_); (case hc => (first | assumption | omega | decide)))
  | ((with_reducible refine g_exR1 ?hlo ?hhi ?_); (case hlo => omega); (case hhi => omega))
  | ((with_reducible refine g_exR2 ?hb ?_); (case hb => omega))
  | with_reducible refine g_lst ?_ | with_reducible refine g_tup ?_ | with_reducible refine g_call ?_ | with_reducible refine g_BM ?_ | with_reducible refine g_BM0 ?_
  | with_reducible refine g_intB ?_ | with_reducible refine g_lc ?_ | with_reducible refine g_yes ?_ | with_reducible refine g_iZip ?_ | with_reducible refine g_sl ?_ | with_reducible refine g_noP ?_ | with_reducible refine g_part ?_ | with_reducible refine g_gcons ?_ | with_reducible refine g_gnil ?_
  | with_reducible refine g_tfld ?_ | with_reducible refine g_tmeth ?_ | with_reducible refine g_tmake ?_ | with_reducible refine g_sfld ?_ | with_reducible refine g_tprop ?_ | with_reducible refine g_tstar ?_ | with_reducible refine g_tmethK ?_ | with_reducible refine g_isN1 ?_ | with_reducible refine g_notN1 ?_ | with_reducible refine g_callK0 ?_ | with_reducible refine g_m1 ?_ | with_reducible refine g_isstr ?_ | with_reducible refine g_iStr ?_ | with_reducible refine g_exS ?_ | with_reducible refine g_iEnum ?_))
local macro_rules | `(tactic| walk_at "gx1") => `(tactic| (first
  | with_reducible refine g_seq ?_ | with_reducible refine g_asg ?_ | ((with_reducible show tVar _ _ _ _); refine g_var rfl ?_) | with_reducible refine g_c ?_ | with_reducible refine g_name ?_ | with_reducible refine g_op ?_ | with_reducible refine g_I0 ?_
  | with_reducible refine g_cons ?_ | with_reducible refine g_nil ?_ | with_reducible refine g_exbl ?_ | with_reducible refine g_exint ?_ | with_reducible refine g_test ?_ | with_reducible refine g_B ?_ | with_reducible refine g_ifS ?_ | with_reducible refine g_retN ?_ | with_reducible refine g_next ?_
  | with_reducible refine g_CB ?_ | with_reducible refine g_sub ?_ | with_reducible refine g_drop ?_ | with_reducible refine g_not ?_ | with_reducible refine g_and ?_ | with_reducible refine g_or ?_ | with_reducible refine g_andV ?_ | with_reducible refine g_orV ?_ | with_reducible refine g_notV ?_ | with_reducible refine g_ret ?_ | with_reducible refine g_isN ?_
  | with_reducible refine g_par ?_ | with_reducible refine g_expar ?_ | with_reducible refine g_chain ?_ | with_reducible refine g_un ?_ | with_reducible refine g_U ?_ | with_reducible refine g_bits ?_ | ((with_reducible show rEq _ _ _ _); refine g_eq rfl ?_) | ((with_reducible show rNe _ _ _ _); refine g_ne rfl ?_)
  | with_reducible refine g_for ?_ | with_reducible refine g_iRng1 ?_ | with_reducible refine g_iRng2 ?_ | with_reducible refine g_iList ?_ | with_reducible refine g_iTup ?_
  | ((with_reducible refine g_Imul ?hc ?_); (case hc => (first | (refine Or.inl ⟨?_, ?_⟩ <;> first | decide | omega) | (refine Or.inr ⟨?_, ?_⟩ <;> first | decide | omega))))
  | ((with_reducible refine g_Idiv ?hc ?_); (case hc => (first | (exact ⟨by decide, by decide⟩) | assumption)))
  | ((with_reducible refine g_Imod ?hc ?_); (case hc => (first | assumption | omega | decide)))
  | ((with_reducible refine g_exR1 ?hlo ?hhi ?_); (case hlo => omega); (case hhi => omega))
  | ((with_reducible refine g_exR2 ?hb ?_); (case hb => omega))
  | with_reducible refine g_lst ?_ | with_reducible refine g_tup ?_ | with_reducible refine g_call ?_ | with_reducible refine g_BM ?_ | with_reducible refine g_BM0 ?_
  | with_reducible refine g_intB ?_ | with_reducible refine g_lc ?_ | with_reducible refine g_yes ?_ | with_reducible refine g_iZip ?_ | with_reducible refine g_sl ?_ | with_reducible refine g_noP ?_ | with_reducible refine g_part ?_ | with_reducible refine g_gcons ?_ | with_reducible refine g_gnil ?_
  | with_reducible refine g_tfld ?_ | with_reducible refine g_tmeth ?_ | with_reducible refine g_tmake ?_ | with_reducible refine g_sfld ?_ | with_reducible refine g_tprop ?_ | with_reducible refine g_tstar ?_ | with_reducible refine g_tmethK ?_ | with_reducible refine g_isN1 ?_ | with_reducible refine g_notN1 ?_ | with_reducible refine g_callK0 ?_ | with_reducible refine g_m1 ?_ | with_reducible refine g_isstr ?_ | with_reducible refine g_iStr ?_ | with_reducible refine g_exS ?_ | with_reducible refine g_iEnum ?_))
local macro_rules | `(tactic| walk_at "hp") => `(tactic| (first | assumption | exact upd_same | (refine same_get (by assumption) ?_; walk_at "hp")))
local macro_rules | `(tactic| walk_at "sm") => `(tactic| (first | assumption | exact Same.refl _ | (refine Same.trans ?ha (by assumption); walk_at "sm")))
local macro_rules | `(tactic| walk_at "nn") => `(tactic| (first | assumption | (refine same_free (by assumption) ?_; walk_at "nn")))
local macro_rules | `(tactic| walk_at "sb") => `(tactic| (first | decide | (refine small_bits ?_ ?_ <;> omega)))
local macro_rules | `(tactic| walk_at "ln") => `(tactic| (simp only [List.length_cons, List.length_nil]; omega))
local macro_rules | `(tactic| walk_at "gg") => `(tactic| (repeat walk_at "g"))
local macro_rules | `(tactic| walk_at "gs") => `(tactic| (repeat walk_at "gs1"))
local macro_rules | `(tactic| walk_at "gx") => `(tactic| (repeat walk_at "gx1"))

section
variable {P : Program} {w : World} {K : PySem.W.Frag} {mg : Str → Option Value} {base : Heap} {X : Cx} {σ : L2.St} {H : Hp} {Q : VK}
theorem g_draw {f : Addr} {c : Nat} {m : Int} {E : XK} (hf : Bag c H f) (hc : c ≤ 100000000) (hm : 0 < m) (hb : m.natAbs < 2 ^ 1000) (k : ∀ r H', 0 ≤ r → r < m → SmV H H' → Bag (c + 40) H' f → Q (.int r) H') : spDraw ([V.ref f, V.int m] ++ []) H Q E := ⟨f, c, m, rfl, hf, hc, hm, hb, k⟩
theorem g_of {e : Nat → Addr} {a D : Addr} {bs : Nat → Bool} {E : XK} (v : VErr H a D) (O : AskK K e D bs) (k : ∀ (l : Addr) (H' : Hp), H l = none → Same H H' → H' l = some (.lst ((List.range 18).map fun i => V.bl (bs i))) → Q (.ref l) H') : spOf K e ([V.ref a] ++ []) H Q E := ⟨a, D, bs, rfl, v, O, k⟩
theorem dp_bools : ∀ (bs : List Bool), DpAll K H (bs.map V.bl) (bs.map PyData.bool)
  | [] => .nil
  | b :: bs => .cons (.bl b) (dp_bools bs)
theorem eqv_bools : ∀ (bs : List Bool), PyData.eqv (.list (bs.map PyData.bool)) (.list (bs.map PyData.bool)) = true
  | [] => by simp [PyData.eqv, PyData.eqvAll]
  | b :: bs => by
    have h := eqv_bools bs
    cases b <;> simp_all [PyData.eqv, PyData.eqvAll]
theorem shaped_bools (ns : List Bool) : SeqAt.shaped (.list (ns.map PyData.bool)) = true := by
  unfold SeqAt.shaped
  have h1 : PyData.canLayAll0 (ns.map PyData.bool) = true := by
    induction ns with
    | nil => simp [PyData.canLayAll0]
    | cons n ns ih => simp [PyData.canLayAll0, PyData.canLay0, ih]
  have h2 : PyData.depthAll (ns.map PyData.bool) ≤ 0 := depthAll_le fun x hx => by
    obtain ⟨n, _, rfl⟩ := List.mem_map.mp hx
    simp [PyData.depth]
  have h3 : PyData.depthAll (ns.map PyData.bool) + 1 ≤ 64 := by omega
  simp [PyData.canLay0, PyData.depth, h1, h3]
/-- two lists of the same truths differ not -/
theorem g_neBs {p q : Addr} {bs : List Bool} (h1 : SqL K H p (bs.map V.bl)) (h2 : SqL K H q (bs.map V.bl)) (k : Q (.bl false) H) : rNeD K (.ref p) (.ref q) H Q := by
  refine g_neD (.lst h1 (dp_bools bs)) (.lst h2 (dp_bools bs)) (shaped_bools bs) (shaped_bools bs) ?_
  rw [eqv_bools]
  exact k
theorem g_rep78 {p : Addr} {xs : List V} {n : Int} (h : H p = some (.lst xs)) (h0 : 0 ≤ n) (h1 : n ≤ 1000) (hl : xs.length ≤ 100) (k : ∀ q H', H q = none → Same H H' → H' q = some (.lst (List.replicate n.toNat xs).flatten) → Q (.ref q) H') : rRep (.ref p) (.int n) H Q := by
  have e : sizeLine = 16777216 := sizeLine_eq
  have m : xs.length * n.toNat ≤ 100 * 1000 := Nat.mul_le_mul hl (by omega)
  exact ⟨p, n, xs, rfl, rfl, h, by omega, by omega, by omega, fun q hq => k q _ hq (same_new hq) upd_same⟩
/-- the classes of errors, as they answer -/
structure Errs78 (K : PySem.W.Frag) (e : Nat → Addr) : Prop where
  ask : ∀ k, k < 18 → AskK K e (e k) (fun i => decide (i = k))
  up : ∀ k, k < 18 → PySem.W.kitOne K (.ref (e k)) (.ref (e 18)) = some true
  val : ∀ k, k < 18 → PySem.W.kitOne K (.ref (e k)) (.type "ValueError") = some true
  base : AskK K e (e 18) (fun _ => false)
  idx : PySem.W.findIn K (.ref (e 16)) "index" = some none
  plc : PySem.W.findIn K (.ref (e 17)) "place" = some none
def spLaw78 (K : PySem.W.Frag) : Sp := fun vs H Q _ => ∃ (a : Addr) (ns : List Int), vs = [.ref a] ∧ SqL K H a (ns.map V.int) ∧ ns.length ≤ 1000 ∧ ∀ H', Q (.bl true) H'
abbrev s_law : Stmt := top 26
abbrev N_law : List Str := ["_law_script", "_law_bag_here", "_law_k", "_law_text", "_law_spot", "_law_rows", "_law_told", "_law_i"]
theorem sc_law : FnScope N_law ["_law_script"] (defScope s_law) := ⟨rfl, rfl, rfl, by decide +kernel, rfl, by decide +kernel, by decide +kernel⟩

theorem ok_law {f : Addr} {fd : FuncData} {e : Nat → Addr} (D : Dn K mg "law" s_law ["_law_script"] f fd) (T : Bt mg) (G : ErrG78 mg e) (R : Errs78 K e) (c__law_bag : Cal P w K mg base 1 "_law_bag" (spBag K) []) (c__law_draw : Cal P w K mg base 2 "_law_draw" spDraw [])
    (c__law_of : Cal P w K mg base 1 "_law_of" (spOf K e) []) (c__law_alike : Cal P w K mg base 2 "_law_alike" spAlikeL [])
    (x_Impossible : OexM P w K mg base 1 "Impossible" (e 16) (spErrInit (e 16) "index")) (x_InvalidText : OexM P w K mg base 1 "InvalidText" (e 17) (spErrInit (e 17) "place"))
    (y_Impossible : OexKM P w K mg base 1 "Impossible" (e 16) "index" (spErrInit (e 16) "index")) (y_InvalidText : OexKM P w K mg base 1 "InvalidText" (e 17) "place" (spErrInit (e 17) "place"))
    (o_InvalidPoints : OwnE K mg "InvalidPoints" (e 0))
    (o_InvalidEntries : OwnE K mg "InvalidEntries" (e 1))
    (o_InvalidRange : OwnE K mg "InvalidRange" (e 2))
    (o_InvalidNumber : OwnE K mg "InvalidNumber" (e 3))
    (o_InvalidWay : OwnE K mg "InvalidWay" (e 4))
    (o_InvalidKind : OwnE K mg "InvalidKind" (e 5))
    (o_InvalidScripts : OwnE K mg "InvalidScripts" (e 6))
    (o_InvalidTurns : OwnE K mg "InvalidTurns" (e 7))
    (o_InvalidLog : OwnE K mg "InvalidLog" (e 8))
    (o_InvalidOrder : OwnE K mg "InvalidOrder" (e 9))
    (o_UnknownTransaction : OwnE K mg "UnknownTransaction" (e 10))
    (o_IsWaiting : OwnE K mg "IsWaiting" (e 11))
    (o_NotWaiting : OwnE K mg "NotWaiting" (e 12))
    (o_NotHeld : OwnE K mg "NotHeld" (e 13))
    (o_TooMany : OwnE K mg "TooMany" (e 14))
    (o_NothingToUndo : OwnE K mg "NothingToUndo" (e 15))
    (o_LockError : OwnE K mg "LockError" (e 18))
    : FnG P w K mg base 3 f fd ["_law_script"] (spLaw78 K) := by
  have g_LockError : ∃ u, mg "LockError" = some u ∧ RelV (V.ref (e 18)) u := ⟨_, G.e18, rfl⟩
  refine fnG_of D.fn sc_law (fun vs H Q E h => ?_) (fun cdv A outer s H vs Q E gd hr h => ?_)
  · obtain ⟨a, ns, rfl, _⟩ := h
    rfl
  · obtain ⟨a, ns, rfl, ha, hl, k⟩ := h
    refine ⟨_, (pss_cons (ps_set (i := 1) sc_law.nd rfl (Or.inr rfl) (pe_c c__law_bag hr (by decide) (by rfl) (pa_cons (pv 0) pa_nil)))
    (pss_cons (ps_set (i := 3) sc_law.nd rfl (Or.inl rfl) (pe_join pe_str (pe_lc (own := [("_law_k", 2)]) (g := gName 2) (tt := tYes) rfl sc_law.nd (pi_range1 (by rfl) T.n_range (pa_cons (pe_c c__law_draw hr (by decide) (by rfl) (pa_cons (pv 1) (pa_cons pe_int pa_nil))) pa_nil)) (blkOk_by (own := [("_law_k", 2)]) (N := N_law) (sc := defScope s_law) (by decide +kernel)) (fun _ _ _ _ _ => pg_name (i := 2) sc_law.nd rfl (Or.inl rfl)) (fun _ _ _ _ _ => pts_nil) (fun _ _ _ _ _ => (pe_ix ix_str pe_str (pe_c c__law_draw hr (by decide) (by rfl) (pa_cons (pv 1) (pa_cons pe_int pa_nil))) (fun _ _ => rfl))))))
    (pss_cons (ps_set (i := 4) sc_law.nd rfl (Or.inl rfl) (pe_ix ix_list (pe_lst (pa_cons (pe_c c__law_draw hr (by decide) (by rfl) (pa_cons (pv 1) (pa_cons pe_int pa_nil))) (pa_cons (pe_op op_powB pe_int pe_int) (pa_cons pe_int pa_nil)))) (pe_c c__law_draw hr (by decide) (by rfl) (pa_cons (pv 1) (pa_cons pe_int pa_nil))) (fun _ _ => rfl)))
    (pss_cons (ps_set (i := 5) sc_law.nd rfl (Or.inl rfl) (pe_lst (pa_cons (pe_excV o_InvalidPoints (by rfl) (pv 3)) (pa_cons (pe_excV o_InvalidEntries (by rfl) (pv 3)) (pa_cons (pe_excV o_InvalidRange (by rfl) (pv 3)) (pa_cons (pe_excV o_InvalidNumber (by rfl) (pv 3)) (pa_cons (pe_excV o_InvalidWay (by rfl) (pv 3)) pa_nil)))))))
    (pss_cons (ps_set (i := 5) sc_law.nd rfl (Or.inl rfl) (pe_op op_cat (pv 5) (pe_lst (pa_cons (pe_excV o_InvalidKind (by rfl) (pv 3)) (pa_cons (pe_excV o_InvalidScripts (by rfl) (pv 3)) (pa_cons (pe_excV o_InvalidTurns (by rfl) (pv 3)) (pa_cons (pe_excV o_InvalidLog (by rfl) (pv 3)) (pa_cons (pe_excV o_InvalidOrder (by rfl) (pv 3)) pa_nil))))))))
    (pss_cons (ps_set (i := 5) sc_law.nd rfl (Or.inl rfl) (pe_op op_cat (pv 5) (pe_lst (pa_cons (pe_excV o_UnknownTransaction (by rfl) (pv 3)) (pa_cons (pe_excV o_IsWaiting (by rfl) (pv 3)) (pa_cons (pe_excV o_NotWaiting (by rfl) (pv 3)) (pa_cons (pe_excV o_NotHeld (by rfl) (pv 3)) (pa_cons (pe_excV o_TooMany (by rfl) (pv 3)) pa_nil))))))))
    (pss_cons (ps_set (i := 5) sc_law.nd rfl (Or.inl rfl) (pe_op op_cat (pv 5) (pe_lst (pa_cons (pe_excV o_NothingToUndo (by rfl) (pv 3)) (pa_cons (pe_oexV x_Impossible hr (by decide) (by rfl) (pa_cons (pv 4) pa_nil)) (pa_cons (pe_oexV x_InvalidText hr (by decide) (by rfl) (pa_cons (pv 4) pa_nil)) pa_nil))))))
    (pss_cons (ps_for PassesOwn.never rfl (pi_range1 (by rfl) T.n_range (pa_cons (pe_callB cr_lenQ (by rfl) T.n_len bt_len (pa_cons (pv 5) pa_nil)) pa_nil)) (pg_name (i := 2) sc_law.nd rfl (Or.inr rfl)) (pss_cons (ps_if (PW.pt (pw_or (pt_not (pt_val (pe_callB call_isV (by rfl) T.n_isinstance bt_isinstance (pa_cons (pe_ix ix_list (pv 5) (pv 2) (fun _ _ => rfl)) (pa_cons (pe_gc (by rfl) g_LockError) pa_nil))))) (pw_or1 (pt_not (pt_val (pe_callB call_isV (by rfl) T.n_isinstance bt_isinstance (pa_cons (pe_ix ix_list (pv 5) (pv 2) (fun _ _ => rfl)) (pa_cons (pe_bltn (v := .ty "ValueError") (by rfl) G.v bt_ValueError78 rfl) pa_nil)))))))) (pss_one (ps_ret pe_bl)) pss_nil)
    (pss_one (ps_if (pt_cmpR (op_neD hr.units) (pe_c c__law_of hr (by decide) (by rfl) (pa_cons (pe_ix ix_list (pv 5) (pv 2) (fun _ _ => rfl)) pa_nil)) (pe_lc (own := [("_law_i", 7)]) (g := gName 7) (tt := tYes) rfl sc_law.nd (pi_range1 (by rfl) T.n_range (pa_cons (pe_callB cr_lenQ (by rfl) T.n_len bt_len (pa_cons (pv 5) pa_nil)) pa_nil)) (blkOk_by (own := [("_law_i", 7)]) (N := N_law) (sc := defScope s_law) (by decide +kernel)) (fun _ _ _ _ _ => pg_name (i := 7) sc_law.nd rfl (Or.inl rfl)) (fun _ _ _ _ _ => pts_nil) (fun _ _ _ _ _ => (pe_cmpR op_eq (pv 7) (pv 2) (nomark _)))) (nomark _)) (pss_one (ps_ret pe_bl)) pss_nil))))
    (pss_cons (ps_if (pt_cmpR (op_neD hr.units) (pe_c c__law_of hr (by decide) (by rfl) (pa_cons (pe_excV o_LockError (by rfl) (pv 3)) pa_nil)) (pe_op op_rep (pe_lst (pa_cons pe_bl pa_nil)) (pe_callB cr_lenQ (by rfl) T.n_len bt_len (pa_cons (pv 5) pa_nil))) (nomark _)) (pss_one (ps_ret pe_bl)) pss_nil)
    (pss_cons (ps_set (i := 6) sc_law.nd rfl (Or.inl rfl) (pe_lst (pa_cons (pe_errV (pe_ix ix_list (pv 5) (pe_un un_neg pe_int) (fun _ _ => rfl))) (pa_cons (pe_errV (pe_ix ix_list (pv 5) (pe_un un_neg pe_int) (fun _ _ => rfl))) (pa_cons (pe_errV (pe_oexKV y_Impossible hr (by decide) (by rfl) (pk_cons (pv 4) pk_nil))) (pa_cons (pe_errV (pe_oexKV y_InvalidText hr (by decide) (by rfl) (pk_cons (pv 4) pk_nil))) pa_nil))))))
    (pss_one (ps_ret (pe_c c__law_alike hr (by decide) (by rfl) (pa_cons (pv 6) (pa_cons (pe_op op_rep (pe_lst (pa_cons (pv 4) pa_nil)) pe_int) pa_nil))))))))))))))), ?_⟩
    walk_at "gg"
    refine ⟨a, ns, rfl, ha, hl, fun f H1 nf S1 F1 => ?_⟩
    walk_at "gg"
    refine g_draw F1 (by decide) (by decide) (by decide) fun m H2 m0 m1 S2 F2 => ?_
    refine ⟨_, rfl, by omega, by omega, ?_⟩
    have hm : m.toNat ≤ 9 := by omega
    generalize m.toNat = M at hm
    refine lc_rngV (by omega) (fun j acc H' => ∃ (c : Nat) (ts : List Str), c ≤ 0 + 40 + 40 * j ∧ Bag c H' f ∧ acc = ts.map V.str ∧ ∀ t ∈ ts, t.length = 1) ?_ ?_ ?_ ?_
    · rintro j acc l D H' H'' eD hD sm but ⟨c, ts, hc, F3, ea, ht⟩
      exact ⟨c, ts, hc, F3.but eD but, ea, ht⟩
    · intro H' sm
      exact ⟨_, [], by omega, F2.same sm, rfl, nofun⟩
    · rintro j acc H' Nx hj sm ⟨c, ts, hc, F3, ea, ht⟩ la kx
      walk_at "gg"
      refine ⟨rfl, ?_⟩
      walk_at "gg"
      refine g_draw F3 (by omega) (by decide) (by decide) fun m' H4 m0' m1' S4 F4 => ?_
      have h6 : m' = 0 ∨ m' = 1 ∨ m' = 2 ∨ m' = 3 ∨ m' = 4 ∨ m' = 5 := by omega
      have one : ∀ (z : Nat), Nx (V.str ⟨#[z]⟩) H4 := fun z => by
        refine kx _ H4 S4 ⟨_, ts ++ [⟨#[z]⟩], ?_, F4, by rw [ea, List.map_append]; rfl, fun t ht' => ?_⟩
        · omega
        · rcases List.mem_append.mp ht' with h | h
          · exact ht t h
          · rw [List.mem_singleton.mp h]
            rfl
      rcases h6 with rfl | rfl | rfl | rfl | rfl | rfl <;> exact ⟨_, _, _, rfl, rfl, (by decide +kernel), rfl, one _⟩
    rintro D0 acc H3 nD0 S3 e0 ⟨c, ts, hc, F3, ea, ht⟩ la
    rw [ea] at e0
    have hts : ts.length = M := by rw [← la, ea, List.length_map]
    have hsum : (ts.map (·.length)).sum = ts.length := by
      have : ∀ us : List Str, (∀ t ∈ us, t.length = 1) → (us.map (·.length)).sum = us.length := fun us => by
        induction us with
        | nil => exact fun _ => rfl
        | cons u us ih =>
          intro h
          rw [List.map_cons, List.sum_cons, ih fun t ht => h t (List.mem_cons_of_mem _ ht), h u List.mem_cons_self, List.length_cons]
          omega
      exact this ts ht
    walk_at "gg"
    refine ⟨_, D0, ts, rfl, rfl, .inl (SqL.of e0), ?hjl, ?_⟩
    case hjl =>
      rw [hsum, hts]
      exact Nat.le_trans (Nat.add_le_add_left (Nat.mul_le_mul_left M (show Str.length _ ≤ 100 by decide +kernel)) M) (by omega)
    walk_at "gg"
    generalize Txt.join _ ts = tx
    walk_at "gg"
    refine g_draw F3 (by omega) (by decide) (by decide) fun m2 H4 m20 m21 S4 F4 => ?_
    walk_at "gg"
    refine g_powB ⟨by decide, by decide, by decide⟩ ?_
    walk_at "gg"
    refine g_mkL (by walk_at "ln") fun l5 H5 n5 S5 e5 => ?_
    walk_at "gg"
    refine g_draw (F4.same S5) (by omega) (by decide) (by decide) fun m3 H6 m30 m31 S6 F6 => ?_
    refine g_ixI (fun _ => True) (S6 _ _ rfl e5) m30 (by simp only [List.length_cons, List.length_nil]; omega) (all_cons ⟨_, rfl, trivial⟩ (all_cons ⟨_, rfl, trivial⟩ (all_cons ⟨_, rfl, trivial⟩ all_nil))) fun spot _ => ?_
    walk_at "gg"
    clear F6 S6 e5 S5 F4 S4 F3 S3 e0
    have T0 := Same.refl H6
    with_reducible refine g_excV ?_
    walk_at "gg"
    refine g_excQ fun a0 A1 n1 R1 v0 => ?_
    walk_at "gg"
    with_reducible refine g_excV ?_
    walk_at "gg"
    refine g_excQ fun a1 A2 n2 R2 v1 => ?_
    walk_at "gg"
    with_reducible refine g_excV ?_
    walk_at "gg"
    refine g_excQ fun a2 A3 n3 R3 v2 => ?_
    walk_at "gg"
    with_reducible refine g_excV ?_
    walk_at "gg"
    refine g_excQ fun a3 A4 n4 R4 v3 => ?_
    walk_at "gg"
    with_reducible refine g_excV ?_
    walk_at "gg"
    refine g_excQ fun a4 A5 n5 R5 v4 => ?_
    walk_at "gg"
    refine g_mkL (by walk_at "ln") fun la A6 n6 R6 ea => ?_
    walk_at "gg"
    with_reducible refine g_excV ?_
    walk_at "gg"
    refine g_excQ fun a5 A7 n7 R7 v5 => ?_
    walk_at "gg"
    with_reducible refine g_excV ?_
    walk_at "gg"
    refine g_excQ fun a6 A8 n8 R8 v6 => ?_
    walk_at "gg"
    with_reducible refine g_excV ?_
    walk_at "gg"
    refine g_excQ fun a7 A9 n9 R9 v7 => ?_
    walk_at "gg"
    with_reducible refine g_excV ?_
    walk_at "gg"
    refine g_excQ fun a8 A10 n10 R10 v8 => ?_
    walk_at "gg"
    with_reducible refine g_excV ?_
    walk_at "gg"
    refine g_excQ fun a9 A11 n11 R11 v9 => ?_
    walk_at "gg"
    refine g_mkL (by walk_at "ln") fun lb A12 n12 R12 eb => ?_
    walk_at "gg"
    refine g_cat ((((((((Same.refl _).trans R7).trans R8).trans R9).trans R10).trans R11).trans R12) _ _ ea) ((Same.refl _) _ _ eb) (by simp only [List.length_append, List.length_cons, List.length_nil]; omega) fun lc A13 n13 R13 ec => ?_
    walk_at "gg"
    with_reducible refine g_excV ?_
    walk_at "gg"
    refine g_excQ fun a10 A14 n14 R14 v10 => ?_
    walk_at "gg"
    with_reducible refine g_excV ?_
    walk_at "gg"
    refine g_excQ fun a11 A15 n15 R15 v11 => ?_
    walk_at "gg"
    with_reducible refine g_excV ?_
    walk_at "gg"
    refine g_excQ fun a12 A16 n16 R16 v12 => ?_
    walk_at "gg"
    with_reducible refine g_excV ?_
    walk_at "gg"
    refine g_excQ fun a13 A17 n17 R17 v13 => ?_
    walk_at "gg"
    with_reducible refine g_excV ?_
    walk_at "gg"
    refine g_excQ fun a14 A18 n18 R18 v14 => ?_
    walk_at "gg"
    refine g_mkL (by walk_at "ln") fun ld A19 n19 R19 ed => ?_
    walk_at "gg"
    refine g_cat ((((((((Same.refl _).trans R14).trans R15).trans R16).trans R17).trans R18).trans R19) _ _ ec) ((Same.refl _) _ _ ed) (by simp only [List.length_append, List.length_cons, List.length_nil]; omega) fun lf A20 n20 R20 ef => ?_
    walk_at "gg"
    with_reducible refine g_excV ?_
    walk_at "gg"
    refine g_excQ fun a15 A21 n21 R21 v15 => ?_
    walk_at "gg"
    with_reducible refine g_oexV ?_
    walk_at "gg"
    refine g_oexQ fun a16 d16 A22 n22 R22 w16 u16 => ?_
    walk_at "gg"
    with_reducible refine g_oexV ?_
    walk_at "gg"
    refine g_oexQ fun a17 d17 A23 n23 R23 w17 u17 => ?_
    walk_at "gg"
    refine g_mkL (by walk_at "ln") fun lg A24 n24 R24 eg => ?_
    walk_at "gg"
    refine g_cat ((((((Same.refl _).trans R21).trans R22).trans R23).trans R24) _ _ ef) ((Same.refl _) _ _ eg) (by simp only [List.length_append, List.length_cons, List.length_nil]; omega) fun lh A25 n25 R25 eh => ?_
    walk_at "gg"
    have hv : ∀ i, i < 18 → VErr A25 ([a0, a1, a2, a3, a4, a5, a6, a7, a8, a9, a10, a11, a12, a13, a14, a15, a16, a17].getD i 0) (e i) := by
      intro i hi
      have : i = 0 ∨ i = 1 ∨ i = 2 ∨ i = 3 ∨ i = 4 ∨ i = 5 ∨ i = 6 ∨ i = 7 ∨ i = 8 ∨ i = 9 ∨ i = 10 ∨ i = 11 ∨ i = 12 ∨ i = 13 ∨ i = 14 ∨ i = 15 ∨ i = 16 ∨ i = 17 := by omega
      rcases this with rfl | rfl | rfl | rfl | rfl | rfl | rfl | rfl | rfl | rfl | rfl | rfl | rfl | rfl | rfl | rfl | rfl | rfl
      · exact v0.same (((((((((((((((((((((((((Same.refl _).trans R2).trans R3).trans R4).trans R5).trans R6).trans R7).trans R8).trans R9).trans R10).trans R11).trans R12).trans R13).trans R14).trans R15).trans R16).trans R17).trans R18).trans R19).trans R20).trans R21).trans R22).trans R23).trans R24).trans R25)
      · exact v1.same ((((((((((((((((((((((((Same.refl _).trans R3).trans R4).trans R5).trans R6).trans R7).trans R8).trans R9).trans R10).trans R11).trans R12).trans R13).trans R14).trans R15).trans R16).trans R17).trans R18).trans R19).trans R20).trans R21).trans R22).trans R23).trans R24).trans R25)
      · exact v2.same (((((((((((((((((((((((Same.refl _).trans R4).trans R5).trans R6).trans R7).trans R8).trans R9).trans R10).trans R11).trans R12).trans R13).trans R14).trans R15).trans R16).trans R17).trans R18).trans R19).trans R20).trans R21).trans R22).trans R23).trans R24).trans R25)
      · exact v3.same ((((((((((((((((((((((Same.refl _).trans R5).trans R6).trans R7).trans R8).trans R9).trans R10).trans R11).trans R12).trans R13).trans R14).trans R15).trans R16).trans R17).trans R18).trans R19).trans R20).trans R21).trans R22).trans R23).trans R24).trans R25)
      · exact v4.same (((((((((((((((((((((Same.refl _).trans R6).trans R7).trans R8).trans R9).trans R10).trans R11).trans R12).trans R13).trans R14).trans R15).trans R16).trans R17).trans R18).trans R19).trans R20).trans R21).trans R22).trans R23).trans R24).trans R25)
      · exact v5.same (((((((((((((((((((Same.refl _).trans R8).trans R9).trans R10).trans R11).trans R12).trans R13).trans R14).trans R15).trans R16).trans R17).trans R18).trans R19).trans R20).trans R21).trans R22).trans R23).trans R24).trans R25)
      · exact v6.same ((((((((((((((((((Same.refl _).trans R9).trans R10).trans R11).trans R12).trans R13).trans R14).trans R15).trans R16).trans R17).trans R18).trans R19).trans R20).trans R21).trans R22).trans R23).trans R24).trans R25)
      · exact v7.same (((((((((((((((((Same.refl _).trans R10).trans R11).trans R12).trans R13).trans R14).trans R15).trans R16).trans R17).trans R18).trans R19).trans R20).trans R21).trans R22).trans R23).trans R24).trans R25)
      · exact v8.same ((((((((((((((((Same.refl _).trans R11).trans R12).trans R13).trans R14).trans R15).trans R16).trans R17).trans R18).trans R19).trans R20).trans R21).trans R22).trans R23).trans R24).trans R25)
      · exact v9.same (((((((((((((((Same.refl _).trans R12).trans R13).trans R14).trans R15).trans R16).trans R17).trans R18).trans R19).trans R20).trans R21).trans R22).trans R23).trans R24).trans R25)
      · exact v10.same ((((((((((((Same.refl _).trans R15).trans R16).trans R17).trans R18).trans R19).trans R20).trans R21).trans R22).trans R23).trans R24).trans R25)
      · exact v11.same (((((((((((Same.refl _).trans R16).trans R17).trans R18).trans R19).trans R20).trans R21).trans R22).trans R23).trans R24).trans R25)
      · exact v12.same ((((((((((Same.refl _).trans R17).trans R18).trans R19).trans R20).trans R21).trans R22).trans R23).trans R24).trans R25)
      · exact v13.same (((((((((Same.refl _).trans R18).trans R19).trans R20).trans R21).trans R22).trans R23).trans R24).trans R25)
      · exact v14.same ((((((((Same.refl _).trans R19).trans R20).trans R21).trans R22).trans R23).trans R24).trans R25)
      · exact v15.same (((((Same.refl _).trans R22).trans R23).trans R24).trans R25)
      · exact (VErr.same (.inr ⟨_, _, w16, u16⟩) ((((Same.refl _).trans R23).trans R24).trans R25))
      · exact (VErr.same (.inr ⟨_, _, w17, u17⟩) (((Same.refl _).trans R24).trans R25))
    have hx : A25 lh = some (.lst ((List.range 18).map fun i => V.ref ([a0, a1, a2, a3, a4, a5, a6, a7, a8, a9, a10, a11, a12, a13, a14, a15, a16, a17].getD i 0))) := eh
    have w16' := ((((Same.refl _).trans R23).trans R24).trans R25) _ _ w16
    have u16' := ((((Same.refl _).trans R23).trans R24).trans R25) _ _ u16
    have w17' := (((Same.refl _).trans R24).trans R25) _ _ w17
    have u17' := (((Same.refl _).trans R24).trans R25) _ _ u17
    generalize hp : (fun i : Nat => [a0, a1, a2, a3, a4, a5, a6, a7, a8, a9, a10, a11, a12, a13, a14, a15, a16, a17].getD i 0) = p
    have hv' : ∀ i, i < 18 → VErr A25 (p i) (e i) := by rw [← hp]; exact hv
    have hx' : A25 lh = some (.lst ((List.range 18).map fun i => V.ref (p i))) := by rw [← hp]; exact hx
    have ai : ∀ j : Nat, j < 18 → atI ((List.range 18).map fun i => V.ref (p i)) (0 + (j : Int)) = some (V.ref (p j)) := fun j hj => by
      rw [Int.zero_add]
      exact atI_nat (by rw [List.getElem?_map, List.getElem?_range hj]; rfl)
    have L18 : ((List.range 18).map fun i => V.ref (p i)).length = 18 := by simp
    clear hv hx
    refine g_len (SqL.of hx') ?_
    walk_at "gg"
    rw [L18]
    walk_at "gg"
    rw [show ((18 : Nat) : Int).toNat = 18 from rfl]
    refine fw_range (fun _ σ H' => ∃ (v2 v7 : Option V), σ = [some (.ref a), some (.ref f), v2, some (.str tx), some (.int spot), some (.ref lh), none, v7] ∧ Same A25 H') ⟨none, none, rfl, Same.refl _⟩ ?_ ?_
    · rintro j σ H7 hj ⟨v2, v7, rfl, S7⟩
      walk_at "gg"
      refine g_ixL (SqL.of (S7 _ _ hx')) (ai j hj) ?_
      walk_at "gg"
      refine g_isV ((hv' j hj).same S7) (R.ask j hj).exc (.own _) (R.up j hj) ?_
      walk_at "gg"
      refine g_ifF rfl ?_
      walk_at "gg"
      refine g_ixL (SqL.of (S7 _ _ hx')) (ai j hj) ?_
      walk_at "gg"
      refine g_isV ((hv' j hj).same S7) (R.ask j hj).exc (.ty "ValueError") (R.val j hj) ?_
      walk_at "gg"
      refine g_ifF rfl ?_
      walk_at "gg"
      refine g_ixL (SqL.of (S7 _ _ hx')) (ai j hj) ?_
      walk_at "gg"
      refine g_of ((hv' j hj).same S7) (R.ask j hj) fun l8 H8 n8 S8 e8 => ?_
      walk_at "gg"
      refine g_len (SqL.of ((S7.trans S8) _ _ hx')) ?_
      walk_at "gg"
      rw [L18]
      walk_at "gg"
      rw [show ((18 : Nat) : Int).toNat = 18 from rfl]
      refine lc_map (P := fun i y => y = .bl (decide (i = j))) src_rng (by decide) (fun i x H9 Nx hi S9 hx9 kn => ?_) fun l9 acc H9 n9 S9 e9 hl9 hA => ?_
      · subst hx9
        walk_at "gg"
        refine ⟨rfl, ?_⟩
        walk_at "gg"
        refine kn _ _ (Same.refl _) ?_
        congr 1
        exact decide_eq_decide.mpr ⟨fun z => by injection z with z; omega, fun z => by rw [z]⟩
      · have ea : acc = ((List.range 18).map fun i => decide (i = j)).map V.bl := by
          refine List.ext_getElem? fun i => ?_
          rw [List.map_map, List.getElem?_map]
          by_cases hi : i < 18
          · have ga : acc[i]? = some acc[i] := List.getElem?_eq_getElem (by omega)
            rw [ga, hA i _ ga, List.getElem?_range hi]
            rfl
          · rw [List.getElem?_eq_none (by omega), List.getElem?_eq_none (by rw [List.length_range]; omega)]
            rfl
        rw [ea] at e9
        walk_at "gg"
        refine g_neBs (bs := (List.range 18).map fun i => decide (i = j)) (SqL.of (by rw [List.map_map]; exact S9 _ _ e8)) (SqL.of e9) ?_
        walk_at "gg"
        refine g_ifF rfl ?_
        walk_at "gg"
        exact ⟨_, _, rfl, (S7.trans S8).trans S9⟩
    · rintro σ H7 ⟨v2, v7, rfl, S7⟩
      walk_at "gg"
      with_reducible refine g_excV ?_
      walk_at "gg"
      refine g_excQ fun aL HL nL SL vL => ?_
      walk_at "gg"
      refine g_of vL R.base fun l8 H8 n8 S8 e8 => ?_
      walk_at "gg"
      refine g_mkL (by walk_at "ln") fun l9 H9 n9 S9 e9 => ?_
      walk_at "gg"
      have S79 := ((S7.trans SL).trans S8).trans S9
      refine g_len (SqL.of (S79 _ _ hx')) ?_
      walk_at "gg"
      rw [L18]
      refine g_rep78 e9 (by decide) (by decide) (by decide) fun q H10 n10 S10 e10 => ?_
      walk_at "gg"
      refine g_neBs (bs := List.replicate 18 false) (SqL.of ((S9.trans S10) _ _ e8)) (SqL.of e10) ?_
      walk_at "gg"
      refine g_ifF rfl ?_
      walk_at "gg"
      have S710 := S79.trans S10
      have hp16 : p 16 = a16 := by rw [← hp]; rfl
      have hp17 : p 17 = a17 := by rw [← hp]; rfl
      with_reducible refine g_errV ?_
      walk_at "gg"
      refine g_ixL (SqL.of (S710 _ _ hx')) (v := V.ref (p 16)) rfl ?_
      refine ⟨p 16, e 16, d16, _, .int spot, rfl, (by rw [hp16]; exact S710 _ _ w16'), S710 _ _ u16', rfl, (R.ask 16 (by decide)).exc, R.idx, ?_⟩
      walk_at "gg"
      with_reducible refine g_errV ?_
      walk_at "gg"
      refine g_ixL (SqL.of (S710 _ _ hx')) (v := V.ref (p 17)) rfl ?_
      refine ⟨p 17, e 17, d17, _, .int spot, rfl, (by rw [hp17]; exact S710 _ _ w17'), S710 _ _ u17', rfl, (R.ask 17 (by decide)).exc, R.plc, ?_⟩
      walk_at "gg"
      with_reducible refine g_errV ?_
      with_reducible refine g_oexKV ?_
      walk_at "gg"
      refine g_oneOex (g_oexQ fun aI dI HI nI SI wI uI => ?_)
      refine ⟨aI, e 16, dI, _, .int spot, rfl, wI, uI, rfl, (R.ask 16 (by decide)).exc, R.idx, ?_⟩
      walk_at "gg"
      with_reducible refine g_errV ?_
      with_reducible refine g_oexKV ?_
      walk_at "gg"
      refine g_oneOex (g_oexQ fun aT dT HT nT ST wT uT => ?_)
      refine ⟨aT, e 17, dT, _, .int spot, rfl, wT, uT, rfl, (R.ask 17 (by decide)).exc, R.plc, ?_⟩
      walk_at "gg"
      refine g_mkL (by walk_at "ln") fun l11 H11 n11 S11 e11 => ?_
      walk_at "gg"
      refine g_mkL (by walk_at "ln") fun l12 H12 n12 S12 e12 => ?_
      walk_at "gg"
      refine g_rep78 e12 (by decide) (by decide) (by simp) fun q2 H13 n13 S13 e13 => ?_
      walk_at "gg"
      exact ⟨l11, q2, [spot, spot, spot, spot], rfl, (S12.trans S13) _ _ e11, e13, by simp, fun H' _ => k H'⟩
end
end Gk

set_option maxHeartbeats 4000000
/-! What the head needs of classes of errors -/
namespace Gx
open PySem L2 PySem.Spec PyProof.Rows
theorem kit_refs {K : PySem.W.Frag} {C D : Addr} {b : Bool} (ne : (Value.ref C == Value.ref D) = false) (h1 : PySem.W.isClsIn K D = true) (h2 : PySem.W.typeIn K (.ref D) = some (.type "type")) (h3 : PySem.W.subIn K (.ref C) (.ref D) = some b) : PySem.W.kitOne K (.ref C) (.ref D) = some b := by
  have e2 : ((PySem.W.clsIn K D).isSome && PySem.W.typeIn K (.ref D) == some (.type "type")) = true := by
    have h1' : (PySem.W.clsIn K D).isSome = true := h1
    rw [h1', h2] <;> rfl
  unfold PySem.W.kitOne
  rw [if_neg (by rw [ne]; exact Bool.false_ne_true)]
  show (if ((PySem.W.clsIn K D).isSome && PySem.W.typeIn K (.ref D) == some (.type "type")) = true then PySem.W.subIn K (.ref C) (.ref D) else none) = some b
  rw [if_pos e2]
  exact h3
theorem kit_self {K : PySem.W.Frag} {C : Addr} : PySem.W.kitOne K (.ref C) (.ref C) = some true := by
  unfold PySem.W.kitOne
  rw [if_pos (beq_self_eq_true _)]
theorem kit_none2 {K : PySem.W.Frag} {C D1 D2 : Addr} (h1 : PySem.W.kitOne K (.ref C) (.ref D1) = some false) (h2 : PySem.W.kitOne K (.ref C) (.ref D2) = some false) : PySem.W.kitAny K (.ref C) [.ref D1, .ref D2] = some false :=
  kitAny_cons h1 (fun _ => kitAny_cons h2 (fun _ => rfl) (fun z => by cases z)) (fun z => by cases z)
end Gx
namespace Gk
open PySem L2 Gx
theorem lack_names {K : PySem.W.Frag} {d : Addr} {es : Array DictEntry} {n : Nat} (hl : K.lookup d = some ⟨.type "dict", none, .dict es n, #[]⟩) {t0 t1 t2 t3 : Tok}
    (hk : es.toList.map (·.key) = ([("read", t0), ("values", t1), ("put", t2), ("erase", t3)] : List (Str × Tok)).map fun k => Value.str k.1 k.2) {z : Str} (hz : nameOf z = none) : PySem.W.nsIn K d z = some none := by
  refine table_lacks hl hk fun k hm e => ?_
  rcases List.mem_cons.mp hm with rfl | hm
  · have e2 : ("read" : Str) = z := e
    subst e2
    exact absurd hz (by decide +kernel)
  rcases List.mem_cons.mp hm with rfl | hm
  · have e2 : ("values" : Str) = z := e
    subst e2
    exact absurd hz (by decide +kernel)
  rcases List.mem_cons.mp hm with rfl | hm
  · have e2 : ("put" : Str) = z := e
    subst e2
    exact absurd hz (by decide +kernel)
  rcases List.mem_cons.mp hm with rfl | hm
  · have e2 : ("erase" : Str) = z := e
    subst e2
    exact absurd hz (by decide +kernel)
  · cases hm
end Gk

namespace Gk
open PySem L2 Gx PySem.Spec PyProof.Rows
open C8 (Cal Met Mak pe_c pe_mt pe_mt0 pe_mk pe_gc)
theorem all_mk {l : PySem.W.OpenLaw} {w : World} {K : PySem.W.Frag} {h : Heap} {mg : Str → Option Value} {fa f_law f_bag f_stirred f_draw f_alike f_of C_InvalidPoints C_InvalidEntries C_InvalidRange C_InvalidNumber C_InvalidWay C_InvalidKind C_InvalidScripts C_InvalidTurns C_InvalidLog C_InvalidOrder C_UnknownTransaction C_IsWaiting C_NotWaiting C_NotHeld C_TooMany C_NothingToUndo C_LockError C_Impossible C_InvalidText f_Impossible_init f_InvalidText_init : Addr} (X : K.In h) (G : h.Ns mainGlobals mg) (hfa : mg "law" = some (.ref fa))
    {od_law an_law od_bag an_bag od_stirred an_stirred od_draw an_draw od_alike an_alike od_of an_of od_Impossible_init an_Impossible_init od_InvalidText_init an_InvalidText_init : Option Addr} {sl_law sl_bag sl_stirred sl_draw sl_alike sl_of sl_Impossible_init sl_InvalidText_init : Array (Option Value)} {oc_law kV_law dc_law pm_law cd_law ct_law oc_bag kV_bag dc_bag pm_bag cd_bag ct_bag oc_stirred kV_stirred dc_stirred pm_stirred cd_stirred ct_stirred oc_draw kV_draw dc_draw pm_draw cd_draw ct_draw oc_alike kV_alike dc_alike pm_alike cd_alike ct_alike oc_of kV_of dc_of pm_of cd_of ct_of oc_Impossible_init kV_Impossible_init dc_Impossible_init pm_Impossible_init cd_Impossible_init ct_Impossible_init oc_InvalidText_init kV_InvalidText_init dc_InvalidText_init pm_InvalidText_init cd_InvalidText_init ct_InvalidText_init : Value} {nm_Impossible q_Impossible : Str} {N_Impossible : Addr} {bs_Impossible sub_Impossible : List Value} {sn_Impossible : List Str} {ab_Impossible : Bool} {col_Impossible : Option Bool} {dd_Impossible : Option Addr} {m0_Impossible m1_Impossible m2_Impossible m3_Impossible m5_Impossible : Option Value} {nm_InvalidText q_InvalidText : Str} {N_InvalidText : Addr} {bs_InvalidText sub_InvalidText : List Value} {sn_InvalidText : List Str} {ab_InvalidText : Bool} {col_InvalidText : Option Bool} {dd_InvalidText : Option Addr} {m0_InvalidText m1_InvalidText m2_InvalidText m3_InvalidText m5_InvalidText : Option Value}
    (a_law : PySem.W.nsIn K mainGlobals "law" = some (some (.ref f_law)))
    (l_law : K.lookup f_law = some ⟨oc_law, od_law, .func (PySem.W.fnOf "law" "law" (defArgs s_law) (defBody s_law) (defScope s_law) .none kV_law dc_law pm_law an_law cd_law ct_law), sl_law⟩)
    (c_law : PySem.W.codeIn K cd_law "law" = true)
    (k_law : PySem.W.keepIn K (.ref f_law) = true)
    (a_bag : PySem.W.nsIn K mainGlobals "_law_bag" = some (some (.ref f_bag)))
    (l_bag : K.lookup f_bag = some ⟨oc_bag, od_bag, .func (PySem.W.fnOf "_law_bag" "_law_bag" (defArgs s_bag) (defBody s_bag) (defScope s_bag) .none kV_bag dc_bag pm_bag an_bag cd_bag ct_bag), sl_bag⟩)
    (c_bag : PySem.W.codeIn K cd_bag "_law_bag" = true)
    (k_bag : PySem.W.keepIn K (.ref f_bag) = true)
    (a_stirred : PySem.W.nsIn K mainGlobals "_law_stirred" = some (some (.ref f_stirred)))
    (l_stirred : K.lookup f_stirred = some ⟨oc_stirred, od_stirred, .func (PySem.W.fnOf "_law_stirred" "_law_stirred" (defArgs s_stirred) (defBody s_stirred) (defScope s_stirred) .none kV_stirred dc_stirred pm_stirred an_stirred cd_stirred ct_stirred), sl_stirred⟩)
    (c_stirred : PySem.W.codeIn K cd_stirred "_law_stirred" = true)
    (k_stirred : PySem.W.keepIn K (.ref f_stirred) = true)
    (a_draw : PySem.W.nsIn K mainGlobals "_law_draw" = some (some (.ref f_draw)))
    (l_draw : K.lookup f_draw = some ⟨oc_draw, od_draw, .func (PySem.W.fnOf "_law_draw" "_law_draw" (defArgs s_draw) (defBody s_draw) (defScope s_draw) .none kV_draw dc_draw pm_draw an_draw cd_draw ct_draw), sl_draw⟩)
    (c_draw : PySem.W.codeIn K cd_draw "_law_draw" = true)
    (k_draw : PySem.W.keepIn K (.ref f_draw) = true)
    (a_alike : PySem.W.nsIn K mainGlobals "_law_alike" = some (some (.ref f_alike)))
    (l_alike : K.lookup f_alike = some ⟨oc_alike, od_alike, .func (PySem.W.fnOf "_law_alike" "_law_alike" (defArgs s_alike) (defBody s_alike) (defScope s_alike) .none kV_alike dc_alike pm_alike an_alike cd_alike ct_alike), sl_alike⟩)
    (c_alike : PySem.W.codeIn K cd_alike "_law_alike" = true)
    (k_alike : PySem.W.keepIn K (.ref f_alike) = true)
    (a_of : PySem.W.nsIn K mainGlobals "_law_of" = some (some (.ref f_of)))
    (l_of : K.lookup f_of = some ⟨oc_of, od_of, .func (PySem.W.fnOf "_law_of" "_law_of" (defArgs s_of) (defBody s_of) (defScope s_of) .none kV_of dc_of pm_of an_of cd_of ct_of), sl_of⟩)
    (c_of : PySem.W.codeIn K cd_of "_law_of" = true)
    (k_of : PySem.W.keepIn K (.ref f_of) = true)
    (aC_InvalidPoints : PySem.W.nsIn K mainGlobals "InvalidPoints" = some (some (.ref C_InvalidPoints)))
    (xq_InvalidPoints : PySem.W.excIn K C_InvalidPoints [.type "ValueError", .type "Exception", .type "BaseException", .type "object"] "ValueError.__new__" = true)
    (xk_InvalidPoints : PySem.W.keepIn K (.ref C_InvalidPoints) = true)
    (xs_InvalidPoints : PySem.W.subIn K (.ref C_InvalidPoints) (.type "BaseException") = some true)
    (xt_InvalidPoints : PySem.W.typeIn K (.ref C_InvalidPoints) = some (.type "type"))
    (aC_InvalidEntries : PySem.W.nsIn K mainGlobals "InvalidEntries" = some (some (.ref C_InvalidEntries)))
    (xq_InvalidEntries : PySem.W.excIn K C_InvalidEntries [.type "ValueError", .type "Exception", .type "BaseException", .type "object"] "ValueError.__new__" = true)
    (xk_InvalidEntries : PySem.W.keepIn K (.ref C_InvalidEntries) = true)
    (xs_InvalidEntries : PySem.W.subIn K (.ref C_InvalidEntries) (.type "BaseException") = some true)
    (xt_InvalidEntries : PySem.W.typeIn K (.ref C_InvalidEntries) = some (.type "type"))
    (aC_InvalidRange : PySem.W.nsIn K mainGlobals "InvalidRange" = some (some (.ref C_InvalidRange)))
    (xq_InvalidRange : PySem.W.excIn K C_InvalidRange [.type "ValueError", .type "Exception", .type "BaseException", .type "object"] "ValueError.__new__" = true)
    (xk_InvalidRange : PySem.W.keepIn K (.ref C_InvalidRange) = true)
    (xs_InvalidRange : PySem.W.subIn K (.ref C_InvalidRange) (.type "BaseException") = some true)
    (xt_InvalidRange : PySem.W.typeIn K (.ref C_InvalidRange) = some (.type "type"))
    (aC_InvalidNumber : PySem.W.nsIn K mainGlobals "InvalidNumber" = some (some (.ref C_InvalidNumber)))
    (xq_InvalidNumber : PySem.W.excIn K C_InvalidNumber [.type "ValueError", .type "Exception", .type "BaseException", .type "object"] "ValueError.__new__" = true)
    (xk_InvalidNumber : PySem.W.keepIn K (.ref C_InvalidNumber) = true)
    (xs_InvalidNumber : PySem.W.subIn K (.ref C_InvalidNumber) (.type "BaseException") = some true)
    (xt_InvalidNumber : PySem.W.typeIn K (.ref C_InvalidNumber) = some (.type "type"))
    (aC_InvalidWay : PySem.W.nsIn K mainGlobals "InvalidWay" = some (some (.ref C_InvalidWay)))
    (xq_InvalidWay : PySem.W.excIn K C_InvalidWay [.type "ValueError", .type "Exception", .type "BaseException", .type "object"] "ValueError.__new__" = true)
    (xk_InvalidWay : PySem.W.keepIn K (.ref C_InvalidWay) = true)
    (xs_InvalidWay : PySem.W.subIn K (.ref C_InvalidWay) (.type "BaseException") = some true)
    (xt_InvalidWay : PySem.W.typeIn K (.ref C_InvalidWay) = some (.type "type"))
    (aC_InvalidKind : PySem.W.nsIn K mainGlobals "InvalidKind" = some (some (.ref C_InvalidKind)))
    (xq_InvalidKind : PySem.W.excIn K C_InvalidKind [.type "ValueError", .type "Exception", .type "BaseException", .type "object"] "ValueError.__new__" = true)
    (xk_InvalidKind : PySem.W.keepIn K (.ref C_InvalidKind) = true)
    (xs_InvalidKind : PySem.W.subIn K (.ref C_InvalidKind) (.type "BaseException") = some true)
    (xt_InvalidKind : PySem.W.typeIn K (.ref C_InvalidKind) = some (.type "type"))
    (aC_InvalidScripts : PySem.W.nsIn K mainGlobals "InvalidScripts" = some (some (.ref C_InvalidScripts)))
    (xq_InvalidScripts : PySem.W.excIn K C_InvalidScripts [.type "ValueError", .type "Exception", .type "BaseException", .type "object"] "ValueError.__new__" = true)
    (xk_InvalidScripts : PySem.W.keepIn K (.ref C_InvalidScripts) = true)
    (xs_InvalidScripts : PySem.W.subIn K (.ref C_InvalidScripts) (.type "BaseException") = some true)
    (xt_InvalidScripts : PySem.W.typeIn K (.ref C_InvalidScripts) = some (.type "type"))
    (aC_InvalidTurns : PySem.W.nsIn K mainGlobals "InvalidTurns" = some (some (.ref C_InvalidTurns)))
    (xq_InvalidTurns : PySem.W.excIn K C_InvalidTurns [.type "ValueError", .type "Exception", .type "BaseException", .type "object"] "ValueError.__new__" = true)
    (xk_InvalidTurns : PySem.W.keepIn K (.ref C_InvalidTurns) = true)
    (xs_InvalidTurns : PySem.W.subIn K (.ref C_InvalidTurns) (.type "BaseException") = some true)
    (xt_InvalidTurns : PySem.W.typeIn K (.ref C_InvalidTurns) = some (.type "type"))
    (aC_InvalidLog : PySem.W.nsIn K mainGlobals "InvalidLog" = some (some (.ref C_InvalidLog)))
    (xq_InvalidLog : PySem.W.excIn K C_InvalidLog [.type "ValueError", .type "Exception", .type "BaseException", .type "object"] "ValueError.__new__" = true)
    (xk_InvalidLog : PySem.W.keepIn K (.ref C_InvalidLog) = true)
    (xs_InvalidLog : PySem.W.subIn K (.ref C_InvalidLog) (.type "BaseException") = some true)
    (xt_InvalidLog : PySem.W.typeIn K (.ref C_InvalidLog) = some (.type "type"))
    (aC_InvalidOrder : PySem.W.nsIn K mainGlobals "InvalidOrder" = some (some (.ref C_InvalidOrder)))
    (xq_InvalidOrder : PySem.W.excIn K C_InvalidOrder [.type "ValueError", .type "Exception", .type "BaseException", .type "object"] "ValueError.__new__" = true)
    (xk_InvalidOrder : PySem.W.keepIn K (.ref C_InvalidOrder) = true)
    (xs_InvalidOrder : PySem.W.subIn K (.ref C_InvalidOrder) (.type "BaseException") = some true)
    (xt_InvalidOrder : PySem.W.typeIn K (.ref C_InvalidOrder) = some (.type "type"))
    (aC_UnknownTransaction : PySem.W.nsIn K mainGlobals "UnknownTransaction" = some (some (.ref C_UnknownTransaction)))
    (xq_UnknownTransaction : PySem.W.excIn K C_UnknownTransaction [.type "ValueError", .type "Exception", .type "BaseException", .type "object"] "ValueError.__new__" = true)
    (xk_UnknownTransaction : PySem.W.keepIn K (.ref C_UnknownTransaction) = true)
    (xs_UnknownTransaction : PySem.W.subIn K (.ref C_UnknownTransaction) (.type "BaseException") = some true)
    (xt_UnknownTransaction : PySem.W.typeIn K (.ref C_UnknownTransaction) = some (.type "type"))
    (aC_IsWaiting : PySem.W.nsIn K mainGlobals "IsWaiting" = some (some (.ref C_IsWaiting)))
    (xq_IsWaiting : PySem.W.excIn K C_IsWaiting [.type "ValueError", .type "Exception", .type "BaseException", .type "object"] "ValueError.__new__" = true)
    (xk_IsWaiting : PySem.W.keepIn K (.ref C_IsWaiting) = true)
    (xs_IsWaiting : PySem.W.subIn K (.ref C_IsWaiting) (.type "BaseException") = some true)
    (xt_IsWaiting : PySem.W.typeIn K (.ref C_IsWaiting) = some (.type "type"))
    (aC_NotWaiting : PySem.W.nsIn K mainGlobals "NotWaiting" = some (some (.ref C_NotWaiting)))
    (xq_NotWaiting : PySem.W.excIn K C_NotWaiting [.type "ValueError", .type "Exception", .type "BaseException", .type "object"] "ValueError.__new__" = true)
    (xk_NotWaiting : PySem.W.keepIn K (.ref C_NotWaiting) = true)
    (xs_NotWaiting : PySem.W.subIn K (.ref C_NotWaiting) (.type "BaseException") = some true)
    (xt_NotWaiting : PySem.W.typeIn K (.ref C_NotWaiting) = some (.type "type"))
    (aC_NotHeld : PySem.W.nsIn K mainGlobals "NotHeld" = some (some (.ref C_NotHeld)))
    (xq_NotHeld : PySem.W.excIn K C_NotHeld [.type "ValueError", .type "Exception", .type "BaseException", .type "object"] "ValueError.__new__" = true)
    (xk_NotHeld : PySem.W.keepIn K (.ref C_NotHeld) = true)
    (xs_NotHeld : PySem.W.subIn K (.ref C_NotHeld) (.type "BaseException") = some true)
    (xt_NotHeld : PySem.W.typeIn K (.ref C_NotHeld) = some (.type "type"))
    (aC_TooMany : PySem.W.nsIn K mainGlobals "TooMany" = some (some (.ref C_TooMany)))
    (xq_TooMany : PySem.W.excIn K C_TooMany [.type "ValueError", .type "Exception", .type "BaseException", .type "object"] "ValueError.__new__" = true)
    (xk_TooMany : PySem.W.keepIn K (.ref C_TooMany) = true)
    (xs_TooMany : PySem.W.subIn K (.ref C_TooMany) (.type "BaseException") = some true)
    (xt_TooMany : PySem.W.typeIn K (.ref C_TooMany) = some (.type "type"))
    (aC_NothingToUndo : PySem.W.nsIn K mainGlobals "NothingToUndo" = some (some (.ref C_NothingToUndo)))
    (xq_NothingToUndo : PySem.W.excIn K C_NothingToUndo [.type "ValueError", .type "Exception", .type "BaseException", .type "object"] "ValueError.__new__" = true)
    (xk_NothingToUndo : PySem.W.keepIn K (.ref C_NothingToUndo) = true)
    (xs_NothingToUndo : PySem.W.subIn K (.ref C_NothingToUndo) (.type "BaseException") = some true)
    (xt_NothingToUndo : PySem.W.typeIn K (.ref C_NothingToUndo) = some (.type "type"))
    (aC_LockError : PySem.W.nsIn K mainGlobals "LockError" = some (some (.ref C_LockError)))
    (xq_LockError : PySem.W.excIn K C_LockError [.type "ValueError", .type "Exception", .type "BaseException", .type "object"] "ValueError.__new__" = true)
    (xk_LockError : PySem.W.keepIn K (.ref C_LockError) = true)
    (xs_LockError : PySem.W.subIn K (.ref C_LockError) (.type "BaseException") = some true)
    (xt_LockError : PySem.W.typeIn K (.ref C_LockError) = some (.type "type"))
    (z_ValueError : PySem.W.nsIn K mainGlobals "ValueError" = some none)
    (aC_Impossible : PySem.W.nsIn K mainGlobals "Impossible" = some (some (.ref C_Impossible)))
    (aC_InvalidText : PySem.W.nsIn K mainGlobals "InvalidText" = some (some (.ref C_InvalidText)))
    (x_Impossible : K.lookup C_Impossible = some (excClassObj nm_Impossible q_Impossible C_Impossible N_Impossible bs_Impossible [.ref C_LockError, .type "ValueError", .type "Exception", .type "BaseException", .type "object"] true sn_Impossible sub_Impossible ab_Impossible col_Impossible dd_Impossible m0_Impossible m1_Impossible m2_Impossible m3_Impossible m5_Impossible "ValueError.__new__"))
    (sa_Impossible : PySem.W.findIn K (.ref C_Impossible) "__setattr__" = some (some (.builtin "object.__setattr__")))
    (ga_Impossible : PySem.W.findIn K (.ref C_Impossible) "__getattribute__" = some (some (.builtin "BaseException.__getattribute__")))
    (gg_Impossible : PySem.W.findIn K (.ref C_Impossible) "__getattr__" = some none)
    (np_Impossible_index : PySem.W.findIn K (.ref C_Impossible) "index" = some none)
    (a_Impossible_init : PySem.W.findIn K (.ref C_Impossible) "__init__" = some (some (.ref f_Impossible_init)))
    (t_Impossible_init : PySem.W.typeIn K (.ref f_Impossible_init) = some (.type "function"))
    (l_Impossible_init : K.lookup f_Impossible_init = some ⟨oc_Impossible_init, od_Impossible_init, .func (PySem.W.fnOf "__init__" "Impossible.__init__" (defArgs s_Impossible_init) (defBody s_Impossible_init) (defScope s_Impossible_init) .none kV_Impossible_init dc_Impossible_init pm_Impossible_init an_Impossible_init cd_Impossible_init ct_Impossible_init), sl_Impossible_init⟩)
    (c_Impossible_init : PySem.W.codeIn K cd_Impossible_init "Impossible.__init__" = true)
    (k_Impossible_init : PySem.W.keepIn K (.ref f_Impossible_init) = true)
    (kC_Impossible : PySem.W.keepIn K (.ref C_Impossible) = true)
    (eC_Impossible : PySem.W.subIn K (.ref C_Impossible) (.type "BaseException") = some true)
    (tC_Impossible : PySem.W.typeIn K (.ref C_Impossible) = some (.type "type"))
    (hD_Impossible : PySem.W.hasDictIn K C_Impossible = true)
    (iC_Impossible : PySem.W.isClsIn K C_Impossible = true)
    (sB_Impossible : PySem.W.subIn K (.ref C_Impossible) (.ref C_LockError) = some true)
    (ha_Impossible : PySem.W.findIn K (.ref C_Impossible) "__class__" = some (some (.builtin "object.__class__")))
    (hm_Impossible : PySem.W.mroIn K C_Impossible (.type "object") = some true)
    (x_InvalidText : K.lookup C_InvalidText = some (excClassObj nm_InvalidText q_InvalidText C_InvalidText N_InvalidText bs_InvalidText [.ref C_LockError, .type "ValueError", .type "Exception", .type "BaseException", .type "object"] true sn_InvalidText sub_InvalidText ab_InvalidText col_InvalidText dd_InvalidText m0_InvalidText m1_InvalidText m2_InvalidText m3_InvalidText m5_InvalidText "ValueError.__new__"))
    (sa_InvalidText : PySem.W.findIn K (.ref C_InvalidText) "__setattr__" = some (some (.builtin "object.__setattr__")))
    (ga_InvalidText : PySem.W.findIn K (.ref C_InvalidText) "__getattribute__" = some (some (.builtin "BaseException.__getattribute__")))
    (gg_InvalidText : PySem.W.findIn K (.ref C_InvalidText) "__getattr__" = some none)
    (np_InvalidText_place : PySem.W.findIn K (.ref C_InvalidText) "place" = some none)
    (a_InvalidText_init : PySem.W.findIn K (.ref C_InvalidText) "__init__" = some (some (.ref f_InvalidText_init)))
    (t_InvalidText_init : PySem.W.typeIn K (.ref f_InvalidText_init) = some (.type "function"))
    (l_InvalidText_init : K.lookup f_InvalidText_init = some ⟨oc_InvalidText_init, od_InvalidText_init, .func (PySem.W.fnOf "__init__" "InvalidText.__init__" (defArgs s_InvalidText_init) (defBody s_InvalidText_init) (defScope s_InvalidText_init) .none kV_InvalidText_init dc_InvalidText_init pm_InvalidText_init an_InvalidText_init cd_InvalidText_init ct_InvalidText_init), sl_InvalidText_init⟩)
    (c_InvalidText_init : PySem.W.codeIn K cd_InvalidText_init "InvalidText.__init__" = true)
    (k_InvalidText_init : PySem.W.keepIn K (.ref f_InvalidText_init) = true)
    (kC_InvalidText : PySem.W.keepIn K (.ref C_InvalidText) = true)
    (eC_InvalidText : PySem.W.subIn K (.ref C_InvalidText) (.type "BaseException") = some true)
    (tC_InvalidText : PySem.W.typeIn K (.ref C_InvalidText) = some (.type "type"))
    (hD_InvalidText : PySem.W.hasDictIn K C_InvalidText = true)
    (iC_InvalidText : PySem.W.isClsIn K C_InvalidText = true)
    (sB_InvalidText : PySem.W.subIn K (.ref C_InvalidText) (.ref C_LockError) = some true)
    (ha_InvalidText : PySem.W.findIn K (.ref C_InvalidText) "__class__" = some (some (.builtin "object.__class__")))
    (hm_InvalidText : PySem.W.mroIn K C_InvalidText (.type "object") = some true)
    (cls_get : PySem.W.specialIn K (.builtin "object.__class__") "__get__" = some (some (.builtin "getset_descriptor.__get__")))
    (cls_take : PySem.W.takesIn K (.builtin "object.__class__") = some true)
    (eC_base : PySem.W.subIn K (.ref C_LockError) (.type "BaseException") = some true)
    (hD_base : PySem.W.hasDictIn K C_LockError = true)
    (tC_base : PySem.W.typeIn K (.ref C_LockError) = some (.type "type"))
    (ga_base : PySem.W.specialIn K (.ref C_LockError) "__getattribute__" = some (some (.builtin "type.__getattribute__")))
    (rd_base : PySem.W.readsIn K C_LockError (.type "type") = true)
    (fc_base : PySem.W.findCls K (.ref C_LockError) (.type "type") "__init__" = some (.val (.builtin "ValueError.__init__")))
    (qc_InvalidPoints : PySem.W.isClsIn K C_InvalidPoints = true)
    (qg_InvalidPoints : PySem.W.findIn K (.ref C_InvalidPoints) "__getattribute__" = some (some (.builtin "BaseException.__getattribute__")))
    (qk_InvalidPoints : PySem.W.findIn K (.ref C_InvalidPoints) "__getattr__" = some none)
    (qs_InvalidPoints : PySem.W.subIn K (.ref C_InvalidPoints) (.type "BaseException") = some true)
    (qd_InvalidPoints : PySem.W.hasDictIn K C_InvalidPoints = true)
    (qa_InvalidPoints : PySem.W.findIn K (.ref C_InvalidPoints) "__class__" = some (some (.builtin "object.__class__")))
    (qm_InvalidPoints : PySem.W.mroIn K C_InvalidPoints (.type "object") = some true)
    (qc_InvalidEntries : PySem.W.isClsIn K C_InvalidEntries = true)
    (qg_InvalidEntries : PySem.W.findIn K (.ref C_InvalidEntries) "__getattribute__" = some (some (.builtin "BaseException.__getattribute__")))
    (qk_InvalidEntries : PySem.W.findIn K (.ref C_InvalidEntries) "__getattr__" = some none)
    (qs_InvalidEntries : PySem.W.subIn K (.ref C_InvalidEntries) (.type "BaseException") = some true)
    (qd_InvalidEntries : PySem.W.hasDictIn K C_InvalidEntries = true)
    (qa_InvalidEntries : PySem.W.findIn K (.ref C_InvalidEntries) "__class__" = some (some (.builtin "object.__class__")))
    (qm_InvalidEntries : PySem.W.mroIn K C_InvalidEntries (.type "object") = some true)
    (qc_InvalidRange : PySem.W.isClsIn K C_InvalidRange = true)
    (qg_InvalidRange : PySem.W.findIn K (.ref C_InvalidRange) "__getattribute__" = some (some (.builtin "BaseException.__getattribute__")))
    (qk_InvalidRange : PySem.W.findIn K (.ref C_InvalidRange) "__getattr__" = some none)
    (qs_InvalidRange : PySem.W.subIn K (.ref C_InvalidRange) (.type "BaseException") = some true)
    (qd_InvalidRange : PySem.W.hasDictIn K C_InvalidRange = true)
    (qa_InvalidRange : PySem.W.findIn K (.ref C_InvalidRange) "__class__" = some (some (.builtin "object.__class__")))
    (qm_InvalidRange : PySem.W.mroIn K C_InvalidRange (.type "object") = some true)
    (qc_InvalidNumber : PySem.W.isClsIn K C_InvalidNumber = true)
    (qg_InvalidNumber : PySem.W.findIn K (.ref C_InvalidNumber) "__getattribute__" = some (some (.builtin "BaseException.__getattribute__")))
    (qk_InvalidNumber : PySem.W.findIn K (.ref C_InvalidNumber) "__getattr__" = some none)
    (qs_InvalidNumber : PySem.W.subIn K (.ref C_InvalidNumber) (.type "BaseException") = some true)
    (qd_InvalidNumber : PySem.W.hasDictIn K C_InvalidNumber = true)
    (qa_InvalidNumber : PySem.W.findIn K (.ref C_InvalidNumber) "__class__" = some (some (.builtin "object.__class__")))
    (qm_InvalidNumber : PySem.W.mroIn K C_InvalidNumber (.type "object") = some true)
    (qc_InvalidWay : PySem.W.isClsIn K C_InvalidWay = true)
    (qg_InvalidWay : PySem.W.findIn K (.ref C_InvalidWay) "__getattribute__" = some (some (.builtin "BaseException.__getattribute__")))
    (qk_InvalidWay : PySem.W.findIn K (.ref C_InvalidWay) "__getattr__" = some none)
    (qs_InvalidWay : PySem.W.subIn K (.ref C_InvalidWay) (.type "BaseException") = some true)
    (qd_InvalidWay : PySem.W.hasDictIn K C_InvalidWay = true)
    (qa_InvalidWay : PySem.W.findIn K (.ref C_InvalidWay) "__class__" = some (some (.builtin "object.__class__")))
    (qm_InvalidWay : PySem.W.mroIn K C_InvalidWay (.type "object") = some true)
    (qc_InvalidKind : PySem.W.isClsIn K C_InvalidKind = true)
    (qg_InvalidKind : PySem.W.findIn K (.ref C_InvalidKind) "__getattribute__" = some (some (.builtin "BaseException.__getattribute__")))
    (qk_InvalidKind : PySem.W.findIn K (.ref C_InvalidKind) "__getattr__" = some none)
    (qs_InvalidKind : PySem.W.subIn K (.ref C_InvalidKind) (.type "BaseException") = some true)
    (qd_InvalidKind : PySem.W.hasDictIn K C_InvalidKind = true)
    (qa_InvalidKind : PySem.W.findIn K (.ref C_InvalidKind) "__class__" = some (some (.builtin "object.__class__")))
    (qm_InvalidKind : PySem.W.mroIn K C_InvalidKind (.type "object") = some true)
    (qc_InvalidScripts : PySem.W.isClsIn K C_InvalidScripts = true)
    (qg_InvalidScripts : PySem.W.findIn K (.ref C_InvalidScripts) "__getattribute__" = some (some (.builtin "BaseException.__getattribute__")))
    (qk_InvalidScripts : PySem.W.findIn K (.ref C_InvalidScripts) "__getattr__" = some none)
    (qs_InvalidScripts : PySem.W.subIn K (.ref C_InvalidScripts) (.type "BaseException") = some true)
    (qd_InvalidScripts : PySem.W.hasDictIn K C_InvalidScripts = true)
    (qa_InvalidScripts : PySem.W.findIn K (.ref C_InvalidScripts) "__class__" = some (some (.builtin "object.__class__")))
    (qm_InvalidScripts : PySem.W.mroIn K C_InvalidScripts (.type "object") = some true)
    (qc_InvalidTurns : PySem.W.isClsIn K C_InvalidTurns = true)
    (qg_InvalidTurns : PySem.W.findIn K (.ref C_InvalidTurns) "__getattribute__" = some (some (.builtin "BaseException.__getattribute__")))
    (qk_InvalidTurns : PySem.W.findIn K (.ref C_InvalidTurns) "__getattr__" = some none)
    (qs_InvalidTurns : PySem.W.subIn K (.ref C_InvalidTurns) (.type "BaseException") = some true)
    (qd_InvalidTurns : PySem.W.hasDictIn K C_InvalidTurns = true)
    (qa_InvalidTurns : PySem.W.findIn K (.ref C_InvalidTurns) "__class__" = some (some (.builtin "object.__class__")))
    (qm_InvalidTurns : PySem.W.mroIn K C_InvalidTurns (.type "object") = some true)
    (qc_InvalidLog : PySem.W.isClsIn K C_InvalidLog = true)
    (qg_InvalidLog : PySem.W.findIn K (.ref C_InvalidLog) "__getattribute__" = some (some (.builtin "BaseException.__getattribute__")))
    (qk_InvalidLog : PySem.W.findIn K (.ref C_InvalidLog) "__getattr__" = some none)
    (qs_InvalidLog : PySem.W.subIn K (.ref C_InvalidLog) (.type "BaseException") = some true)
    (qd_InvalidLog : PySem.W.hasDictIn K C_InvalidLog = true)
    (qa_InvalidLog : PySem.W.findIn K (.ref C_InvalidLog) "__class__" = some (some (.builtin "object.__class__")))
    (qm_InvalidLog : PySem.W.mroIn K C_InvalidLog (.type "object") = some true)
    (qc_InvalidOrder : PySem.W.isClsIn K C_InvalidOrder = true)
    (qg_InvalidOrder : PySem.W.findIn K (.ref C_InvalidOrder) "__getattribute__" = some (some (.builtin "BaseException.__getattribute__")))
    (qk_InvalidOrder : PySem.W.findIn K (.ref C_InvalidOrder) "__getattr__" = some none)
    (qs_InvalidOrder : PySem.W.subIn K (.ref C_InvalidOrder) (.type "BaseException") = some true)
    (qd_InvalidOrder : PySem.W.hasDictIn K C_InvalidOrder = true)
    (qa_InvalidOrder : PySem.W.findIn K (.ref C_InvalidOrder) "__class__" = some (some (.builtin "object.__class__")))
    (qm_InvalidOrder : PySem.W.mroIn K C_InvalidOrder (.type "object") = some true)
    (qc_UnknownTransaction : PySem.W.isClsIn K C_UnknownTransaction = true)
    (qg_UnknownTransaction : PySem.W.findIn K (.ref C_UnknownTransaction) "__getattribute__" = some (some (.builtin "BaseException.__getattribute__")))
    (qk_UnknownTransaction : PySem.W.findIn K (.ref C_UnknownTransaction) "__getattr__" = some none)
    (qs_UnknownTransaction : PySem.W.subIn K (.ref C_UnknownTransaction) (.type "BaseException") = some true)
    (qd_UnknownTransaction : PySem.W.hasDictIn K C_UnknownTransaction = true)
    (qa_UnknownTransaction : PySem.W.findIn K (.ref C_UnknownTransaction) "__class__" = some (some (.builtin "object.__class__")))
    (qm_UnknownTransaction : PySem.W.mroIn K C_UnknownTransaction (.type "object") = some true)
    (qc_IsWaiting : PySem.W.isClsIn K C_IsWaiting = true)
    (qg_IsWaiting : PySem.W.findIn K (.ref C_IsWaiting) "__getattribute__" = some (some (.builtin "BaseException.__getattribute__")))
    (qk_IsWaiting : PySem.W.findIn K (.ref C_IsWaiting) "__getattr__" = some none)
    (qs_IsWaiting : PySem.W.subIn K (.ref C_IsWaiting) (.type "BaseException") = some true)
    (qd_IsWaiting : PySem.W.hasDictIn K C_IsWaiting = true)
    (qa_IsWaiting : PySem.W.findIn K (.ref C_IsWaiting) "__class__" = some (some (.builtin "object.__class__")))
    (qm_IsWaiting : PySem.W.mroIn K C_IsWaiting (.type "object") = some true)
    (qc_NotWaiting : PySem.W.isClsIn K C_NotWaiting = true)
    (qg_NotWaiting : PySem.W.findIn K (.ref C_NotWaiting) "__getattribute__" = some (some (.builtin "BaseException.__getattribute__")))
    (qk_NotWaiting : PySem.W.findIn K (.ref C_NotWaiting) "__getattr__" = some none)
    (qs_NotWaiting : PySem.W.subIn K (.ref C_NotWaiting) (.type "BaseException") = some true)
    (qd_NotWaiting : PySem.W.hasDictIn K C_NotWaiting = true)
    (qa_NotWaiting : PySem.W.findIn K (.ref C_NotWaiting) "__class__" = some (some (.builtin "object.__class__")))
    (qm_NotWaiting : PySem.W.mroIn K C_NotWaiting (.type "object") = some true)
    (qc_NotHeld : PySem.W.isClsIn K C_NotHeld = true)
    (qg_NotHeld : PySem.W.findIn K (.ref C_NotHeld) "__getattribute__" = some (some (.builtin "BaseException.__getattribute__")))
    (qk_NotHeld : PySem.W.findIn K (.ref C_NotHeld) "__getattr__" = some none)
    (qs_NotHeld : PySem.W.subIn K (.ref C_NotHeld) (.type "BaseException") = some true)
    (qd_NotHeld : PySem.W.hasDictIn K C_NotHeld = true)
    (qa_NotHeld : PySem.W.findIn K (.ref C_NotHeld) "__class__" = some (some (.builtin "object.__class__")))
    (qm_NotHeld : PySem.W.mroIn K C_NotHeld (.type "object") = some true)
    (qc_TooMany : PySem.W.isClsIn K C_TooMany = true)
    (qg_TooMany : PySem.W.findIn K (.ref C_TooMany) "__getattribute__" = some (some (.builtin "BaseException.__getattribute__")))
    (qk_TooMany : PySem.W.findIn K (.ref C_TooMany) "__getattr__" = some none)
    (qs_TooMany : PySem.W.subIn K (.ref C_TooMany) (.type "BaseException") = some true)
    (qd_TooMany : PySem.W.hasDictIn K C_TooMany = true)
    (qa_TooMany : PySem.W.findIn K (.ref C_TooMany) "__class__" = some (some (.builtin "object.__class__")))
    (qm_TooMany : PySem.W.mroIn K C_TooMany (.type "object") = some true)
    (qc_NothingToUndo : PySem.W.isClsIn K C_NothingToUndo = true)
    (qg_NothingToUndo : PySem.W.findIn K (.ref C_NothingToUndo) "__getattribute__" = some (some (.builtin "BaseException.__getattribute__")))
    (qk_NothingToUndo : PySem.W.findIn K (.ref C_NothingToUndo) "__getattr__" = some none)
    (qs_NothingToUndo : PySem.W.subIn K (.ref C_NothingToUndo) (.type "BaseException") = some true)
    (qd_NothingToUndo : PySem.W.hasDictIn K C_NothingToUndo = true)
    (qa_NothingToUndo : PySem.W.findIn K (.ref C_NothingToUndo) "__class__" = some (some (.builtin "object.__class__")))
    (qm_NothingToUndo : PySem.W.mroIn K C_NothingToUndo (.type "object") = some true)
    (qc_Impossible : PySem.W.isClsIn K C_Impossible = true)
    (qg_Impossible : PySem.W.findIn K (.ref C_Impossible) "__getattribute__" = some (some (.builtin "BaseException.__getattribute__")))
    (qk_Impossible : PySem.W.findIn K (.ref C_Impossible) "__getattr__" = some none)
    (qs_Impossible : PySem.W.subIn K (.ref C_Impossible) (.type "BaseException") = some true)
    (qd_Impossible : PySem.W.hasDictIn K C_Impossible = true)
    (qa_Impossible : PySem.W.findIn K (.ref C_Impossible) "__class__" = some (some (.builtin "object.__class__")))
    (qm_Impossible : PySem.W.mroIn K C_Impossible (.type "object") = some true)
    (qc_InvalidText : PySem.W.isClsIn K C_InvalidText = true)
    (qg_InvalidText : PySem.W.findIn K (.ref C_InvalidText) "__getattribute__" = some (some (.builtin "BaseException.__getattribute__")))
    (qk_InvalidText : PySem.W.findIn K (.ref C_InvalidText) "__getattr__" = some none)
    (qs_InvalidText : PySem.W.subIn K (.ref C_InvalidText) (.type "BaseException") = some true)
    (qd_InvalidText : PySem.W.hasDictIn K C_InvalidText = true)
    (qa_InvalidText : PySem.W.findIn K (.ref C_InvalidText) "__class__" = some (some (.builtin "object.__class__")))
    (qm_InvalidText : PySem.W.mroIn K C_InvalidText (.type "object") = some true)
    (qc_LockError : PySem.W.isClsIn K C_LockError = true)
    (qg_LockError : PySem.W.findIn K (.ref C_LockError) "__getattribute__" = some (some (.builtin "BaseException.__getattribute__")))
    (qk_LockError : PySem.W.findIn K (.ref C_LockError) "__getattr__" = some none)
    (qs_LockError : PySem.W.subIn K (.ref C_LockError) (.type "BaseException") = some true)
    (qd_LockError : PySem.W.hasDictIn K C_LockError = true)
    (qa_LockError : PySem.W.findIn K (.ref C_LockError) "__class__" = some (some (.builtin "object.__class__")))
    (qm_LockError : PySem.W.mroIn K C_LockError (.type "object") = some true)
    (un_InvalidPoints_LockError : PySem.W.kitOne K (.ref C_InvalidPoints) (.ref C_LockError) = some true)
    (un_InvalidEntries_LockError : PySem.W.kitOne K (.ref C_InvalidEntries) (.ref C_LockError) = some true)
    (un_InvalidRange_LockError : PySem.W.kitOne K (.ref C_InvalidRange) (.ref C_LockError) = some true)
    (un_InvalidNumber_LockError : PySem.W.kitOne K (.ref C_InvalidNumber) (.ref C_LockError) = some true)
    (un_InvalidWay_LockError : PySem.W.kitOne K (.ref C_InvalidWay) (.ref C_LockError) = some true)
    (un_InvalidKind_LockError : PySem.W.kitOne K (.ref C_InvalidKind) (.ref C_LockError) = some true)
    (un_InvalidScripts_LockError : PySem.W.kitOne K (.ref C_InvalidScripts) (.ref C_LockError) = some true)
    (un_InvalidTurns_LockError : PySem.W.kitOne K (.ref C_InvalidTurns) (.ref C_LockError) = some true)
    (un_InvalidLog_LockError : PySem.W.kitOne K (.ref C_InvalidLog) (.ref C_LockError) = some true)
    (un_InvalidOrder_LockError : PySem.W.kitOne K (.ref C_InvalidOrder) (.ref C_LockError) = some true)
    (un_UnknownTransaction_LockError : PySem.W.kitOne K (.ref C_UnknownTransaction) (.ref C_LockError) = some true)
    (un_IsWaiting_LockError : PySem.W.kitOne K (.ref C_IsWaiting) (.ref C_LockError) = some true)
    (un_NotWaiting_LockError : PySem.W.kitOne K (.ref C_NotWaiting) (.ref C_LockError) = some true)
    (un_NotHeld_LockError : PySem.W.kitOne K (.ref C_NotHeld) (.ref C_LockError) = some true)
    (un_TooMany_LockError : PySem.W.kitOne K (.ref C_TooMany) (.ref C_LockError) = some true)
    (un_NothingToUndo_LockError : PySem.W.kitOne K (.ref C_NothingToUndo) (.ref C_LockError) = some true)
    (un_Impossible_LockError : PySem.W.kitOne K (.ref C_Impossible) (.ref C_LockError) = some true)
    (un_InvalidText_LockError : PySem.W.kitOne K (.ref C_InvalidText) (.ref C_LockError) = some true)
    (nu_InvalidPoints_InvalidEntries : PySem.W.kitOne K (.ref C_InvalidPoints) (.ref C_InvalidEntries) = some false)
    (nu_InvalidPoints_InvalidRange : PySem.W.kitOne K (.ref C_InvalidPoints) (.ref C_InvalidRange) = some false)
    (nu_InvalidPoints_InvalidNumber : PySem.W.kitOne K (.ref C_InvalidPoints) (.ref C_InvalidNumber) = some false)
    (nu_InvalidPoints_InvalidWay : PySem.W.kitOne K (.ref C_InvalidPoints) (.ref C_InvalidWay) = some false)
    (nu_InvalidPoints_InvalidKind : PySem.W.kitOne K (.ref C_InvalidPoints) (.ref C_InvalidKind) = some false)
    (nu_InvalidPoints_InvalidScripts : PySem.W.kitOne K (.ref C_InvalidPoints) (.ref C_InvalidScripts) = some false)
    (nu_InvalidPoints_InvalidTurns : PySem.W.kitOne K (.ref C_InvalidPoints) (.ref C_InvalidTurns) = some false)
    (nu_InvalidPoints_InvalidLog : PySem.W.kitOne K (.ref C_InvalidPoints) (.ref C_InvalidLog) = some false)
    (nu_InvalidPoints_InvalidOrder : PySem.W.kitOne K (.ref C_InvalidPoints) (.ref C_InvalidOrder) = some false)
    (nu_InvalidPoints_UnknownTransaction : PySem.W.kitOne K (.ref C_InvalidPoints) (.ref C_UnknownTransaction) = some false)
    (nu_InvalidPoints_IsWaiting : PySem.W.kitOne K (.ref C_InvalidPoints) (.ref C_IsWaiting) = some false)
    (nu_InvalidPoints_NotWaiting : PySem.W.kitOne K (.ref C_InvalidPoints) (.ref C_NotWaiting) = some false)
    (nu_InvalidPoints_NotHeld : PySem.W.kitOne K (.ref C_InvalidPoints) (.ref C_NotHeld) = some false)
    (nu_InvalidPoints_TooMany : PySem.W.kitOne K (.ref C_InvalidPoints) (.ref C_TooMany) = some false)
    (nu_InvalidPoints_NothingToUndo : PySem.W.kitOne K (.ref C_InvalidPoints) (.ref C_NothingToUndo) = some false)
    (nu_InvalidPoints_Impossible : PySem.W.kitOne K (.ref C_InvalidPoints) (.ref C_Impossible) = some false)
    (nu_InvalidPoints_InvalidText : PySem.W.kitOne K (.ref C_InvalidPoints) (.ref C_InvalidText) = some false)
    (nu_InvalidEntries_InvalidPoints : PySem.W.kitOne K (.ref C_InvalidEntries) (.ref C_InvalidPoints) = some false)
    (nu_InvalidEntries_InvalidRange : PySem.W.kitOne K (.ref C_InvalidEntries) (.ref C_InvalidRange) = some false)
    (nu_InvalidEntries_InvalidNumber : PySem.W.kitOne K (.ref C_InvalidEntries) (.ref C_InvalidNumber) = some false)
    (nu_InvalidEntries_InvalidWay : PySem.W.kitOne K (.ref C_InvalidEntries) (.ref C_InvalidWay) = some false)
    (nu_InvalidEntries_InvalidKind : PySem.W.kitOne K (.ref C_InvalidEntries) (.ref C_InvalidKind) = some false)
    (nu_InvalidEntries_InvalidScripts : PySem.W.kitOne K (.ref C_InvalidEntries) (.ref C_InvalidScripts) = some false)
    (nu_InvalidEntries_InvalidTurns : PySem.W.kitOne K (.ref C_InvalidEntries) (.ref C_InvalidTurns) = some false)
    (nu_InvalidEntries_InvalidLog : PySem.W.kitOne K (.ref C_InvalidEntries) (.ref C_InvalidLog) = some false)
    (nu_InvalidEntries_InvalidOrder : PySem.W.kitOne K (.ref C_InvalidEntries) (.ref C_InvalidOrder) = some false)
    (nu_InvalidEntries_UnknownTransaction : PySem.W.kitOne K (.ref C_InvalidEntries) (.ref C_UnknownTransaction) = some false)
    (nu_InvalidEntries_IsWaiting : PySem.W.kitOne K (.ref C_InvalidEntries) (.ref C_IsWaiting) = some false)
    (nu_InvalidEntries_NotWaiting : PySem.W.kitOne K (.ref C_InvalidEntries) (.ref C_NotWaiting) = some false)
    (nu_InvalidEntries_NotHeld : PySem.W.kitOne K (.ref C_InvalidEntries) (.ref C_NotHeld) = some false)
    (nu_InvalidEntries_TooMany : PySem.W.kitOne K (.ref C_InvalidEntries) (.ref C_TooMany) = some false)
    (nu_InvalidEntries_NothingToUndo : PySem.W.kitOne K (.ref C_InvalidEntries) (.ref C_NothingToUndo) = some false)
    (nu_InvalidEntries_Impossible : PySem.W.kitOne K (.ref C_InvalidEntries) (.ref C_Impossible) = some false)
    (nu_InvalidEntries_InvalidText : PySem.W.kitOne K (.ref C_InvalidEntries) (.ref C_InvalidText) = some false)
    (nu_InvalidRange_InvalidPoints : PySem.W.kitOne K (.ref C_InvalidRange) (.ref C_InvalidPoints) = some false)
    (nu_InvalidRange_InvalidEntries : PySem.W.kitOne K (.ref C_InvalidRange) (.ref C_InvalidEntries) = some false)
    (nu_InvalidRange_InvalidNumber : PySem.W.kitOne K (.ref C_InvalidRange) (.ref C_InvalidNumber) = some false)
    (nu_InvalidRange_InvalidWay : PySem.W.kitOne K (.ref C_InvalidRange) (.ref C_InvalidWay) = some false)
    (nu_InvalidRange_InvalidKind : PySem.W.kitOne K (.ref C_InvalidRange) (.ref C_InvalidKind) = some false)
    (nu_InvalidRange_InvalidScripts : PySem.W.kitOne K (.ref C_InvalidRange) (.ref C_InvalidScripts) = some false)
    (nu_InvalidRange_InvalidTurns : PySem.W.kitOne K (.ref C_InvalidRange) (.ref C_InvalidTurns) = some false)
    (nu_InvalidRange_InvalidLog : PySem.W.kitOne K (.ref C_InvalidRange) (.ref C_InvalidLog) = some false)
    (nu_InvalidRange_InvalidOrder : PySem.W.kitOne K (.ref C_InvalidRange) (.ref C_InvalidOrder) = some false)
    (nu_InvalidRange_UnknownTransaction : PySem.W.kitOne K (.ref C_InvalidRange) (.ref C_UnknownTransaction) = some false)
    (nu_InvalidRange_IsWaiting : PySem.W.kitOne K (.ref C_InvalidRange) (.ref C_IsWaiting) = some false)
    (nu_InvalidRange_NotWaiting : PySem.W.kitOne K (.ref C_InvalidRange) (.ref C_NotWaiting) = some false)
    (nu_InvalidRange_NotHeld : PySem.W.kitOne K (.ref C_InvalidRange) (.ref C_NotHeld) = some false)
    (nu_InvalidRange_TooMany : PySem.W.kitOne K (.ref C_InvalidRange) (.ref C_TooMany) = some false)
    (nu_InvalidRange_NothingToUndo : PySem.W.kitOne K (.ref C_InvalidRange) (.ref C_NothingToUndo) = some false)
    (nu_InvalidRange_Impossible : PySem.W.kitOne K (.ref C_InvalidRange) (.ref C_Impossible) = some false)
    (nu_InvalidRange_InvalidText : PySem.W.kitOne K (.ref C_InvalidRange) (.ref C_InvalidText) = some false)
    (nu_InvalidNumber_InvalidPoints : PySem.W.kitOne K (.ref C_InvalidNumber) (.ref C_InvalidPoints) = some false)
    (nu_InvalidNumber_InvalidEntries : PySem.W.kitOne K (.ref C_InvalidNumber) (.ref C_InvalidEntries) = some false)
    (nu_InvalidNumber_InvalidRange : PySem.W.kitOne K (.ref C_InvalidNumber) (.ref C_InvalidRange) = some false)
    (nu_InvalidNumber_InvalidWay : PySem.W.kitOne K (.ref C_InvalidNumber) (.ref C_InvalidWay) = some false)
    (nu_InvalidNumber_InvalidKind : PySem.W.kitOne K (.ref C_InvalidNumber) (.ref C_InvalidKind) = some false)
    (nu_InvalidNumber_InvalidScripts : PySem.W.kitOne K (.ref C_InvalidNumber) (.ref C_InvalidScripts) = some false)
    (nu_InvalidNumber_InvalidTurns : PySem.W.kitOne K (.ref C_InvalidNumber) (.ref C_InvalidTurns) = some false)
    (nu_InvalidNumber_InvalidLog : PySem.W.kitOne K (.ref C_InvalidNumber) (.ref C_InvalidLog) = some false)
    (nu_InvalidNumber_InvalidOrder : PySem.W.kitOne K (.ref C_InvalidNumber) (.ref C_InvalidOrder) = some false)
    (nu_InvalidNumber_UnknownTransaction : PySem.W.kitOne K (.ref C_InvalidNumber) (.ref C_UnknownTransaction) = some false)
    (nu_InvalidNumber_IsWaiting : PySem.W.kitOne K (.ref C_InvalidNumber) (.ref C_IsWaiting) = some false)
    (nu_InvalidNumber_NotWaiting : PySem.W.kitOne K (.ref C_InvalidNumber) (.ref C_NotWaiting) = some false)
    (nu_InvalidNumber_NotHeld : PySem.W.kitOne K (.ref C_InvalidNumber) (.ref C_NotHeld) = some false)
    (nu_InvalidNumber_TooMany : PySem.W.kitOne K (.ref C_InvalidNumber) (.ref C_TooMany) = some false)
    (nu_InvalidNumber_NothingToUndo : PySem.W.kitOne K (.ref C_InvalidNumber) (.ref C_NothingToUndo) = some false)
    (nu_InvalidNumber_Impossible : PySem.W.kitOne K (.ref C_InvalidNumber) (.ref C_Impossible) = some false)
    (nu_InvalidNumber_InvalidText : PySem.W.kitOne K (.ref C_InvalidNumber) (.ref C_InvalidText) = some false)
    (nu_InvalidWay_InvalidPoints : PySem.W.kitOne K (.ref C_InvalidWay) (.ref C_InvalidPoints) = some false)
    (nu_InvalidWay_InvalidEntries : PySem.W.kitOne K (.ref C_InvalidWay) (.ref C_InvalidEntries) = some false)
    (nu_InvalidWay_InvalidRange : PySem.W.kitOne K (.ref C_InvalidWay) (.ref C_InvalidRange) = some false)
    (nu_InvalidWay_InvalidNumber : PySem.W.kitOne K (.ref C_InvalidWay) (.ref C_InvalidNumber) = some false)
    (nu_InvalidWay_InvalidKind : PySem.W.kitOne K (.ref C_InvalidWay) (.ref C_InvalidKind) = some false)
    (nu_InvalidWay_InvalidScripts : PySem.W.kitOne K (.ref C_InvalidWay) (.ref C_InvalidScripts) = some false)
    (nu_InvalidWay_InvalidTurns : PySem.W.kitOne K (.ref C_InvalidWay) (.ref C_InvalidTurns) = some false)
    (nu_InvalidWay_InvalidLog : PySem.W.kitOne K (.ref C_InvalidWay) (.ref C_InvalidLog) = some false)
    (nu_InvalidWay_InvalidOrder : PySem.W.kitOne K (.ref C_InvalidWay) (.ref C_InvalidOrder) = some false)
    (nu_InvalidWay_UnknownTransaction : PySem.W.kitOne K (.ref C_InvalidWay) (.ref C_UnknownTransaction) = some false)
    (nu_InvalidWay_IsWaiting : PySem.W.kitOne K (.ref C_InvalidWay) (.ref C_IsWaiting) = some false)
    (nu_InvalidWay_NotWaiting : PySem.W.kitOne K (.ref C_InvalidWay) (.ref C_NotWaiting) = some false)
    (nu_InvalidWay_NotHeld : PySem.W.kitOne K (.ref C_InvalidWay) (.ref C_NotHeld) = some false)
    (nu_InvalidWay_TooMany : PySem.W.kitOne K (.ref C_InvalidWay) (.ref C_TooMany) = some false)
    (nu_InvalidWay_NothingToUndo : PySem.W.kitOne K (.ref C_InvalidWay) (.ref C_NothingToUndo) = some false)
    (nu_InvalidWay_Impossible : PySem.W.kitOne K (.ref C_InvalidWay) (.ref C_Impossible) = some false)
    (nu_InvalidWay_InvalidText : PySem.W.kitOne K (.ref C_InvalidWay) (.ref C_InvalidText) = some false)
    (nu_InvalidKind_InvalidPoints : PySem.W.kitOne K (.ref C_InvalidKind) (.ref C_InvalidPoints) = some false)
    (nu_InvalidKind_InvalidEntries : PySem.W.kitOne K (.ref C_InvalidKind) (.ref C_InvalidEntries) = some false)
    (nu_InvalidKind_InvalidRange : PySem.W.kitOne K (.ref C_InvalidKind) (.ref C_InvalidRange) = some false)
    (nu_InvalidKind_InvalidNumber : PySem.W.kitOne K (.ref C_InvalidKind) (.ref C_InvalidNumber) = some false)
    (nu_InvalidKind_InvalidWay : PySem.W.kitOne K (.ref C_InvalidKind) (.ref C_InvalidWay) = some false)
    (nu_InvalidKind_InvalidScripts : PySem.W.kitOne K (.ref C_InvalidKind) (.ref C_InvalidScripts) = some false)
    (nu_InvalidKind_InvalidTurns : PySem.W.kitOne K (.ref C_InvalidKind) (.ref C_InvalidTurns) = some false)
    (nu_InvalidKind_InvalidLog : PySem.W.kitOne K (.ref C_InvalidKind) (.ref C_InvalidLog) = some false)
    (nu_InvalidKind_InvalidOrder : PySem.W.kitOne K (.ref C_InvalidKind) (.ref C_InvalidOrder) = some false)
    (nu_InvalidKind_UnknownTransaction : PySem.W.kitOne K (.ref C_InvalidKind) (.ref C_UnknownTransaction) = some false)
    (nu_InvalidKind_IsWaiting : PySem.W.kitOne K (.ref C_InvalidKind) (.ref C_IsWaiting) = some false)
    (nu_InvalidKind_NotWaiting : PySem.W.kitOne K (.ref C_InvalidKind) (.ref C_NotWaiting) = some false)
    (nu_InvalidKind_NotHeld : PySem.W.kitOne K (.ref C_InvalidKind) (.ref C_NotHeld) = some false)
    (nu_InvalidKind_TooMany : PySem.W.kitOne K (.ref C_InvalidKind) (.ref C_TooMany) = some false)
    (nu_InvalidKind_NothingToUndo : PySem.W.kitOne K (.ref C_InvalidKind) (.ref C_NothingToUndo) = some false)
    (nu_InvalidKind_Impossible : PySem.W.kitOne K (.ref C_InvalidKind) (.ref C_Impossible) = some false)
    (nu_InvalidKind_InvalidText : PySem.W.kitOne K (.ref C_InvalidKind) (.ref C_InvalidText) = some false)
    (nu_InvalidScripts_InvalidPoints : PySem.W.kitOne K (.ref C_InvalidScripts) (.ref C_InvalidPoints) = some false)
    (nu_InvalidScripts_InvalidEntries : PySem.W.kitOne K (.ref C_InvalidScripts) (.ref C_InvalidEntries) = some false)
    (nu_InvalidScripts_InvalidRange : PySem.W.kitOne K (.ref C_InvalidScripts) (.ref C_InvalidRange) = some false)
    (nu_InvalidScripts_InvalidNumber : PySem.W.kitOne K (.ref C_InvalidScripts) (.ref C_InvalidNumber) = some false)
    (nu_InvalidScripts_InvalidWay : PySem.W.kitOne K (.ref C_InvalidScripts) (.ref C_InvalidWay) = some false)
    (nu_InvalidScripts_InvalidKind : PySem.W.kitOne K (.ref C_InvalidScripts) (.ref C_InvalidKind) = some false)
    (nu_InvalidScripts_InvalidTurns : PySem.W.kitOne K (.ref C_InvalidScripts) (.ref C_InvalidTurns) = some false)
    (nu_InvalidScripts_InvalidLog : PySem.W.kitOne K (.ref C_InvalidScripts) (.ref C_InvalidLog) = some false)
    (nu_InvalidScripts_InvalidOrder : PySem.W.kitOne K (.ref C_InvalidScripts) (.ref C_InvalidOrder) = some false)
    (nu_InvalidScripts_UnknownTransaction : PySem.W.kitOne K (.ref C_InvalidScripts) (.ref C_UnknownTransaction) = some false)
    (nu_InvalidScripts_IsWaiting : PySem.W.kitOne K (.ref C_InvalidScripts) (.ref C_IsWaiting) = some false)
    (nu_InvalidScripts_NotWaiting : PySem.W.kitOne K (.ref C_InvalidScripts) (.ref C_NotWaiting) = some false)
    (nu_InvalidScripts_NotHeld : PySem.W.kitOne K (.ref C_InvalidScripts) (.ref C_NotHeld) = some false)
    (nu_InvalidScripts_TooMany : PySem.W.kitOne K (.ref C_InvalidScripts) (.ref C_TooMany) = some false)
    (nu_InvalidScripts_NothingToUndo : PySem.W.kitOne K (.ref C_InvalidScripts) (.ref C_NothingToUndo) = some false)
    (nu_InvalidScripts_Impossible : PySem.W.kitOne K (.ref C_InvalidScripts) (.ref C_Impossible) = some false)
    (nu_InvalidScripts_InvalidText : PySem.W.kitOne K (.ref C_InvalidScripts) (.ref C_InvalidText) = some false)
    (nu_InvalidTurns_InvalidPoints : PySem.W.kitOne K (.ref C_InvalidTurns) (.ref C_InvalidPoints) = some false)
    (nu_InvalidTurns_InvalidEntries : PySem.W.kitOne K (.ref C_InvalidTurns) (.ref C_InvalidEntries) = some false)
    (nu_InvalidTurns_InvalidRange : PySem.W.kitOne K (.ref C_InvalidTurns) (.ref C_InvalidRange) = some false)
    (nu_InvalidTurns_InvalidNumber : PySem.W.kitOne K (.ref C_InvalidTurns) (.ref C_InvalidNumber) = some false)
    (nu_InvalidTurns_InvalidWay : PySem.W.kitOne K (.ref C_InvalidTurns) (.ref C_InvalidWay) = some false)
    (nu_InvalidTurns_InvalidKind : PySem.W.kitOne K (.ref C_InvalidTurns) (.ref C_InvalidKind) = some false)
    (nu_InvalidTurns_InvalidScripts : PySem.W.kitOne K (.ref C_InvalidTurns) (.ref C_InvalidScripts) = some false)
    (nu_InvalidTurns_InvalidLog : PySem.W.kitOne K (.ref C_InvalidTurns) (.ref C_InvalidLog) = some false)
    (nu_InvalidTurns_InvalidOrder : PySem.W.kitOne K (.ref C_InvalidTurns) (.ref C_InvalidOrder) = some false)
    (nu_InvalidTurns_UnknownTransaction : PySem.W.kitOne K (.ref C_InvalidTurns) (.ref C_UnknownTransaction) = some false)
    (nu_InvalidTurns_IsWaiting : PySem.W.kitOne K (.ref C_InvalidTurns) (.ref C_IsWaiting) = some false)
    (nu_InvalidTurns_NotWaiting : PySem.W.kitOne K (.ref C_InvalidTurns) (.ref C_NotWaiting) = some false)
    (nu_InvalidTurns_NotHeld : PySem.W.kitOne K (.ref C_InvalidTurns) (.ref C_NotHeld) = some false)
    (nu_InvalidTurns_TooMany : PySem.W.kitOne K (.ref C_InvalidTurns) (.ref C_TooMany) = some false)
    (nu_InvalidTurns_NothingToUndo : PySem.W.kitOne K (.ref C_InvalidTurns) (.ref C_NothingToUndo) = some false)
    (nu_InvalidTurns_Impossible : PySem.W.kitOne K (.ref C_InvalidTurns) (.ref C_Impossible) = some false)
    (nu_InvalidTurns_InvalidText : PySem.W.kitOne K (.ref C_InvalidTurns) (.ref C_InvalidText) = some false)
    (nu_InvalidLog_InvalidPoints : PySem.W.kitOne K (.ref C_InvalidLog) (.ref C_InvalidPoints) = some false)
    (nu_InvalidLog_InvalidEntries : PySem.W.kitOne K (.ref C_InvalidLog) (.ref C_InvalidEntries) = some false)
    (nu_InvalidLog_InvalidRange : PySem.W.kitOne K (.ref C_InvalidLog) (.ref C_InvalidRange) = some false)
    (nu_InvalidLog_InvalidNumber : PySem.W.kitOne K (.ref C_InvalidLog) (.ref C_InvalidNumber) = some false)
    (nu_InvalidLog_InvalidWay : PySem.W.kitOne K (.ref C_InvalidLog) (.ref C_InvalidWay) = some false)
    (nu_InvalidLog_InvalidKind : PySem.W.kitOne K (.ref C_InvalidLog) (.ref C_InvalidKind) = some false)
    (nu_InvalidLog_InvalidScripts : PySem.W.kitOne K (.ref C_InvalidLog) (.ref C_InvalidScripts) = some false)
    (nu_InvalidLog_InvalidTurns : PySem.W.kitOne K (.ref C_InvalidLog) (.ref C_InvalidTurns) = some false)
    (nu_InvalidLog_InvalidOrder : PySem.W.kitOne K (.ref C_InvalidLog) (.ref C_InvalidOrder) = some false)
    (nu_InvalidLog_UnknownTransaction : PySem.W.kitOne K (.ref C_InvalidLog) (.ref C_UnknownTransaction) = some false)
    (nu_InvalidLog_IsWaiting : PySem.W.kitOne K (.ref C_InvalidLog) (.ref C_IsWaiting) = some false)
    (nu_InvalidLog_NotWaiting : PySem.W.kitOne K (.ref C_InvalidLog) (.ref C_NotWaiting) = some false)
    (nu_InvalidLog_NotHeld : PySem.W.kitOne K (.ref C_InvalidLog) (.ref C_NotHeld) = some false)
    (nu_InvalidLog_TooMany : PySem.W.kitOne K (.ref C_InvalidLog) (.ref C_TooMany) = some false)
    (nu_InvalidLog_NothingToUndo : PySem.W.kitOne K (.ref C_InvalidLog) (.ref C_NothingToUndo) = some false)
    (nu_InvalidLog_Impossible : PySem.W.kitOne K (.ref C_InvalidLog) (.ref C_Impossible) = some false)
    (nu_InvalidLog_InvalidText : PySem.W.kitOne K (.ref C_InvalidLog) (.ref C_InvalidText) = some false)
    (nu_InvalidOrder_InvalidPoints : PySem.W.kitOne K (.ref C_InvalidOrder) (.ref C_InvalidPoints) = some false)
    (nu_InvalidOrder_InvalidEntries : PySem.W.kitOne K (.ref C_InvalidOrder) (.ref C_InvalidEntries) = some false)
    (nu_InvalidOrder_InvalidRange : PySem.W.kitOne K (.ref C_InvalidOrder) (.ref C_InvalidRange) = some false)
    (nu_InvalidOrder_InvalidNumber : PySem.W.kitOne K (.ref C_InvalidOrder) (.ref C_InvalidNumber) = some false)
    (nu_InvalidOrder_InvalidWay : PySem.W.kitOne K (.ref C_InvalidOrder) (.ref C_InvalidWay) = some false)
    (nu_InvalidOrder_InvalidKind : PySem.W.kitOne K (.ref C_InvalidOrder) (.ref C_InvalidKind) = some false)
    (nu_InvalidOrder_InvalidScripts : PySem.W.kitOne K (.ref C_InvalidOrder) (.ref C_InvalidScripts) = some false)
    (nu_InvalidOrder_InvalidTurns : PySem.W.kitOne K (.ref C_InvalidOrder) (.ref C_InvalidTurns) = some false)
    (nu_InvalidOrder_InvalidLog : PySem.W.kitOne K (.ref C_InvalidOrder) (.ref C_InvalidLog) = some false)
    (nu_InvalidOrder_UnknownTransaction : PySem.W.kitOne K (.ref C_InvalidOrder) (.ref C_UnknownTransaction) = some false)
    (nu_InvalidOrder_IsWaiting : PySem.W.kitOne K (.ref C_InvalidOrder) (.ref C_IsWaiting) = some false)
    (nu_InvalidOrder_NotWaiting : PySem.W.kitOne K (.ref C_InvalidOrder) (.ref C_NotWaiting) = some false)
    (nu_InvalidOrder_NotHeld : PySem.W.kitOne K (.ref C_InvalidOrder) (.ref C_NotHeld) = some false)
    (nu_InvalidOrder_TooMany : PySem.W.kitOne K (.ref C_InvalidOrder) (.ref C_TooMany) = some false)
    (nu_InvalidOrder_NothingToUndo : PySem.W.kitOne K (.ref C_InvalidOrder) (.ref C_NothingToUndo) = some false)
    (nu_InvalidOrder_Impossible : PySem.W.kitOne K (.ref C_InvalidOrder) (.ref C_Impossible) = some false)
    (nu_InvalidOrder_InvalidText : PySem.W.kitOne K (.ref C_InvalidOrder) (.ref C_InvalidText) = some false)
    (nu_UnknownTransaction_InvalidPoints : PySem.W.kitOne K (.ref C_UnknownTransaction) (.ref C_InvalidPoints) = some false)
    (nu_UnknownTransaction_InvalidEntries : PySem.W.kitOne K (.ref C_UnknownTransaction) (.ref C_InvalidEntries) = some false)
    (nu_UnknownTransaction_InvalidRange : PySem.W.kitOne K (.ref C_UnknownTransaction) (.ref C_InvalidRange) = some false)
    (nu_UnknownTransaction_InvalidNumber : PySem.W.kitOne K (.ref C_UnknownTransaction) (.ref C_InvalidNumber) = some false)
    (nu_UnknownTransaction_InvalidWay : PySem.W.kitOne K (.ref C_UnknownTransaction) (.ref C_InvalidWay) = some false)
    (nu_UnknownTransaction_InvalidKind : PySem.W.kitOne K (.ref C_UnknownTransaction) (.ref C_InvalidKind) = some false)
    (nu_UnknownTransaction_InvalidScripts : PySem.W.kitOne K (.ref C_UnknownTransaction) (.ref C_InvalidScripts) = some false)
    (nu_UnknownTransaction_InvalidTurns : PySem.W.kitOne K (.ref C_UnknownTransaction) (.ref C_InvalidTurns) = some false)
    (nu_UnknownTransaction_InvalidLog : PySem.W.kitOne K (.ref C_UnknownTransaction) (.ref C_InvalidLog) = some false)
    (nu_UnknownTransaction_InvalidOrder : PySem.W.kitOne K (.ref C_UnknownTransaction) (.ref C_InvalidOrder) = some false)
    (nu_UnknownTransaction_IsWaiting : PySem.W.kitOne K (.ref C_UnknownTransaction) (.ref C_IsWaiting) = some false)
    (nu_UnknownTransaction_NotWaiting : PySem.W.kitOne K (.ref C_UnknownTransaction) (.ref C_NotWaiting) = some false)
    (nu_UnknownTransaction_NotHeld : PySem.W.kitOne K (.ref C_UnknownTransaction) (.ref C_NotHeld) = some false)
    (nu_UnknownTransaction_TooMany : PySem.W.kitOne K (.ref C_UnknownTransaction) (.ref C_TooMany) = some false)
    (nu_UnknownTransaction_NothingToUndo : PySem.W.kitOne K (.ref C_UnknownTransaction) (.ref C_NothingToUndo) = some false)
    (nu_UnknownTransaction_Impossible : PySem.W.kitOne K (.ref C_UnknownTransaction) (.ref C_Impossible) = some false)
    (nu_UnknownTransaction_InvalidText : PySem.W.kitOne K (.ref C_UnknownTransaction) (.ref C_InvalidText) = some false)
    (nu_IsWaiting_InvalidPoints : PySem.W.kitOne K (.ref C_IsWaiting) (.ref C_InvalidPoints) = some false)
    (nu_IsWaiting_InvalidEntries : PySem.W.kitOne K (.ref C_IsWaiting) (.ref C_InvalidEntries) = some false)
    (nu_IsWaiting_InvalidRange : PySem.W.kitOne K (.ref C_IsWaiting) (.ref C_InvalidRange) = some false)
    (nu_IsWaiting_InvalidNumber : PySem.W.kitOne K (.ref C_IsWaiting) (.ref C_InvalidNumber) = some false)
    (nu_IsWaiting_InvalidWay : PySem.W.kitOne K (.ref C_IsWaiting) (.ref C_InvalidWay) = some false)
    (nu_IsWaiting_InvalidKind : PySem.W.kitOne K (.ref C_IsWaiting) (.ref C_InvalidKind) = some false)
    (nu_IsWaiting_InvalidScripts : PySem.W.kitOne K (.ref C_IsWaiting) (.ref C_InvalidScripts) = some false)
    (nu_IsWaiting_InvalidTurns : PySem.W.kitOne K (.ref C_IsWaiting) (.ref C_InvalidTurns) = some false)
    (nu_IsWaiting_InvalidLog : PySem.W.kitOne K (.ref C_IsWaiting) (.ref C_InvalidLog) = some false)
    (nu_IsWaiting_InvalidOrder : PySem.W.kitOne K (.ref C_IsWaiting) (.ref C_InvalidOrder) = some false)
    (nu_IsWaiting_UnknownTransaction : PySem.W.kitOne K (.ref C_IsWaiting) (.ref C_UnknownTransaction) = some false)
    (nu_IsWaiting_NotWaiting : PySem.W.kitOne K (.ref C_IsWaiting) (.ref C_NotWaiting) = some false)
    (nu_IsWaiting_NotHeld : PySem.W.kitOne K (.ref C_IsWaiting) (.ref C_NotHeld) = some false)
    (nu_IsWaiting_TooMany : PySem.W.kitOne K (.ref C_IsWaiting) (.ref C_TooMany) = some false)
    (nu_IsWaiting_NothingToUndo : PySem.W.kitOne K (.ref C_IsWaiting) (.ref C_NothingToUndo) = some false)
    (nu_IsWaiting_Impossible : PySem.W.kitOne K (.ref C_IsWaiting) (.ref C_Impossible) = some false)
    (nu_IsWaiting_InvalidText : PySem.W.kitOne K (.ref C_IsWaiting) (.ref C_InvalidText) = some false)
    (nu_NotWaiting_InvalidPoints : PySem.W.kitOne K (.ref C_NotWaiting) (.ref C_InvalidPoints) = some false)
    (nu_NotWaiting_InvalidEntries : PySem.W.kitOne K (.ref C_NotWaiting) (.ref C_InvalidEntries) = some false)
    (nu_NotWaiting_InvalidRange : PySem.W.kitOne K (.ref C_NotWaiting) (.ref C_InvalidRange) = some false)
    (nu_NotWaiting_InvalidNumber : PySem.W.kitOne K (.ref C_NotWaiting) (.ref C_InvalidNumber) = some false)
    (nu_NotWaiting_InvalidWay : PySem.W.kitOne K (.ref C_NotWaiting) (.ref C_InvalidWay) = some false)
    (nu_NotWaiting_InvalidKind : PySem.W.kitOne K (.ref C_NotWaiting) (.ref C_InvalidKind) = some false)
    (nu_NotWaiting_InvalidScripts : PySem.W.kitOne K (.ref C_NotWaiting) (.ref C_InvalidScripts) = some false)
    (nu_NotWaiting_InvalidTurns : PySem.W.kitOne K (.ref C_NotWaiting) (.ref C_InvalidTurns) = some false)
    (nu_NotWaiting_InvalidLog : PySem.W.kitOne K (.ref C_NotWaiting) (.ref C_InvalidLog) = some false)
    (nu_NotWaiting_InvalidOrder : PySem.W.kitOne K (.ref C_NotWaiting) (.ref C_InvalidOrder) = some false)
    (nu_NotWaiting_UnknownTransaction : PySem.W.kitOne K (.ref C_NotWaiting) (.ref C_UnknownTransaction) = some false)
    (nu_NotWaiting_IsWaiting : PySem.W.kitOne K (.ref C_NotWaiting) (.ref C_IsWaiting) = some false)
    (nu_NotWaiting_NotHeld : PySem.W.kitOne K (.ref C_NotWaiting) (.ref C_NotHeld) = some false)
    (nu_NotWaiting_TooMany : PySem.W.kitOne K (.ref C_NotWaiting) (.ref C_TooMany) = some false)
    (nu_NotWaiting_NothingToUndo : PySem.W.kitOne K (.ref C_NotWaiting) (.ref C_NothingToUndo) = some false)
    (nu_NotWaiting_Impossible : PySem.W.kitOne K (.ref C_NotWaiting) (.ref C_Impossible) = some false)
    (nu_NotWaiting_InvalidText : PySem.W.kitOne K (.ref C_NotWaiting) (.ref C_InvalidText) = some false)
    (nu_NotHeld_InvalidPoints : PySem.W.kitOne K (.ref C_NotHeld) (.ref C_InvalidPoints) = some false)
    (nu_NotHeld_InvalidEntries : PySem.W.kitOne K (.ref C_NotHeld) (.ref C_InvalidEntries) = some false)
    (nu_NotHeld_InvalidRange : PySem.W.kitOne K (.ref C_NotHeld) (.ref C_InvalidRange) = some false)
    (nu_NotHeld_InvalidNumber : PySem.W.kitOne K (.ref C_NotHeld) (.ref C_InvalidNumber) = some false)
    (nu_NotHeld_InvalidWay : PySem.W.kitOne K (.ref C_NotHeld) (.ref C_InvalidWay) = some false)
    (nu_NotHeld_InvalidKind : PySem.W.kitOne K (.ref C_NotHeld) (.ref C_InvalidKind) = some false)
    (nu_NotHeld_InvalidScripts : PySem.W.kitOne K (.ref C_NotHeld) (.ref C_InvalidScripts) = some false)
    (nu_NotHeld_InvalidTurns : PySem.W.kitOne K (.ref C_NotHeld) (.ref C_InvalidTurns) = some false)
    (nu_NotHeld_InvalidLog : PySem.W.kitOne K (.ref C_NotHeld) (.ref C_InvalidLog) = some false)
    (nu_NotHeld_InvalidOrder : PySem.W.kitOne K (.ref C_NotHeld) (.ref C_InvalidOrder) = some false)
    (nu_NotHeld_UnknownTransaction : PySem.W.kitOne K (.ref C_NotHeld) (.ref C_UnknownTransaction) = some false)
    (nu_NotHeld_IsWaiting : PySem.W.kitOne K (.ref C_NotHeld) (.ref C_IsWaiting) = some false)
    (nu_NotHeld_NotWaiting : PySem.W.kitOne K (.ref C_NotHeld) (.ref C_NotWaiting) = some false)
    (nu_NotHeld_TooMany : PySem.W.kitOne K (.ref C_NotHeld) (.ref C_TooMany) = some false)
    (nu_NotHeld_NothingToUndo : PySem.W.kitOne K (.ref C_NotHeld) (.ref C_NothingToUndo) = some false)
    (nu_NotHeld_Impossible : PySem.W.kitOne K (.ref C_NotHeld) (.ref C_Impossible) = some false)
    (nu_NotHeld_InvalidText : PySem.W.kitOne K (.ref C_NotHeld) (.ref C_InvalidText) = some false)
    (nu_TooMany_InvalidPoints : PySem.W.kitOne K (.ref C_TooMany) (.ref C_InvalidPoints) = some false)
    (nu_TooMany_InvalidEntries : PySem.W.kitOne K (.ref C_TooMany) (.ref C_InvalidEntries) = some false)
    (nu_TooMany_InvalidRange : PySem.W.kitOne K (.ref C_TooMany) (.ref C_InvalidRange) = some false)
    (nu_TooMany_InvalidNumber : PySem.W.kitOne K (.ref C_TooMany) (.ref C_InvalidNumber) = some false)
    (nu_TooMany_InvalidWay : PySem.W.kitOne K (.ref C_TooMany) (.ref C_InvalidWay) = some false)
    (nu_TooMany_InvalidKind : PySem.W.kitOne K (.ref C_TooMany) (.ref C_InvalidKind) = some false)
    (nu_TooMany_InvalidScripts : PySem.W.kitOne K (.ref C_TooMany) (.ref C_InvalidScripts) = some false)
    (nu_TooMany_InvalidTurns : PySem.W.kitOne K (.ref C_TooMany) (.ref C_InvalidTurns) = some false)
    (nu_TooMany_InvalidLog : PySem.W.kitOne K (.ref C_TooMany) (.ref C_InvalidLog) = some false)
    (nu_TooMany_InvalidOrder : PySem.W.kitOne K (.ref C_TooMany) (.ref C_InvalidOrder) = some false)
    (nu_TooMany_UnknownTransaction : PySem.W.kitOne K (.ref C_TooMany) (.ref C_UnknownTransaction) = some false)
    (nu_TooMany_IsWaiting : PySem.W.kitOne K (.ref C_TooMany) (.ref C_IsWaiting) = some false)
    (nu_TooMany_NotWaiting : PySem.W.kitOne K (.ref C_TooMany) (.ref C_NotWaiting) = some false)
    (nu_TooMany_NotHeld : PySem.W.kitOne K (.ref C_TooMany) (.ref C_NotHeld) = some false)
    (nu_TooMany_NothingToUndo : PySem.W.kitOne K (.ref C_TooMany) (.ref C_NothingToUndo) = some false)
    (nu_TooMany_Impossible : PySem.W.kitOne K (.ref C_TooMany) (.ref C_Impossible) = some false)
    (nu_TooMany_InvalidText : PySem.W.kitOne K (.ref C_TooMany) (.ref C_InvalidText) = some false)
    (nu_NothingToUndo_InvalidPoints : PySem.W.kitOne K (.ref C_NothingToUndo) (.ref C_InvalidPoints) = some false)
    (nu_NothingToUndo_InvalidEntries : PySem.W.kitOne K (.ref C_NothingToUndo) (.ref C_InvalidEntries) = some false)
    (nu_NothingToUndo_InvalidRange : PySem.W.kitOne K (.ref C_NothingToUndo) (.ref C_InvalidRange) = some false)
    (nu_NothingToUndo_InvalidNumber : PySem.W.kitOne K (.ref C_NothingToUndo) (.ref C_InvalidNumber) = some false)
    (nu_NothingToUndo_InvalidWay : PySem.W.kitOne K (.ref C_NothingToUndo) (.ref C_InvalidWay) = some false)
    (nu_NothingToUndo_InvalidKind : PySem.W.kitOne K (.ref C_NothingToUndo) (.ref C_InvalidKind) = some false)
    (nu_NothingToUndo_InvalidScripts : PySem.W.kitOne K (.ref C_NothingToUndo) (.ref C_InvalidScripts) = some false)
    (nu_NothingToUndo_InvalidTurns : PySem.W.kitOne K (.ref C_NothingToUndo) (.ref C_InvalidTurns) = some false)
    (nu_NothingToUndo_InvalidLog : PySem.W.kitOne K (.ref C_NothingToUndo) (.ref C_InvalidLog) = some false)
    (nu_NothingToUndo_InvalidOrder : PySem.W.kitOne K (.ref C_NothingToUndo) (.ref C_InvalidOrder) = some false)
    (nu_NothingToUndo_UnknownTransaction : PySem.W.kitOne K (.ref C_NothingToUndo) (.ref C_UnknownTransaction) = some false)
    (nu_NothingToUndo_IsWaiting : PySem.W.kitOne K (.ref C_NothingToUndo) (.ref C_IsWaiting) = some false)
    (nu_NothingToUndo_NotWaiting : PySem.W.kitOne K (.ref C_NothingToUndo) (.ref C_NotWaiting) = some false)
    (nu_NothingToUndo_NotHeld : PySem.W.kitOne K (.ref C_NothingToUndo) (.ref C_NotHeld) = some false)
    (nu_NothingToUndo_TooMany : PySem.W.kitOne K (.ref C_NothingToUndo) (.ref C_TooMany) = some false)
    (nu_NothingToUndo_Impossible : PySem.W.kitOne K (.ref C_NothingToUndo) (.ref C_Impossible) = some false)
    (nu_NothingToUndo_InvalidText : PySem.W.kitOne K (.ref C_NothingToUndo) (.ref C_InvalidText) = some false)
    (nu_Impossible_InvalidPoints : PySem.W.kitOne K (.ref C_Impossible) (.ref C_InvalidPoints) = some false)
    (nu_Impossible_InvalidEntries : PySem.W.kitOne K (.ref C_Impossible) (.ref C_InvalidEntries) = some false)
    (nu_Impossible_InvalidRange : PySem.W.kitOne K (.ref C_Impossible) (.ref C_InvalidRange) = some false)
    (nu_Impossible_InvalidNumber : PySem.W.kitOne K (.ref C_Impossible) (.ref C_InvalidNumber) = some false)
    (nu_Impossible_InvalidWay : PySem.W.kitOne K (.ref C_Impossible) (.ref C_InvalidWay) = some false)
    (nu_Impossible_InvalidKind : PySem.W.kitOne K (.ref C_Impossible) (.ref C_InvalidKind) = some false)
    (nu_Impossible_InvalidScripts : PySem.W.kitOne K (.ref C_Impossible) (.ref C_InvalidScripts) = some false)
    (nu_Impossible_InvalidTurns : PySem.W.kitOne K (.ref C_Impossible) (.ref C_InvalidTurns) = some false)
    (nu_Impossible_InvalidLog : PySem.W.kitOne K (.ref C_Impossible) (.ref C_InvalidLog) = some false)
    (nu_Impossible_InvalidOrder : PySem.W.kitOne K (.ref C_Impossible) (.ref C_InvalidOrder) = some false)
    (nu_Impossible_UnknownTransaction : PySem.W.kitOne K (.ref C_Impossible) (.ref C_UnknownTransaction) = some false)
    (nu_Impossible_IsWaiting : PySem.W.kitOne K (.ref C_Impossible) (.ref C_IsWaiting) = some false)
    (nu_Impossible_NotWaiting : PySem.W.kitOne K (.ref C_Impossible) (.ref C_NotWaiting) = some false)
    (nu_Impossible_NotHeld : PySem.W.kitOne K (.ref C_Impossible) (.ref C_NotHeld) = some false)
    (nu_Impossible_TooMany : PySem.W.kitOne K (.ref C_Impossible) (.ref C_TooMany) = some false)
    (nu_Impossible_NothingToUndo : PySem.W.kitOne K (.ref C_Impossible) (.ref C_NothingToUndo) = some false)
    (nu_Impossible_InvalidText : PySem.W.kitOne K (.ref C_Impossible) (.ref C_InvalidText) = some false)
    (nu_InvalidText_InvalidPoints : PySem.W.kitOne K (.ref C_InvalidText) (.ref C_InvalidPoints) = some false)
    (nu_InvalidText_InvalidEntries : PySem.W.kitOne K (.ref C_InvalidText) (.ref C_InvalidEntries) = some false)
    (nu_InvalidText_InvalidRange : PySem.W.kitOne K (.ref C_InvalidText) (.ref C_InvalidRange) = some false)
    (nu_InvalidText_InvalidNumber : PySem.W.kitOne K (.ref C_InvalidText) (.ref C_InvalidNumber) = some false)
    (nu_InvalidText_InvalidWay : PySem.W.kitOne K (.ref C_InvalidText) (.ref C_InvalidWay) = some false)
    (nu_InvalidText_InvalidKind : PySem.W.kitOne K (.ref C_InvalidText) (.ref C_InvalidKind) = some false)
    (nu_InvalidText_InvalidScripts : PySem.W.kitOne K (.ref C_InvalidText) (.ref C_InvalidScripts) = some false)
    (nu_InvalidText_InvalidTurns : PySem.W.kitOne K (.ref C_InvalidText) (.ref C_InvalidTurns) = some false)
    (nu_InvalidText_InvalidLog : PySem.W.kitOne K (.ref C_InvalidText) (.ref C_InvalidLog) = some false)
    (nu_InvalidText_InvalidOrder : PySem.W.kitOne K (.ref C_InvalidText) (.ref C_InvalidOrder) = some false)
    (nu_InvalidText_UnknownTransaction : PySem.W.kitOne K (.ref C_InvalidText) (.ref C_UnknownTransaction) = some false)
    (nu_InvalidText_IsWaiting : PySem.W.kitOne K (.ref C_InvalidText) (.ref C_IsWaiting) = some false)
    (nu_InvalidText_NotWaiting : PySem.W.kitOne K (.ref C_InvalidText) (.ref C_NotWaiting) = some false)
    (nu_InvalidText_NotHeld : PySem.W.kitOne K (.ref C_InvalidText) (.ref C_NotHeld) = some false)
    (nu_InvalidText_TooMany : PySem.W.kitOne K (.ref C_InvalidText) (.ref C_TooMany) = some false)
    (nu_InvalidText_NothingToUndo : PySem.W.kitOne K (.ref C_InvalidText) (.ref C_NothingToUndo) = some false)
    (nu_InvalidText_Impossible : PySem.W.kitOne K (.ref C_InvalidText) (.ref C_Impossible) = some false)
    (nu_LockError_InvalidPoints : PySem.W.kitOne K (.ref C_LockError) (.ref C_InvalidPoints) = some false)
    (nu_LockError_InvalidEntries : PySem.W.kitOne K (.ref C_LockError) (.ref C_InvalidEntries) = some false)
    (nu_LockError_InvalidRange : PySem.W.kitOne K (.ref C_LockError) (.ref C_InvalidRange) = some false)
    (nu_LockError_InvalidNumber : PySem.W.kitOne K (.ref C_LockError) (.ref C_InvalidNumber) = some false)
    (nu_LockError_InvalidWay : PySem.W.kitOne K (.ref C_LockError) (.ref C_InvalidWay) = some false)
    (nu_LockError_InvalidKind : PySem.W.kitOne K (.ref C_LockError) (.ref C_InvalidKind) = some false)
    (nu_LockError_InvalidScripts : PySem.W.kitOne K (.ref C_LockError) (.ref C_InvalidScripts) = some false)
    (nu_LockError_InvalidTurns : PySem.W.kitOne K (.ref C_LockError) (.ref C_InvalidTurns) = some false)
    (nu_LockError_InvalidLog : PySem.W.kitOne K (.ref C_LockError) (.ref C_InvalidLog) = some false)
    (nu_LockError_InvalidOrder : PySem.W.kitOne K (.ref C_LockError) (.ref C_InvalidOrder) = some false)
    (nu_LockError_UnknownTransaction : PySem.W.kitOne K (.ref C_LockError) (.ref C_UnknownTransaction) = some false)
    (nu_LockError_IsWaiting : PySem.W.kitOne K (.ref C_LockError) (.ref C_IsWaiting) = some false)
    (nu_LockError_NotWaiting : PySem.W.kitOne K (.ref C_LockError) (.ref C_NotWaiting) = some false)
    (nu_LockError_NotHeld : PySem.W.kitOne K (.ref C_LockError) (.ref C_NotHeld) = some false)
    (nu_LockError_TooMany : PySem.W.kitOne K (.ref C_LockError) (.ref C_TooMany) = some false)
    (nu_LockError_NothingToUndo : PySem.W.kitOne K (.ref C_LockError) (.ref C_NothingToUndo) = some false)
    (nu_LockError_Impossible : PySem.W.kitOne K (.ref C_LockError) (.ref C_Impossible) = some false)
    (nu_LockError_InvalidText : PySem.W.kitOne K (.ref C_LockError) (.ref C_InvalidText) = some false)
    (kit_InvalidPoints_ValueError : PySem.W.kitOne K (.ref C_InvalidPoints) (.type "ValueError") = some true)
    (kit_InvalidEntries_ValueError : PySem.W.kitOne K (.ref C_InvalidEntries) (.type "ValueError") = some true)
    (kit_InvalidRange_ValueError : PySem.W.kitOne K (.ref C_InvalidRange) (.type "ValueError") = some true)
    (kit_InvalidNumber_ValueError : PySem.W.kitOne K (.ref C_InvalidNumber) (.type "ValueError") = some true)
    (kit_InvalidWay_ValueError : PySem.W.kitOne K (.ref C_InvalidWay) (.type "ValueError") = some true)
    (kit_InvalidKind_ValueError : PySem.W.kitOne K (.ref C_InvalidKind) (.type "ValueError") = some true)
    (kit_InvalidScripts_ValueError : PySem.W.kitOne K (.ref C_InvalidScripts) (.type "ValueError") = some true)
    (kit_InvalidTurns_ValueError : PySem.W.kitOne K (.ref C_InvalidTurns) (.type "ValueError") = some true)
    (kit_InvalidLog_ValueError : PySem.W.kitOne K (.ref C_InvalidLog) (.type "ValueError") = some true)
    (kit_InvalidOrder_ValueError : PySem.W.kitOne K (.ref C_InvalidOrder) (.type "ValueError") = some true)
    (kit_UnknownTransaction_ValueError : PySem.W.kitOne K (.ref C_UnknownTransaction) (.type "ValueError") = some true)
    (kit_IsWaiting_ValueError : PySem.W.kitOne K (.ref C_IsWaiting) (.type "ValueError") = some true)
    (kit_NotWaiting_ValueError : PySem.W.kitOne K (.ref C_NotWaiting) (.type "ValueError") = some true)
    (kit_NotHeld_ValueError : PySem.W.kitOne K (.ref C_NotHeld) (.type "ValueError") = some true)
    (kit_TooMany_ValueError : PySem.W.kitOne K (.ref C_TooMany) (.type "ValueError") = some true)
    (kit_NothingToUndo_ValueError : PySem.W.kitOne K (.ref C_NothingToUndo) (.type "ValueError") = some true)
    (kit_Impossible_ValueError : PySem.W.kitOne K (.ref C_Impossible) (.type "ValueError") = some true)
    (kit_InvalidText_ValueError : PySem.W.kitOne K (.ref C_InvalidText) (.type "ValueError") = some true)
    (z_len : PySem.W.nsIn K mainGlobals "len" = some none)
    (z_abs : PySem.W.nsIn K mainGlobals "abs" = some none)
    (z_max : PySem.W.nsIn K mainGlobals "max" = some none)
    (z_min : PySem.W.nsIn K mainGlobals "min" = some none)
    (z_range : PySem.W.nsIn K mainGlobals "range" = some none)
    (z_sorted : PySem.W.nsIn K mainGlobals "sorted" = some none)
    (z_set : PySem.W.nsIn K mainGlobals "set" = some none)
    (z_list : PySem.W.nsIn K mainGlobals "list" = some none)
    (z_tuple : PySem.W.nsIn K mainGlobals "tuple" = some none)
    (z_dict : PySem.W.nsIn K mainGlobals "dict" = some none)
    (z_int : PySem.W.nsIn K mainGlobals "int" = some none)
    (z_str : PySem.W.nsIn K mainGlobals "str" = some none)
    (z_bool : PySem.W.nsIn K mainGlobals "bool" = some none)
    (z_all : PySem.W.nsIn K mainGlobals "all" = some none)
    (z_any : PySem.W.nsIn K mainGlobals "any" = some none)
    (z_sum : PySem.W.nsIn K mainGlobals "sum" = some none)
    (z_isinstance : PySem.W.nsIn K mainGlobals "isinstance" = some none)
    (z_repr : PySem.W.nsIn K mainGlobals "repr" = some none)
    (z_zip : PySem.W.nsIn K mainGlobals "zip" = some none)
    (z_enumerate : PySem.W.nsIn K mainGlobals "enumerate" = some none)
    : ∃ fd : FuncData, (∀ (s : Shared) (v : Value), BindsTo s fd ⟨[v], []⟩ [("_law_script", v)]) ∧ ∀ base : Heap, K.In base → base.Ns mainGlobals mg → FnG l.prog w K mg base 3 fa fd ["_law_script"] (Gk.spLaw78 K) := by
  have e := hfa.symm.trans (PySem.W.mg_of X G a_law)
  cases e
  have F_law := fun_mk (st := s_law) l_law c_law k_law
  have B_law := F_law.binds (ps := ["_law_script"]) fun _ _ _ _ _ _ us hl => match us, hl with | [_], _ => rfl
  have F_bag := fun_mk (st := s_bag) l_bag c_bag k_bag
  have B_bag := F_bag.binds (ps := ["_law_script"]) fun _ _ _ _ _ _ us hl => match us, hl with | [_], _ => rfl
  have G_bag : mg "_law_bag" = some (.ref f_bag) := PySem.W.mg_of X G a_bag
  have D_bag : Dn K mg "_law_bag" s_bag ["_law_script"] f_bag _ := ⟨F_bag, G_bag, B_bag⟩
  have F_stirred := fun_mk (st := s_stirred) l_stirred c_stirred k_stirred
  have B_stirred := F_stirred.binds (ps := ["_law_bag_here", "_law_many"]) fun _ _ _ _ _ _ us hl => match us, hl with | [_, _], _ => rfl
  have G_stirred : mg "_law_stirred" = some (.ref f_stirred) := PySem.W.mg_of X G a_stirred
  have D_stirred : Dn K mg "_law_stirred" s_stirred ["_law_bag_here", "_law_many"] f_stirred _ := ⟨F_stirred, G_stirred, B_stirred⟩
  have F_draw := fun_mk (st := s_draw) l_draw c_draw k_draw
  have B_draw := F_draw.binds (ps := ["_law_bag_here", "_law_many"]) fun _ _ _ _ _ _ us hl => match us, hl with | [_, _], _ => rfl
  have G_draw : mg "_law_draw" = some (.ref f_draw) := PySem.W.mg_of X G a_draw
  have D_draw : Dn K mg "_law_draw" s_draw ["_law_bag_here", "_law_many"] f_draw _ := ⟨F_draw, G_draw, B_draw⟩
  have F_alike := fun_mk (st := s_alike) l_alike c_alike k_alike
  have B_alike := F_alike.binds (ps := ["_law_found", "_law_due"]) fun _ _ _ _ _ _ us hl => match us, hl with | [_, _], _ => rfl
  have G_alike : mg "_law_alike" = some (.ref f_alike) := PySem.W.mg_of X G a_alike
  have D_alike : Dn K mg "_law_alike" s_alike ["_law_found", "_law_due"] f_alike _ := ⟨F_alike, G_alike, B_alike⟩
  have F_of := fun_mk (st := s_of) l_of c_of k_of
  have B_of := F_of.binds (ps := ["_law_made"]) fun _ _ _ _ _ _ us hl => match us, hl with | [_], _ => rfl
  have G_of : mg "_law_of" = some (.ref f_of) := PySem.W.mg_of X G a_of
  have D_of : Dn K mg "_law_of" s_of ["_law_made"] f_of _ := ⟨F_of, G_of, B_of⟩
  have G_InvalidPoints : mg "InvalidPoints" = some (.ref C_InvalidPoints) := PySem.W.mg_of X G aC_InvalidPoints
  have O_InvalidPoints : OwnE K mg "InvalidPoints" C_InvalidPoints := ⟨G_InvalidPoints, xq_InvalidPoints, xk_InvalidPoints, xs_InvalidPoints, xt_InvalidPoints⟩
  have G_InvalidEntries : mg "InvalidEntries" = some (.ref C_InvalidEntries) := PySem.W.mg_of X G aC_InvalidEntries
  have O_InvalidEntries : OwnE K mg "InvalidEntries" C_InvalidEntries := ⟨G_InvalidEntries, xq_InvalidEntries, xk_InvalidEntries, xs_InvalidEntries, xt_InvalidEntries⟩
  have G_InvalidRange : mg "InvalidRange" = some (.ref C_InvalidRange) := PySem.W.mg_of X G aC_InvalidRange
  have O_InvalidRange : OwnE K mg "InvalidRange" C_InvalidRange := ⟨G_InvalidRange, xq_InvalidRange, xk_InvalidRange, xs_InvalidRange, xt_InvalidRange⟩
  have G_InvalidNumber : mg "InvalidNumber" = some (.ref C_InvalidNumber) := PySem.W.mg_of X G aC_InvalidNumber
  have O_InvalidNumber : OwnE K mg "InvalidNumber" C_InvalidNumber := ⟨G_InvalidNumber, xq_InvalidNumber, xk_InvalidNumber, xs_InvalidNumber, xt_InvalidNumber⟩
  have G_InvalidWay : mg "InvalidWay" = some (.ref C_InvalidWay) := PySem.W.mg_of X G aC_InvalidWay
  have O_InvalidWay : OwnE K mg "InvalidWay" C_InvalidWay := ⟨G_InvalidWay, xq_InvalidWay, xk_InvalidWay, xs_InvalidWay, xt_InvalidWay⟩
  have G_InvalidKind : mg "InvalidKind" = some (.ref C_InvalidKind) := PySem.W.mg_of X G aC_InvalidKind
  have O_InvalidKind : OwnE K mg "InvalidKind" C_InvalidKind := ⟨G_InvalidKind, xq_InvalidKind, xk_InvalidKind, xs_InvalidKind, xt_InvalidKind⟩
  have G_InvalidScripts : mg "InvalidScripts" = some (.ref C_InvalidScripts) := PySem.W.mg_of X G aC_InvalidScripts
  have O_InvalidScripts : OwnE K mg "InvalidScripts" C_InvalidScripts := ⟨G_InvalidScripts, xq_InvalidScripts, xk_InvalidScripts, xs_InvalidScripts, xt_InvalidScripts⟩
  have G_InvalidTurns : mg "InvalidTurns" = some (.ref C_InvalidTurns) := PySem.W.mg_of X G aC_InvalidTurns
  have O_InvalidTurns : OwnE K mg "InvalidTurns" C_InvalidTurns := ⟨G_InvalidTurns, xq_InvalidTurns, xk_InvalidTurns, xs_InvalidTurns, xt_InvalidTurns⟩
  have G_InvalidLog : mg "InvalidLog" = some (.ref C_InvalidLog) := PySem.W.mg_of X G aC_InvalidLog
  have O_InvalidLog : OwnE K mg "InvalidLog" C_InvalidLog := ⟨G_InvalidLog, xq_InvalidLog, xk_InvalidLog, xs_InvalidLog, xt_InvalidLog⟩
  have G_InvalidOrder : mg "InvalidOrder" = some (.ref C_InvalidOrder) := PySem.W.mg_of X G aC_InvalidOrder
  have O_InvalidOrder : OwnE K mg "InvalidOrder" C_InvalidOrder := ⟨G_InvalidOrder, xq_InvalidOrder, xk_InvalidOrder, xs_InvalidOrder, xt_InvalidOrder⟩
  have G_UnknownTransaction : mg "UnknownTransaction" = some (.ref C_UnknownTransaction) := PySem.W.mg_of X G aC_UnknownTransaction
  have O_UnknownTransaction : OwnE K mg "UnknownTransaction" C_UnknownTransaction := ⟨G_UnknownTransaction, xq_UnknownTransaction, xk_UnknownTransaction, xs_UnknownTransaction, xt_UnknownTransaction⟩
  have G_IsWaiting : mg "IsWaiting" = some (.ref C_IsWaiting) := PySem.W.mg_of X G aC_IsWaiting
  have O_IsWaiting : OwnE K mg "IsWaiting" C_IsWaiting := ⟨G_IsWaiting, xq_IsWaiting, xk_IsWaiting, xs_IsWaiting, xt_IsWaiting⟩
  have G_NotWaiting : mg "NotWaiting" = some (.ref C_NotWaiting) := PySem.W.mg_of X G aC_NotWaiting
  have O_NotWaiting : OwnE K mg "NotWaiting" C_NotWaiting := ⟨G_NotWaiting, xq_NotWaiting, xk_NotWaiting, xs_NotWaiting, xt_NotWaiting⟩
  have G_NotHeld : mg "NotHeld" = some (.ref C_NotHeld) := PySem.W.mg_of X G aC_NotHeld
  have O_NotHeld : OwnE K mg "NotHeld" C_NotHeld := ⟨G_NotHeld, xq_NotHeld, xk_NotHeld, xs_NotHeld, xt_NotHeld⟩
  have G_TooMany : mg "TooMany" = some (.ref C_TooMany) := PySem.W.mg_of X G aC_TooMany
  have O_TooMany : OwnE K mg "TooMany" C_TooMany := ⟨G_TooMany, xq_TooMany, xk_TooMany, xs_TooMany, xt_TooMany⟩
  have G_NothingToUndo : mg "NothingToUndo" = some (.ref C_NothingToUndo) := PySem.W.mg_of X G aC_NothingToUndo
  have O_NothingToUndo : OwnE K mg "NothingToUndo" C_NothingToUndo := ⟨G_NothingToUndo, xq_NothingToUndo, xk_NothingToUndo, xs_NothingToUndo, xt_NothingToUndo⟩
  have G_LockError : mg "LockError" = some (.ref C_LockError) := PySem.W.mg_of X G aC_LockError
  have O_LockError : OwnE K mg "LockError" C_LockError := ⟨G_LockError, xq_LockError, xk_LockError, xs_LockError, xt_LockError⟩
  have Z_ValueError : mg "ValueError" = none := PySem.W.mg_none_of X G z_ValueError
  have G_Impossible : mg "Impossible" = some (.ref C_Impossible) := PySem.W.mg_of X G aC_Impossible
  have G_InvalidText : mg "InvalidText" = some (.ref C_InvalidText) := PySem.W.mg_of X G aC_InvalidText
  have F_Impossible_init := fun_mk (st := s_Impossible_init) l_Impossible_init c_Impossible_init k_Impossible_init
  have B_Impossible_init := F_Impossible_init.binds (ps := ["self", "index"]) fun _ _ _ _ _ _ us hl => match us, hl with | [_, _], _ => rfl
  have F_InvalidText_init := fun_mk (st := s_InvalidText_init) l_InvalidText_init c_InvalidText_init k_InvalidText_init
  have B_InvalidText_init := F_InvalidText_init.binds (ps := ["self", "place"]) fun _ _ _ _ _ _ us hl => match us, hl with | [_, _], _ => rfl
  have EC_InvalidPoints : ErrC K C_InvalidPoints := ⟨qc_InvalidPoints, qg_InvalidPoints, qk_InvalidPoints, qs_InvalidPoints, qd_InvalidPoints, qa_InvalidPoints, cls_get, cls_take, qm_InvalidPoints⟩
  have EC_InvalidEntries : ErrC K C_InvalidEntries := ⟨qc_InvalidEntries, qg_InvalidEntries, qk_InvalidEntries, qs_InvalidEntries, qd_InvalidEntries, qa_InvalidEntries, cls_get, cls_take, qm_InvalidEntries⟩
  have EC_InvalidRange : ErrC K C_InvalidRange := ⟨qc_InvalidRange, qg_InvalidRange, qk_InvalidRange, qs_InvalidRange, qd_InvalidRange, qa_InvalidRange, cls_get, cls_take, qm_InvalidRange⟩
  have EC_InvalidNumber : ErrC K C_InvalidNumber := ⟨qc_InvalidNumber, qg_InvalidNumber, qk_InvalidNumber, qs_InvalidNumber, qd_InvalidNumber, qa_InvalidNumber, cls_get, cls_take, qm_InvalidNumber⟩
  have EC_InvalidWay : ErrC K C_InvalidWay := ⟨qc_InvalidWay, qg_InvalidWay, qk_InvalidWay, qs_InvalidWay, qd_InvalidWay, qa_InvalidWay, cls_get, cls_take, qm_InvalidWay⟩
  have EC_InvalidKind : ErrC K C_InvalidKind := ⟨qc_InvalidKind, qg_InvalidKind, qk_InvalidKind, qs_InvalidKind, qd_InvalidKind, qa_InvalidKind, cls_get, cls_take, qm_InvalidKind⟩
  have EC_InvalidScripts : ErrC K C_InvalidScripts := ⟨qc_InvalidScripts, qg_InvalidScripts, qk_InvalidScripts, qs_InvalidScripts, qd_InvalidScripts, qa_InvalidScripts, cls_get, cls_take, qm_InvalidScripts⟩
  have EC_InvalidTurns : ErrC K C_InvalidTurns := ⟨qc_InvalidTurns, qg_InvalidTurns, qk_InvalidTurns, qs_InvalidTurns, qd_InvalidTurns, qa_InvalidTurns, cls_get, cls_take, qm_InvalidTurns⟩
  have EC_InvalidLog : ErrC K C_InvalidLog := ⟨qc_InvalidLog, qg_InvalidLog, qk_InvalidLog, qs_InvalidLog, qd_InvalidLog, qa_InvalidLog, cls_get, cls_take, qm_InvalidLog⟩
  have EC_InvalidOrder : ErrC K C_InvalidOrder := ⟨qc_InvalidOrder, qg_InvalidOrder, qk_InvalidOrder, qs_InvalidOrder, qd_InvalidOrder, qa_InvalidOrder, cls_get, cls_take, qm_InvalidOrder⟩
  have EC_UnknownTransaction : ErrC K C_UnknownTransaction := ⟨qc_UnknownTransaction, qg_UnknownTransaction, qk_UnknownTransaction, qs_UnknownTransaction, qd_UnknownTransaction, qa_UnknownTransaction, cls_get, cls_take, qm_UnknownTransaction⟩
  have EC_IsWaiting : ErrC K C_IsWaiting := ⟨qc_IsWaiting, qg_IsWaiting, qk_IsWaiting, qs_IsWaiting, qd_IsWaiting, qa_IsWaiting, cls_get, cls_take, qm_IsWaiting⟩
  have EC_NotWaiting : ErrC K C_NotWaiting := ⟨qc_NotWaiting, qg_NotWaiting, qk_NotWaiting, qs_NotWaiting, qd_NotWaiting, qa_NotWaiting, cls_get, cls_take, qm_NotWaiting⟩
  have EC_NotHeld : ErrC K C_NotHeld := ⟨qc_NotHeld, qg_NotHeld, qk_NotHeld, qs_NotHeld, qd_NotHeld, qa_NotHeld, cls_get, cls_take, qm_NotHeld⟩
  have EC_TooMany : ErrC K C_TooMany := ⟨qc_TooMany, qg_TooMany, qk_TooMany, qs_TooMany, qd_TooMany, qa_TooMany, cls_get, cls_take, qm_TooMany⟩
  have EC_NothingToUndo : ErrC K C_NothingToUndo := ⟨qc_NothingToUndo, qg_NothingToUndo, qk_NothingToUndo, qs_NothingToUndo, qd_NothingToUndo, qa_NothingToUndo, cls_get, cls_take, qm_NothingToUndo⟩
  have EC_Impossible : ErrC K C_Impossible := ⟨qc_Impossible, qg_Impossible, qk_Impossible, qs_Impossible, qd_Impossible, qa_Impossible, cls_get, cls_take, qm_Impossible⟩
  have EC_InvalidText : ErrC K C_InvalidText := ⟨qc_InvalidText, qg_InvalidText, qk_InvalidText, qs_InvalidText, qd_InvalidText, qa_InvalidText, cls_get, cls_take, qm_InvalidText⟩
  have EC_LockError : ErrC K C_LockError := ⟨qc_LockError, qg_LockError, qk_LockError, qs_LockError, qd_LockError, qa_LockError, cls_get, cls_take, qm_LockError⟩
  have T : Bt mg := ⟨PySem.W.mg_none_of X G z_len, PySem.W.mg_none_of X G z_abs, PySem.W.mg_none_of X G z_max, PySem.W.mg_none_of X G z_min, PySem.W.mg_none_of X G z_range, PySem.W.mg_none_of X G z_sorted, PySem.W.mg_none_of X G z_set, PySem.W.mg_none_of X G z_list, PySem.W.mg_none_of X G z_tuple, PySem.W.mg_none_of X G z_dict, PySem.W.mg_none_of X G z_int, PySem.W.mg_none_of X G z_str, PySem.W.mg_none_of X G z_bool, PySem.W.mg_none_of X G z_all, PySem.W.mg_none_of X G z_any, PySem.W.mg_none_of X G z_sum, PySem.W.mg_none_of X G z_isinstance, PySem.W.mg_none_of X G z_repr, PySem.W.mg_none_of X G z_zip, PySem.W.mg_none_of X G z_enumerate⟩
  refine ⟨PySem.W.fnOf "law" "law" (defArgs s_law) (defBody s_law) (defScope s_law) .none kV_law dc_law pm_law an_law cd_law ct_law, fun s v => .of_eq rfl, fun base _ _ => ?_⟩
  let e : Nat → Addr := fun n => [C_InvalidPoints, C_InvalidEntries, C_InvalidRange, C_InvalidNumber, C_InvalidWay, C_InvalidKind, C_InvalidScripts, C_InvalidTurns, C_InvalidLog, C_InvalidOrder, C_UnknownTransaction, C_IsWaiting, C_NotWaiting, C_NotHeld, C_TooMany, C_NothingToUndo, C_Impossible, C_InvalidText, C_LockError].getD n 0
  have eg : ErrG78 mg e := ⟨G_InvalidPoints, G_InvalidEntries, G_InvalidRange, G_InvalidNumber, G_InvalidWay, G_InvalidKind, G_InvalidScripts, G_InvalidTurns, G_InvalidLog, G_InvalidOrder, G_UnknownTransaction, G_IsWaiting, G_NotWaiting, G_NotHeld, G_TooMany, G_NothingToUndo, G_Impossible, G_InvalidText, G_LockError, Z_ValueError⟩
  have k18 : ∀ {p : Nat → Prop}, p 0 → p 1 → p 2 → p 3 → p 4 → p 5 → p 6 → p 7 → p 8 → p 9 → p 10 → p 11 → p 12 → p 13 → p 14 → p 15 → p 16 → p 17 → ∀ k, k < 18 → p k := fun h0 h1 h2 h3 h4 h5 h6 h7 h8 h9 h10 h11 h12 h13 h14 h15 h16 h17 k hk => match k, hk with | 0, _ => h0 | 1, _ => h1 | 2, _ => h2 | 3, _ => h3 | 4, _ => h4 | 5, _ => h5 | 6, _ => h6 | 7, _ => h7 | 8, _ => h8 | 9, _ => h9 | 10, _ => h10 | 11, _ => h11 | 12, _ => h12 | 13, _ => h13 | 14, _ => h14 | 15, _ => h15 | 16, _ => h16 | 17, _ => h17 | (_ + 18), hk => absurd hk (by omega)
  have ask_InvalidPoints : AskK K e C_InvalidPoints (fun i => decide (i = 0)) := ⟨EC_InvalidPoints, k18 kit_self nu_InvalidPoints_InvalidEntries nu_InvalidPoints_InvalidRange nu_InvalidPoints_InvalidNumber nu_InvalidPoints_InvalidWay nu_InvalidPoints_InvalidKind nu_InvalidPoints_InvalidScripts nu_InvalidPoints_InvalidTurns nu_InvalidPoints_InvalidLog nu_InvalidPoints_InvalidOrder nu_InvalidPoints_UnknownTransaction nu_InvalidPoints_IsWaiting nu_InvalidPoints_NotWaiting nu_InvalidPoints_NotHeld nu_InvalidPoints_TooMany nu_InvalidPoints_NothingToUndo nu_InvalidPoints_Impossible nu_InvalidPoints_InvalidText⟩
  have ask_InvalidEntries : AskK K e C_InvalidEntries (fun i => decide (i = 1)) := ⟨EC_InvalidEntries, k18 nu_InvalidEntries_InvalidPoints kit_self nu_InvalidEntries_InvalidRange nu_InvalidEntries_InvalidNumber nu_InvalidEntries_InvalidWay nu_InvalidEntries_InvalidKind nu_InvalidEntries_InvalidScripts nu_InvalidEntries_InvalidTurns nu_InvalidEntries_InvalidLog nu_InvalidEntries_InvalidOrder nu_InvalidEntries_UnknownTransaction nu_InvalidEntries_IsWaiting nu_InvalidEntries_NotWaiting nu_InvalidEntries_NotHeld nu_InvalidEntries_TooMany nu_InvalidEntries_NothingToUndo nu_InvalidEntries_Impossible nu_InvalidEntries_InvalidText⟩
  have ask_InvalidRange : AskK K e C_InvalidRange (fun i => decide (i = 2)) := ⟨EC_InvalidRange, k18 nu_InvalidRange_InvalidPoints nu_InvalidRange_InvalidEntries kit_self nu_InvalidRange_InvalidNumber nu_InvalidRange_InvalidWay nu_InvalidRange_InvalidKind nu_InvalidRange_InvalidScripts nu_InvalidRange_InvalidTurns nu_InvalidRange_InvalidLog nu_InvalidRange_InvalidOrder nu_InvalidRange_UnknownTransaction nu_InvalidRange_IsWaiting nu_InvalidRange_NotWaiting nu_InvalidRange_NotHeld nu_InvalidRange_TooMany nu_InvalidRange_NothingToUndo nu_InvalidRange_Impossible nu_InvalidRange_InvalidText⟩
  have ask_InvalidNumber : AskK K e C_InvalidNumber (fun i => decide (i = 3)) := ⟨EC_InvalidNumber, k18 nu_InvalidNumber_InvalidPoints nu_InvalidNumber_InvalidEntries nu_InvalidNumber_InvalidRange kit_self nu_InvalidNumber_InvalidWay nu_InvalidNumber_InvalidKind nu_InvalidNumber_InvalidScripts nu_InvalidNumber_InvalidTurns nu_InvalidNumber_InvalidLog nu_InvalidNumber_InvalidOrder nu_InvalidNumber_UnknownTransaction nu_InvalidNumber_IsWaiting nu_InvalidNumber_NotWaiting nu_InvalidNumber_NotHeld nu_InvalidNumber_TooMany nu_InvalidNumber_NothingToUndo nu_InvalidNumber_Impossible nu_InvalidNumber_InvalidText⟩
  have ask_InvalidWay : AskK K e C_InvalidWay (fun i => decide (i = 4)) := ⟨EC_InvalidWay, k18 nu_InvalidWay_InvalidPoints nu_InvalidWay_InvalidEntries nu_InvalidWay_InvalidRange nu_InvalidWay_InvalidNumber kit_self nu_InvalidWay_InvalidKind nu_InvalidWay_InvalidScripts nu_InvalidWay_InvalidTurns nu_InvalidWay_InvalidLog nu_InvalidWay_InvalidOrder nu_InvalidWay_UnknownTransaction nu_InvalidWay_IsWaiting nu_InvalidWay_NotWaiting nu_InvalidWay_NotHeld nu_InvalidWay_TooMany nu_InvalidWay_NothingToUndo nu_InvalidWay_Impossible nu_InvalidWay_InvalidText⟩
  have ask_InvalidKind : AskK K e C_InvalidKind (fun i => decide (i = 5)) := ⟨EC_InvalidKind, k18 nu_InvalidKind_InvalidPoints nu_InvalidKind_InvalidEntries nu_InvalidKind_InvalidRange nu_InvalidKind_InvalidNumber nu_InvalidKind_InvalidWay kit_self nu_InvalidKind_InvalidScripts nu_InvalidKind_InvalidTurns nu_InvalidKind_InvalidLog nu_InvalidKind_InvalidOrder nu_InvalidKind_UnknownTransaction nu_InvalidKind_IsWaiting nu_InvalidKind_NotWaiting nu_InvalidKind_NotHeld nu_InvalidKind_TooMany nu_InvalidKind_NothingToUndo nu_InvalidKind_Impossible nu_InvalidKind_InvalidText⟩
  have ask_InvalidScripts : AskK K e C_InvalidScripts (fun i => decide (i = 6)) := ⟨EC_InvalidScripts, k18 nu_InvalidScripts_InvalidPoints nu_InvalidScripts_InvalidEntries nu_InvalidScripts_InvalidRange nu_InvalidScripts_InvalidNumber nu_InvalidScripts_InvalidWay nu_InvalidScripts_InvalidKind kit_self nu_InvalidScripts_InvalidTurns nu_InvalidScripts_InvalidLog nu_InvalidScripts_InvalidOrder nu_InvalidScripts_UnknownTransaction nu_InvalidScripts_IsWaiting nu_InvalidScripts_NotWaiting nu_InvalidScripts_NotHeld nu_InvalidScripts_TooMany nu_InvalidScripts_NothingToUndo nu_InvalidScripts_Impossible nu_InvalidScripts_InvalidText⟩
  have ask_InvalidTurns : AskK K e C_InvalidTurns (fun i => decide (i = 7)) := ⟨EC_InvalidTurns, k18 nu_InvalidTurns_InvalidPoints nu_InvalidTurns_InvalidEntries nu_InvalidTurns_InvalidRange nu_InvalidTurns_InvalidNumber nu_InvalidTurns_InvalidWay nu_InvalidTurns_InvalidKind nu_InvalidTurns_InvalidScripts kit_self nu_InvalidTurns_InvalidLog nu_InvalidTurns_InvalidOrder nu_InvalidTurns_UnknownTransaction nu_InvalidTurns_IsWaiting nu_InvalidTurns_NotWaiting nu_InvalidTurns_NotHeld nu_InvalidTurns_TooMany nu_InvalidTurns_NothingToUndo nu_InvalidTurns_Impossible nu_InvalidTurns_InvalidText⟩
  have ask_InvalidLog : AskK K e C_InvalidLog (fun i => decide (i = 8)) := ⟨EC_InvalidLog, k18 nu_InvalidLog_InvalidPoints nu_InvalidLog_InvalidEntries nu_InvalidLog_InvalidRange nu_InvalidLog_InvalidNumber nu_InvalidLog_InvalidWay nu_InvalidLog_InvalidKind nu_InvalidLog_InvalidScripts nu_InvalidLog_InvalidTurns kit_self nu_InvalidLog_InvalidOrder nu_InvalidLog_UnknownTransaction nu_InvalidLog_IsWaiting nu_InvalidLog_NotWaiting nu_InvalidLog_NotHeld nu_InvalidLog_TooMany nu_InvalidLog_NothingToUndo nu_InvalidLog_Impossible nu_InvalidLog_InvalidText⟩
  have ask_InvalidOrder : AskK K e C_InvalidOrder (fun i => decide (i = 9)) := ⟨EC_InvalidOrder, k18 nu_InvalidOrder_InvalidPoints nu_InvalidOrder_InvalidEntries nu_InvalidOrder_InvalidRange nu_InvalidOrder_InvalidNumber nu_InvalidOrder_InvalidWay nu_InvalidOrder_InvalidKind nu_InvalidOrder_InvalidScripts nu_InvalidOrder_InvalidTurns nu_InvalidOrder_InvalidLog kit_self nu_InvalidOrder_UnknownTransaction nu_InvalidOrder_IsWaiting nu_InvalidOrder_NotWaiting nu_InvalidOrder_NotHeld nu_InvalidOrder_TooMany nu_InvalidOrder_NothingToUndo nu_InvalidOrder_Impossible nu_InvalidOrder_InvalidText⟩
  have ask_UnknownTransaction : AskK K e C_UnknownTransaction (fun i => decide (i = 10)) := ⟨EC_UnknownTransaction, k18 nu_UnknownTransaction_InvalidPoints nu_UnknownTransaction_InvalidEntries nu_UnknownTransaction_InvalidRange nu_UnknownTransaction_InvalidNumber nu_UnknownTransaction_InvalidWay nu_UnknownTransaction_InvalidKind nu_UnknownTransaction_InvalidScripts nu_UnknownTransaction_InvalidTurns nu_UnknownTransaction_InvalidLog nu_UnknownTransaction_InvalidOrder kit_self nu_UnknownTransaction_IsWaiting nu_UnknownTransaction_NotWaiting nu_UnknownTransaction_NotHeld nu_UnknownTransaction_TooMany nu_UnknownTransaction_NothingToUndo nu_UnknownTransaction_Impossible nu_UnknownTransaction_InvalidText⟩
  have ask_IsWaiting : AskK K e C_IsWaiting (fun i => decide (i = 11)) := ⟨EC_IsWaiting, k18 nu_IsWaiting_InvalidPoints nu_IsWaiting_InvalidEntries nu_IsWaiting_InvalidRange nu_IsWaiting_InvalidNumber nu_IsWaiting_InvalidWay nu_IsWaiting_InvalidKind nu_IsWaiting_InvalidScripts nu_IsWaiting_InvalidTurns nu_IsWaiting_InvalidLog nu_IsWaiting_InvalidOrder nu_IsWaiting_UnknownTransaction kit_self nu_IsWaiting_NotWaiting nu_IsWaiting_NotHeld nu_IsWaiting_TooMany nu_IsWaiting_NothingToUndo nu_IsWaiting_Impossible nu_IsWaiting_InvalidText⟩
  have ask_NotWaiting : AskK K e C_NotWaiting (fun i => decide (i = 12)) := ⟨EC_NotWaiting, k18 nu_NotWaiting_InvalidPoints nu_NotWaiting_InvalidEntries nu_NotWaiting_InvalidRange nu_NotWaiting_InvalidNumber nu_NotWaiting_InvalidWay nu_NotWaiting_InvalidKind nu_NotWaiting_InvalidScripts nu_NotWaiting_InvalidTurns nu_NotWaiting_InvalidLog nu_NotWaiting_InvalidOrder nu_NotWaiting_UnknownTransaction nu_NotWaiting_IsWaiting kit_self nu_NotWaiting_NotHeld nu_NotWaiting_TooMany nu_NotWaiting_NothingToUndo nu_NotWaiting_Impossible nu_NotWaiting_InvalidText⟩
  have ask_NotHeld : AskK K e C_NotHeld (fun i => decide (i = 13)) := ⟨EC_NotHeld, k18 nu_NotHeld_InvalidPoints nu_NotHeld_InvalidEntries nu_NotHeld_InvalidRange nu_NotHeld_InvalidNumber nu_NotHeld_InvalidWay nu_NotHeld_InvalidKind nu_NotHeld_InvalidScripts nu_NotHeld_InvalidTurns nu_NotHeld_InvalidLog nu_NotHeld_InvalidOrder nu_NotHeld_UnknownTransaction nu_NotHeld_IsWaiting nu_NotHeld_NotWaiting kit_self nu_NotHeld_TooMany nu_NotHeld_NothingToUndo nu_NotHeld_Impossible nu_NotHeld_InvalidText⟩
  have ask_TooMany : AskK K e C_TooMany (fun i => decide (i = 14)) := ⟨EC_TooMany, k18 nu_TooMany_InvalidPoints nu_TooMany_InvalidEntries nu_TooMany_InvalidRange nu_TooMany_InvalidNumber nu_TooMany_InvalidWay nu_TooMany_InvalidKind nu_TooMany_InvalidScripts nu_TooMany_InvalidTurns nu_TooMany_InvalidLog nu_TooMany_InvalidOrder nu_TooMany_UnknownTransaction nu_TooMany_IsWaiting nu_TooMany_NotWaiting nu_TooMany_NotHeld kit_self nu_TooMany_NothingToUndo nu_TooMany_Impossible nu_TooMany_InvalidText⟩
  have ask_NothingToUndo : AskK K e C_NothingToUndo (fun i => decide (i = 15)) := ⟨EC_NothingToUndo, k18 nu_NothingToUndo_InvalidPoints nu_NothingToUndo_InvalidEntries nu_NothingToUndo_InvalidRange nu_NothingToUndo_InvalidNumber nu_NothingToUndo_InvalidWay nu_NothingToUndo_InvalidKind nu_NothingToUndo_InvalidScripts nu_NothingToUndo_InvalidTurns nu_NothingToUndo_InvalidLog nu_NothingToUndo_InvalidOrder nu_NothingToUndo_UnknownTransaction nu_NothingToUndo_IsWaiting nu_NothingToUndo_NotWaiting nu_NothingToUndo_NotHeld nu_NothingToUndo_TooMany kit_self nu_NothingToUndo_Impossible nu_NothingToUndo_InvalidText⟩
  have ask_Impossible : AskK K e C_Impossible (fun i => decide (i = 16)) := ⟨EC_Impossible, k18 nu_Impossible_InvalidPoints nu_Impossible_InvalidEntries nu_Impossible_InvalidRange nu_Impossible_InvalidNumber nu_Impossible_InvalidWay nu_Impossible_InvalidKind nu_Impossible_InvalidScripts nu_Impossible_InvalidTurns nu_Impossible_InvalidLog nu_Impossible_InvalidOrder nu_Impossible_UnknownTransaction nu_Impossible_IsWaiting nu_Impossible_NotWaiting nu_Impossible_NotHeld nu_Impossible_TooMany nu_Impossible_NothingToUndo kit_self nu_Impossible_InvalidText⟩
  have ask_InvalidText : AskK K e C_InvalidText (fun i => decide (i = 17)) := ⟨EC_InvalidText, k18 nu_InvalidText_InvalidPoints nu_InvalidText_InvalidEntries nu_InvalidText_InvalidRange nu_InvalidText_InvalidNumber nu_InvalidText_InvalidWay nu_InvalidText_InvalidKind nu_InvalidText_InvalidScripts nu_InvalidText_InvalidTurns nu_InvalidText_InvalidLog nu_InvalidText_InvalidOrder nu_InvalidText_UnknownTransaction nu_InvalidText_IsWaiting nu_InvalidText_NotWaiting nu_InvalidText_NotHeld nu_InvalidText_TooMany nu_InvalidText_NothingToUndo nu_InvalidText_Impossible kit_self⟩
  have R : Errs78 K e := ⟨k18 ask_InvalidPoints ask_InvalidEntries ask_InvalidRange ask_InvalidNumber ask_InvalidWay ask_InvalidKind ask_InvalidScripts ask_InvalidTurns ask_InvalidLog ask_InvalidOrder ask_UnknownTransaction ask_IsWaiting ask_NotWaiting ask_NotHeld ask_TooMany ask_NothingToUndo ask_Impossible ask_InvalidText, k18 un_InvalidPoints_LockError un_InvalidEntries_LockError un_InvalidRange_LockError un_InvalidNumber_LockError un_InvalidWay_LockError un_InvalidKind_LockError un_InvalidScripts_LockError un_InvalidTurns_LockError un_InvalidLog_LockError un_InvalidOrder_LockError un_UnknownTransaction_LockError un_IsWaiting_LockError un_NotWaiting_LockError un_NotHeld_LockError un_TooMany_LockError un_NothingToUndo_LockError un_Impossible_LockError un_InvalidText_LockError, k18 kit_InvalidPoints_ValueError kit_InvalidEntries_ValueError kit_InvalidRange_ValueError kit_InvalidNumber_ValueError kit_InvalidWay_ValueError kit_InvalidKind_ValueError kit_InvalidScripts_ValueError kit_InvalidTurns_ValueError kit_InvalidLog_ValueError kit_InvalidOrder_ValueError kit_UnknownTransaction_ValueError kit_IsWaiting_ValueError kit_NotWaiting_ValueError kit_NotHeld_ValueError kit_TooMany_ValueError kit_NothingToUndo_ValueError kit_Impossible_ValueError kit_InvalidText_ValueError, ⟨EC_LockError, k18 nu_LockError_InvalidPoints nu_LockError_InvalidEntries nu_LockError_InvalidRange nu_LockError_InvalidNumber nu_LockError_InvalidWay nu_LockError_InvalidKind nu_LockError_InvalidScripts nu_LockError_InvalidTurns nu_LockError_InvalidLog nu_LockError_InvalidOrder nu_LockError_UnknownTransaction nu_LockError_IsWaiting nu_LockError_NotWaiting nu_LockError_NotHeld nu_LockError_TooMany nu_LockError_NothingToUndo nu_LockError_Impossible nu_LockError_InvalidText⟩, np_Impossible_index, np_InvalidText_place⟩
  have oxImpossible : OexC K C_Impossible := ⟨⟨_, _, _, _, _, _, _, _, _, _, _, _, _, _, _, x_Impossible, rfl⟩, sa_Impossible, eC_Impossible, tC_Impossible, kC_Impossible⟩
  have inImpossible := ok_impInit (P := l.prog) (w := w) (mg := mg) (base := base) F_Impossible_init oxImpossible np_Impossible_index G_LockError ga_base rd_base fc_base
  have mxImpossible : OexM l.prog w K mg base 1 "Impossible" C_Impossible (spErrInit C_Impossible "index") := ⟨_, _, _, oxImpossible, a_Impossible_init, t_Impossible_init, inImpossible, G_Impossible, kC_Impossible, B_Impossible_init⟩
  have mkImpossible : OexKM l.prog w K mg base 1 "Impossible" C_Impossible "index" (spErrInit C_Impossible "index") := ⟨_, _, _, _, oxImpossible, a_Impossible_init, t_Impossible_init, inImpossible, G_Impossible, kC_Impossible, kbinds_one (fun _ _ => rfl)⟩
  have oxInvalidText : OexC K C_InvalidText := ⟨⟨_, _, _, _, _, _, _, _, _, _, _, _, _, _, _, x_InvalidText, rfl⟩, sa_InvalidText, eC_InvalidText, tC_InvalidText, kC_InvalidText⟩
  have inInvalidText := ok_txtInit (P := l.prog) (w := w) (mg := mg) (base := base) F_InvalidText_init oxInvalidText np_InvalidText_place G_LockError ga_base rd_base fc_base
  have mxInvalidText : OexM l.prog w K mg base 1 "InvalidText" C_InvalidText (spErrInit C_InvalidText "place") := ⟨_, _, _, oxInvalidText, a_InvalidText_init, t_InvalidText_init, inInvalidText, G_InvalidText, kC_InvalidText, B_InvalidText_init⟩
  have mkInvalidText : OexKM l.prog w K mg base 1 "InvalidText" C_InvalidText "place" (spErrInit C_InvalidText "place") := ⟨_, _, _, _, oxInvalidText, a_InvalidText_init, t_InvalidText_init, inInvalidText, G_InvalidText, kC_InvalidText, kbinds_one (fun _ _ => rfl)⟩
  have bag := ok_bag (P := l.prog) (w := w) (base := base) D_bag T
  have stir := ok_stir (P := l.prog) (w := w) (base := base) D_stirred T
  have draw := ok_draw D_draw T stir
  have of := ok_of (P := l.prog) (w := w) (base := base) (e := e) D_of T eg
  have alk := ok_alikeL (P := l.prog) (w := w) (base := base) D_alike T
  have D_law : Dn K mg "law" s_law ["_law_script"] _ _ := ⟨F_law, hfa, B_law⟩
  exact ok_law (e := e) D_law T eg R bag draw of alk mxImpossible mxInvalidText mkImpossible mkInvalidText O_InvalidPoints O_InvalidEntries O_InvalidRange O_InvalidNumber O_InvalidWay O_InvalidKind O_InvalidScripts O_InvalidTurns O_InvalidLog O_InvalidOrder O_UnknownTransaction O_IsWaiting O_NotWaiting O_NotHeld O_TooMany O_NothingToUndo O_LockError
end Gk
open PySem PySem.W PyProof.Rows
set_option maxRecDepth 100000 in
set_option maxHeartbeats 0 in
theorem PySem.Challenge.cw_gapreach_k78_errors_made_holds : PySem.Challenge.rw_gapreach_k78_errors_made.Holds := by
  w_on; o_law; k_head; (case hw => w_witness2)
  k_fill
  refine Gx.walkG (l := PySem.Challenge.rw_gapreach_k78_errors_made) (sp := Gk.spLaw78) (k := 3) (x := "_law_script") rfl (by decide) rfl ⟨rfl, by decide, by decide⟩ (fun w h Y => PySem.W.kIn_of Y) ?F ?S
  case S => exact fun K H a ns hl q => ⟨a, ns, rfl, q, Nat.le_trans hl (by decide), fun _ => rfl⟩
  case F =>
    intro w mg fa h KX G hmg
    refine' Gk.all_mk KX G hmg ?a_law ?l_law ?c_law ?k_law ?a_bag ?l_bag ?c_bag ?k_bag ?a_stirred ?l_stirred ?c_stirred ?k_stirred ?a_draw ?l_draw ?c_draw ?k_draw ?a_alike ?l_alike ?c_alike ?k_alike ?a_of ?l_of ?c_of ?k_of ?aC_InvalidPoints ?xq_InvalidPoints ?xk_InvalidPoints ?xs_InvalidPoints ?xt_InvalidPoints ?aC_InvalidEntries ?xq_InvalidEntries ?xk_InvalidEntries ?xs_InvalidEntries ?xt_InvalidEntries ?aC_InvalidRange ?xq_InvalidRange ?xk_InvalidRange ?xs_InvalidRange ?xt_InvalidRange ?aC_InvalidNumber ?xq_InvalidNumber ?xk_InvalidNumber ?xs_InvalidNumber ?xt_InvalidNumber ?aC_InvalidWay ?xq_InvalidWay ?xk_InvalidWay ?xs_InvalidWay ?xt_InvalidWay ?aC_InvalidKind ?xq_InvalidKind ?xk_InvalidKind ?xs_InvalidKind ?xt_InvalidKind ?aC_InvalidScripts ?xq_InvalidScripts ?xk_InvalidScripts ?xs_InvalidScripts ?xt_InvalidScripts ?aC_InvalidTurns ?xq_InvalidTurns ?xk_InvalidTurns ?xs_InvalidTurns ?xt_InvalidTurns ?aC_InvalidLog ?xq_InvalidLog ?xk_InvalidLog ?xs_InvalidLog ?xt_InvalidLog ?aC_InvalidOrder ?xq_InvalidOrder ?xk_InvalidOrder ?xs_InvalidOrder ?xt_InvalidOrder ?aC_UnknownTransaction ?xq_UnknownTransaction ?xk_UnknownTransaction ?xs_UnknownTransaction ?xt_UnknownTransaction ?aC_IsWaiting ?xq_IsWaiting ?xk_IsWaiting ?xs_IsWaiting ?xt_IsWaiting ?aC_NotWaiting ?xq_NotWaiting ?xk_NotWaiting ?xs_NotWaiting ?xt_NotWaiting ?aC_NotHeld ?xq_NotHeld ?xk_NotHeld ?xs_NotHeld ?xt_NotHeld ?aC_TooMany ?xq_TooMany ?xk_TooMany ?xs_TooMany ?xt_TooMany ?aC_NothingToUndo ?xq_NothingToUndo ?xk_NothingToUndo ?xs_NothingToUndo ?xt_NothingToUndo ?aC_LockError ?xq_LockError ?xk_LockError ?xs_LockError ?xt_LockError ?z_ValueError ?aC_Impossible ?aC_InvalidText ?x_Impossible ?sa_Impossible ?ga_Impossible ?gg_Impossible ?np_Impossible_index ?a_Impossible_init ?t_Impossible_init ?l_Impossible_init ?c_Impossible_init ?k_Impossible_init ?kC_Impossible ?eC_Impossible ?tC_Impossible ?hD_Impossible ?iC_Impossible ?sB_Impossible ?ha_Impossible ?hm_Impossible ?x_InvalidText ?sa_InvalidText ?ga_InvalidText ?gg_InvalidText ?np_InvalidText_place ?a_InvalidText_init ?t_InvalidText_init ?l_InvalidText_init ?c_InvalidText_init ?k_InvalidText_init ?kC_InvalidText ?eC_InvalidText ?tC_InvalidText ?hD_InvalidText ?iC_InvalidText ?sB_InvalidText ?ha_InvalidText ?hm_InvalidText ?cls_get ?cls_take ?eC_base ?hD_base ?tC_base ?ga_base ?rd_base ?fc_base ?qc_InvalidPoints ?qg_InvalidPoints ?qk_InvalidPoints ?qs_InvalidPoints ?qd_InvalidPoints ?qa_InvalidPoints ?qm_InvalidPoints ?qc_InvalidEntries ?qg_InvalidEntries ?qk_InvalidEntries ?qs_InvalidEntries ?qd_InvalidEntries ?qa_InvalidEntries ?qm_InvalidEntries ?qc_InvalidRange ?qg_InvalidRange ?qk_InvalidRange ?qs_InvalidRange ?qd_InvalidRange ?qa_InvalidRange ?qm_InvalidRange ?qc_InvalidNumber ?qg_InvalidNumber ?qk_InvalidNumber ?qs_InvalidNumber ?qd_InvalidNumber ?qa_InvalidNumber ?qm_InvalidNumber ?qc_InvalidWay ?qg_InvalidWay ?qk_InvalidWay ?qs_InvalidWay ?qd_InvalidWay ?qa_InvalidWay ?qm_InvalidWay ?qc_InvalidKind ?qg_InvalidKind ?qk_InvalidKind ?qs_InvalidKind ?qd_InvalidKind ?qa_InvalidKind ?qm_InvalidKind ?qc_InvalidScripts ?qg_InvalidScripts ?qk_InvalidScripts ?qs_InvalidScripts ?qd_InvalidScripts ?qa_InvalidScripts ?qm_InvalidScripts ?qc_InvalidTurns ?qg_InvalidTurns ?qk_InvalidTurns ?qs_InvalidTurns ?qd_InvalidTurns ?qa_InvalidTurns ?qm_InvalidTurns ?qc_InvalidLog ?qg_InvalidLog ?qk_InvalidLog ?qs_InvalidLog ?qd_InvalidLog ?qa_InvalidLog ?qm_InvalidLog ?qc_InvalidOrder ?qg_InvalidOrder ?qk_InvalidOrder ?qs_InvalidOrder ?qd_InvalidOrder ?qa_InvalidOrder ?qm_InvalidOrder ?qc_UnknownTransaction ?qg_UnknownTransaction ?qk_UnknownTransaction ?qs_UnknownTransaction ?qd_UnknownTransaction ?qa_UnknownTransaction ?qm_UnknownTransaction ?qc_IsWaiting ?qg_IsWaiting ?qk_IsWaiting ?qs_IsWaiting ?qd_IsWaiting ?qa_IsWaiting ?qm_IsWaiting ?qc_NotWaiting ?qg_NotWaiting ?qk_NotWaiting ?qs_NotWaiting ?qd_NotWaiting ?qa_NotWaiting ?qm_NotWaiting ?qc_NotHeld ?qg_NotHeld ?qk_NotHeld ?qs_NotHeld ?qd_NotHeld ?qa_NotHeld ?qm_NotHeld ?qc_TooMany ?qg_TooMany ?qk_TooMany ?qs_TooMany ?qd_TooMany ?qa_TooMany ?qm_TooMany ?qc_NothingToUndo ?qg_NothingToUndo ?qk_NothingToUndo ?qs_NothingToUndo ?qd_NothingToUndo ?qa_NothingToUndo ?qm_NothingToUndo ?qc_Impossible ?qg_Impossible ?qk_Impossible ?qs_Impossible ?qd_Impossible ?qa_Impossible ?qm_Impossible ?qc_InvalidText ?qg_InvalidText ?qk_InvalidText ?qs_InvalidText ?qd_InvalidText ?qa_InvalidText ?qm_InvalidText ?qc_LockError ?qg_LockError ?qk_LockError ?qs_LockError ?qd_LockError ?qa_LockError ?qm_LockError ?un_InvalidPoints_LockError ?un_InvalidEntries_LockError ?un_InvalidRange_LockError ?un_InvalidNumber_LockError ?un_InvalidWay_LockError ?un_InvalidKind_LockError ?un_InvalidScripts_LockError ?un_InvalidTurns_LockError ?un_InvalidLog_LockError ?un_InvalidOrder_LockError ?un_UnknownTransaction_LockError ?un_IsWaiting_LockError ?un_NotWaiting_LockError ?un_NotHeld_LockError ?un_TooMany_LockError ?un_NothingToUndo_LockError ?un_Impossible_LockError ?un_InvalidText_LockError ?nu_InvalidPoints_InvalidEntries ?nu_InvalidPoints_InvalidRange ?nu_InvalidPoints_InvalidNumber ?nu_InvalidPoints_InvalidWay ?nu_InvalidPoints_InvalidKind ?nu_InvalidPoints_InvalidScripts ?nu_InvalidPoints_InvalidTurns ?nu_InvalidPoints_InvalidLog ?nu_InvalidPoints_InvalidOrder ?nu_InvalidPoints_UnknownTransaction ?nu_InvalidPoints_IsWaiting ?nu_InvalidPoints_NotWaiting ?nu_InvalidPoints_NotHeld ?nu_InvalidPoints_TooMany ?nu_InvalidPoints_NothingToUndo ?nu_InvalidPoints_Impossible ?nu_InvalidPoints_InvalidText ?nu_InvalidEntries_InvalidPoints ?nu_InvalidEntries_InvalidRange ?nu_InvalidEntries_InvalidNumber ?nu_InvalidEntries_InvalidWay ?nu_InvalidEntries_InvalidKind ?nu_InvalidEntries_InvalidScripts ?nu_InvalidEntries_InvalidTurns ?nu_InvalidEntries_InvalidLog ?nu_InvalidEntries_InvalidOrder ?nu_InvalidEntries_UnknownTransaction ?nu_InvalidEntries_IsWaiting ?nu_InvalidEntries_NotWaiting ?nu_InvalidEntries_NotHeld ?nu_InvalidEntries_TooMany ?nu_InvalidEntries_NothingToUndo ?nu_InvalidEntries_Impossible ?nu_InvalidEntries_InvalidText ?nu_InvalidRange_InvalidPoints ?nu_InvalidRange_InvalidEntries ?nu_InvalidRange_InvalidNumber ?nu_InvalidRange_InvalidWay ?nu_InvalidRange_InvalidKind ?nu_InvalidRange_InvalidScripts ?nu_InvalidRange_InvalidTurns ?nu_InvalidRange_InvalidLog ?nu_InvalidRange_InvalidOrder ?nu_InvalidRange_UnknownTransaction ?nu_InvalidRange_IsWaiting ?nu_InvalidRange_NotWaiting ?nu_InvalidRange_NotHeld ?nu_InvalidRange_TooMany ?nu_InvalidRange_NothingToUndo ?nu_InvalidRange_Impossible ?nu_InvalidRange_InvalidText ?nu_InvalidNumber_InvalidPoints ?nu_InvalidNumber_InvalidEntries ?nu_InvalidNumber_InvalidRange ?nu_InvalidNumber_InvalidWay ?nu_InvalidNumber_InvalidKind ?nu_InvalidNumber_InvalidScripts ?nu_InvalidNumber_InvalidTurns ?nu_InvalidNumber_InvalidLog ?nu_InvalidNumber_InvalidOrder ?nu_InvalidNumber_UnknownTransaction ?nu_InvalidNumber_IsWaiting ?nu_InvalidNumber_NotWaiting ?nu_InvalidNumber_NotHeld ?nu_InvalidNumber_TooMany ?nu_InvalidNumber_NothingToUndo ?nu_InvalidNumber_Impossible ?nu_InvalidNumber_InvalidText ?nu_InvalidWay_InvalidPoints ?nu_InvalidWay_InvalidEntries ?nu_InvalidWay_InvalidRange ?nu_InvalidWay_InvalidNumber ?nu_InvalidWay_InvalidKind ?nu_InvalidWay_InvalidScripts ?nu_InvalidWay_InvalidTurns ?nu_InvalidWay_InvalidLog ?nu_InvalidWay_InvalidOrder ?nu_InvalidWay_UnknownTransaction ?nu_InvalidWay_IsWaiting ?nu_InvalidWay_NotWaiting ?nu_InvalidWay_NotHeld ?nu_InvalidWay_TooMany ?nu_InvalidWay_NothingToUndo ?nu_InvalidWay_Impossible ?nu_InvalidWay_InvalidText ?nu_InvalidKind_InvalidPoints ?nu_InvalidKind_InvalidEntries ?nu_InvalidKind_InvalidRange ?nu_InvalidKind_InvalidNumber ?nu_InvalidKind_InvalidWay ?nu_InvalidKind_InvalidScripts ?nu_InvalidKind_InvalidTurns ?nu_InvalidKind_InvalidLog ?nu_InvalidKind_InvalidOrder ?nu_InvalidKind_UnknownTransaction ?nu_InvalidKind_IsWaiting ?nu_InvalidKind_NotWaiting ?nu_InvalidKind_NotHeld ?nu_InvalidKind_TooMany ?nu_InvalidKind_NothingToUndo ?nu_InvalidKind_Impossible ?nu_InvalidKind_InvalidText ?nu_InvalidScripts_InvalidPoints ?nu_InvalidScripts_InvalidEntries ?nu_InvalidScripts_InvalidRange ?nu_InvalidScripts_InvalidNumber ?nu_InvalidScripts_InvalidWay ?nu_InvalidScripts_InvalidKind ?nu_InvalidScripts_InvalidTurns ?nu_InvalidScripts_InvalidLog ?nu_InvalidScripts_InvalidOrder ?nu_InvalidScripts_UnknownTransaction ?nu_InvalidScripts_IsWaiting ?nu_InvalidScripts_NotWaiting ?nu_InvalidScripts_NotHeld ?nu_InvalidScripts_TooMany ?nu_InvalidScripts_NothingToUndo ?nu_InvalidScripts_Impossible ?nu_InvalidScripts_InvalidText ?nu_InvalidTurns_InvalidPoints ?nu_InvalidTurns_InvalidEntries ?nu_InvalidTurns_InvalidRange ?nu_InvalidTurns_InvalidNumber ?nu_InvalidTurns_InvalidWay ?nu_InvalidTurns_InvalidKind ?nu_InvalidTurns_InvalidScripts ?nu_InvalidTurns_InvalidLog ?nu_InvalidTurns_InvalidOrder ?nu_InvalidTurns_UnknownTransaction ?nu_InvalidTurns_IsWaiting ?nu_InvalidTurns_NotWaiting ?nu_InvalidTurns_NotHeld ?nu_InvalidTurns_TooMany ?nu_InvalidTurns_NothingToUndo ?nu_InvalidTurns_Impossible ?nu_InvalidTurns_InvalidText ?nu_InvalidLog_InvalidPoints ?nu_InvalidLog_InvalidEntries ?nu_InvalidLog_InvalidRange ?nu_InvalidLog_InvalidNumber ?nu_InvalidLog_InvalidWay ?nu_InvalidLog_InvalidKind ?nu_InvalidLog_InvalidScripts ?nu_InvalidLog_InvalidTurns ?nu_InvalidLog_InvalidOrder ?nu_InvalidLog_UnknownTransaction ?nu_InvalidLog_IsWaiting ?nu_InvalidLog_NotWaiting ?nu_InvalidLog_NotHeld ?nu_InvalidLog_TooMany ?nu_InvalidLog_NothingToUndo ?nu_InvalidLog_Impossible ?nu_InvalidLog_InvalidText ?nu_InvalidOrder_InvalidPoints ?nu_InvalidOrder_InvalidEntries ?nu_InvalidOrder_InvalidRange ?nu_InvalidOrder_InvalidNumber ?nu_InvalidOrder_InvalidWay ?nu_InvalidOrder_InvalidKind ?nu_InvalidOrder_InvalidScripts ?nu_InvalidOrder_InvalidTurns ?nu_InvalidOrder_InvalidLog ?nu_InvalidOrder_UnknownTransaction ?nu_InvalidOrder_IsWaiting ?nu_InvalidOrder_NotWaiting ?nu_InvalidOrder_NotHeld ?nu_InvalidOrder_TooMany ?nu_InvalidOrder_NothingToUndo ?nu_InvalidOrder_Impossible ?nu_InvalidOrder_InvalidText ?nu_UnknownTransaction_InvalidPoints ?nu_UnknownTransaction_InvalidEntries ?nu_UnknownTransaction_InvalidRange ?nu_UnknownTransaction_InvalidNumber ?nu_UnknownTransaction_InvalidWay ?nu_UnknownTransaction_InvalidKind ?nu_UnknownTransaction_InvalidScripts ?nu_UnknownTransaction_InvalidTurns ?nu_UnknownTransaction_InvalidLog ?nu_UnknownTransaction_InvalidOrder ?nu_UnknownTransaction_IsWaiting ?nu_UnknownTransaction_NotWaiting ?nu_UnknownTransaction_NotHeld ?nu_UnknownTransaction_TooMany ?nu_UnknownTransaction_NothingToUndo ?nu_UnknownTransaction_Impossible ?nu_UnknownTransaction_InvalidText ?nu_IsWaiting_InvalidPoints ?nu_IsWaiting_InvalidEntries ?nu_IsWaiting_InvalidRange ?nu_IsWaiting_InvalidNumber ?nu_IsWaiting_InvalidWay ?nu_IsWaiting_InvalidKind ?nu_IsWaiting_InvalidScripts ?nu_IsWaiting_InvalidTurns ?nu_IsWaiting_InvalidLog ?nu_IsWaiting_InvalidOrder ?nu_IsWaiting_UnknownTransaction ?nu_IsWaiting_NotWaiting ?nu_IsWaiting_NotHeld ?nu_IsWaiting_TooMany ?nu_IsWaiting_NothingToUndo ?nu_IsWaiting_Impossible ?nu_IsWaiting_InvalidText ?nu_NotWaiting_InvalidPoints ?nu_NotWaiting_InvalidEntries ?nu_NotWaiting_InvalidRange ?nu_NotWaiting_InvalidNumber ?nu_NotWaiting_InvalidWay ?nu_NotWaiting_InvalidKind ?nu_NotWaiting_InvalidScripts ?nu_NotWaiting_InvalidTurns ?nu_NotWaiting_InvalidLog ?nu_NotWaiting_InvalidOrder ?nu_NotWaiting_UnknownTransaction ?nu_NotWaiting_IsWaiting ?nu_NotWaiting_NotHeld ?nu_NotWaiting_TooMany ?nu_NotWaiting_NothingToUndo ?nu_NotWaiting_Impossible ?nu_NotWaiting_InvalidText ?nu_NotHeld_InvalidPoints ?nu_NotHeld_InvalidEntries ?nu_NotHeld_InvalidRange ?nu_NotHeld_InvalidNumber ?nu_NotHeld_InvalidWay ?nu_NotHeld_InvalidKind ?nu_NotHeld_InvalidScripts ?nu_NotHeld_InvalidTurns ?nu_NotHeld_InvalidLog ?nu_NotHeld_InvalidOrder ?nu_NotHeld_UnknownTransaction ?nu_NotHeld_IsWaiting ?nu_NotHeld_NotWaiting ?nu_NotHeld_TooMany ?nu_NotHeld_NothingToUndo ?nu_NotHeld_Impossible ?nu_NotHeld_InvalidText ?nu_TooMany_InvalidPoints ?nu_TooMany_InvalidEntries ?nu_TooMany_InvalidRange ?nu_TooMany_InvalidNumber ?nu_TooMany_InvalidWay ?nu_TooMany_InvalidKind ?nu_TooMany_InvalidScripts ?nu_TooMany_InvalidTurns ?nu_TooMany_InvalidLog ?nu_TooMany_InvalidOrder ?nu_TooMany_UnknownTransaction ?nu_TooMany_IsWaiting ?nu_TooMany_NotWaiting ?nu_TooMany_NotHeld ?nu_TooMany_NothingToUndo ?nu_TooMany_Impossible ?nu_TooMany_InvalidText ?nu_NothingToUndo_InvalidPoints ?nu_NothingToUndo_InvalidEntries ?nu_NothingToUndo_InvalidRange ?nu_NothingToUndo_InvalidNumber ?nu_NothingToUndo_InvalidWay ?nu_NothingToUndo_InvalidKind ?nu_NothingToUndo_InvalidScripts ?nu_NothingToUndo_InvalidTurns ?nu_NothingToUndo_InvalidLog ?nu_NothingToUndo_InvalidOrder ?nu_NothingToUndo_UnknownTransaction ?nu_NothingToUndo_IsWaiting ?nu_NothingToUndo_NotWaiting ?nu_NothingToUndo_NotHeld ?nu_NothingToUndo_TooMany ?nu_NothingToUndo_Impossible ?nu_NothingToUndo_InvalidText ?nu_Impossible_InvalidPoints ?nu_Impossible_InvalidEntries ?nu_Impossible_InvalidRange ?nu_Impossible_InvalidNumber ?nu_Impossible_InvalidWay ?nu_Impossible_InvalidKind ?nu_Impossible_InvalidScripts ?nu_Impossible_InvalidTurns ?nu_Impossible_InvalidLog ?nu_Impossible_InvalidOrder ?nu_Impossible_UnknownTransaction ?nu_Impossible_IsWaiting ?nu_Impossible_NotWaiting ?nu_Impossible_NotHeld ?nu_Impossible_TooMany ?nu_Impossible_NothingToUndo ?nu_Impossible_InvalidText ?nu_InvalidText_InvalidPoints ?nu_InvalidText_InvalidEntries ?nu_InvalidText_InvalidRange ?nu_InvalidText_InvalidNumber ?nu_InvalidText_InvalidWay ?nu_InvalidText_InvalidKind ?nu_InvalidText_InvalidScripts ?nu_InvalidText_InvalidTurns ?nu_InvalidText_InvalidLog ?nu_InvalidText_InvalidOrder ?nu_InvalidText_UnknownTransaction ?nu_InvalidText_IsWaiting ?nu_InvalidText_NotWaiting ?nu_InvalidText_NotHeld ?nu_InvalidText_TooMany ?nu_InvalidText_NothingToUndo ?nu_InvalidText_Impossible ?nu_LockError_InvalidPoints ?nu_LockError_InvalidEntries ?nu_LockError_InvalidRange ?nu_LockError_InvalidNumber ?nu_LockError_InvalidWay ?nu_LockError_InvalidKind ?nu_LockError_InvalidScripts ?nu_LockError_InvalidTurns ?nu_LockError_InvalidLog ?nu_LockError_InvalidOrder ?nu_LockError_UnknownTransaction ?nu_LockError_IsWaiting ?nu_LockError_NotWaiting ?nu_LockError_NotHeld ?nu_LockError_TooMany ?nu_LockError_NothingToUndo ?nu_LockError_Impossible ?nu_LockError_InvalidText ?kit_InvalidPoints_ValueError ?kit_InvalidEntries_ValueError ?kit_InvalidRange_ValueError ?kit_InvalidNumber_ValueError ?kit_InvalidWay_ValueError ?kit_InvalidKind_ValueError ?kit_InvalidScripts_ValueError ?kit_InvalidTurns_ValueError ?kit_InvalidLog_ValueError ?kit_InvalidOrder_ValueError ?kit_UnknownTransaction_ValueError ?kit_IsWaiting_ValueError ?kit_NotWaiting_ValueError ?kit_NotHeld_ValueError ?kit_TooMany_ValueError ?kit_NothingToUndo_ValueError ?kit_Impossible_ValueError ?kit_InvalidText_ValueError ?z_len ?z_abs ?z_max ?z_min ?z_range ?z_sorted ?z_set ?z_list ?z_tuple ?z_dict ?z_int ?z_str ?z_bool ?z_all ?z_any ?z_sum ?z_isinstance ?z_repr ?z_zip ?z_enumerate
    (case a_law => k_is)
    (case l_law => k_is)
    (case c_law => k_is)
    (case k_law => k_is)
    (case a_bag => k_is)
    (case l_bag => k_is)
    (case c_bag => k_is)
    (case k_bag => k_is)
    (case a_stirred => k_is)
    (case l_stirred => k_is)
    (case c_stirred => k_is)
    (case k_stirred => k_is)
    (case a_draw => k_is)
    (case l_draw => k_is)
    (case c_draw => k_is)
    (case k_draw => k_is)
    (case a_alike => k_is)
    (case l_alike => k_is)
    (case c_alike => k_is)
    (case k_alike => k_is)
    (case a_of => k_is)
    (case l_of => k_is)
    (case c_of => k_is)
    (case k_of => k_is)
    (case aC_InvalidPoints => k_is)
    (case xq_InvalidPoints => k_exc)
    (case xk_InvalidPoints => k_is)
    (case xs_InvalidPoints => k_is)
    (case xt_InvalidPoints => k_is)
    (case aC_InvalidEntries => k_is)
    (case xq_InvalidEntries => k_exc)
    (case xk_InvalidEntries => k_is)
    (case xs_InvalidEntries => k_is)
    (case xt_InvalidEntries => k_is)
    (case aC_InvalidRange => k_is)
    (case xq_InvalidRange => k_exc)
    (case xk_InvalidRange => k_is)
    (case xs_InvalidRange => k_is)
    (case xt_InvalidRange => k_is)
    (case aC_InvalidNumber => k_is)
    (case xq_InvalidNumber => k_exc)
    (case xk_InvalidNumber => k_is)
    (case xs_InvalidNumber => k_is)
    (case xt_InvalidNumber => k_is)
    (case aC_InvalidWay => k_is)
    (case xq_InvalidWay => k_exc)
    (case xk_InvalidWay => k_is)
    (case xs_InvalidWay => k_is)
    (case xt_InvalidWay => k_is)
    (case aC_InvalidKind => k_is)
    (case xq_InvalidKind => k_exc)
    (case xk_InvalidKind => k_is)
    (case xs_InvalidKind => k_is)
    (case xt_InvalidKind => k_is)
    (case aC_InvalidScripts => k_is)
    (case xq_InvalidScripts => k_exc)
    (case xk_InvalidScripts => k_is)
    (case xs_InvalidScripts => k_is)
    (case xt_InvalidScripts => k_is)
    (case aC_InvalidTurns => k_is)
    (case xq_InvalidTurns => k_exc)
    (case xk_InvalidTurns => k_is)
    (case xs_InvalidTurns => k_is)
    (case xt_InvalidTurns => k_is)
    (case aC_InvalidLog => k_is)
    (case xq_InvalidLog => k_exc)
    (case xk_InvalidLog => k_is)
    (case xs_InvalidLog => k_is)
    (case xt_InvalidLog => k_is)
    (case aC_InvalidOrder => k_is)
    (case xq_InvalidOrder => k_exc)
    (case xk_InvalidOrder => k_is)
    (case xs_InvalidOrder => k_is)
    (case xt_InvalidOrder => k_is)
    (case aC_UnknownTransaction => k_is)
    (case xq_UnknownTransaction => k_exc)
    (case xk_UnknownTransaction => k_is)
    (case xs_UnknownTransaction => k_is)
    (case xt_UnknownTransaction => k_is)
    (case aC_IsWaiting => k_is)
    (case xq_IsWaiting => k_exc)
    (case xk_IsWaiting => k_is)
    (case xs_IsWaiting => k_is)
    (case xt_IsWaiting => k_is)
    (case aC_NotWaiting => k_is)
    (case xq_NotWaiting => k_exc)
    (case xk_NotWaiting => k_is)
    (case xs_NotWaiting => k_is)
    (case xt_NotWaiting => k_is)
    (case aC_NotHeld => k_is)
    (case xq_NotHeld => k_exc)
    (case xk_NotHeld => k_is)
    (case xs_NotHeld => k_is)
    (case xt_NotHeld => k_is)
    (case aC_TooMany => k_is)
    (case xq_TooMany => k_exc)
    (case xk_TooMany => k_is)
    (case xs_TooMany => k_is)
    (case xt_TooMany => k_is)
    (case aC_NothingToUndo => k_is)
    (case xq_NothingToUndo => k_exc)
    (case xk_NothingToUndo => k_is)
    (case xs_NothingToUndo => k_is)
    (case xt_NothingToUndo => k_is)
    (case aC_LockError => k_is)
    (case xq_LockError => k_exc)
    (case xk_LockError => k_is)
    (case xs_LockError => k_is)
    (case xt_LockError => k_is)
    (case z_ValueError => k_is)
    (case aC_Impossible => k_is)
    (case aC_InvalidText => k_is)
    (case x_Impossible => k_is)
    (case sa_Impossible => k_is)
    (case ga_Impossible => k_is)
    (case gg_Impossible => k_is)
    (case np_Impossible_index => k_is)
    (case a_Impossible_init => k_is)
    (case t_Impossible_init => k_is)
    (case l_Impossible_init => k_is)
    (case c_Impossible_init => k_is)
    (case k_Impossible_init => k_is)
    (case kC_Impossible => k_is)
    (case eC_Impossible => k_is)
    (case tC_Impossible => k_is)
    (case hD_Impossible => k_is)
    (case iC_Impossible => k_is)
    (case sB_Impossible => k_is)
    (case ha_Impossible => k_is)
    (case hm_Impossible => k_is)
    (case x_InvalidText => k_is)
    (case sa_InvalidText => k_is)
    (case ga_InvalidText => k_is)
    (case gg_InvalidText => k_is)
    (case np_InvalidText_place => k_is)
    (case a_InvalidText_init => k_is)
    (case t_InvalidText_init => k_is)
    (case l_InvalidText_init => k_is)
    (case c_InvalidText_init => k_is)
    (case k_InvalidText_init => k_is)
    (case kC_InvalidText => k_is)
    (case eC_InvalidText => k_is)
    (case tC_InvalidText => k_is)
    (case hD_InvalidText => k_is)
    (case iC_InvalidText => k_is)
    (case sB_InvalidText => k_is)
    (case ha_InvalidText => k_is)
    (case hm_InvalidText => k_is)
    (case cls_get => k_is)
    (case cls_take => k_is)
    (case eC_base => k_is)
    (case hD_base => k_is)
    (case tC_base => k_is)
    (case ga_base => k_is)
    (case rd_base => k_is)
    (case fc_base => k_is)
    (case qc_InvalidPoints => k_is)
    (case qg_InvalidPoints => k_is)
    (case qk_InvalidPoints => k_is)
    (case qs_InvalidPoints => k_is)
    (case qd_InvalidPoints => k_is)
    (case qa_InvalidPoints => k_is)
    (case qm_InvalidPoints => k_is)
    (case qc_InvalidEntries => k_is)
    (case qg_InvalidEntries => k_is)
    (case qk_InvalidEntries => k_is)
    (case qs_InvalidEntries => k_is)
    (case qd_InvalidEntries => k_is)
    (case qa_InvalidEntries => k_is)
    (case qm_InvalidEntries => k_is)
    (case qc_InvalidRange => k_is)
    (case qg_InvalidRange => k_is)
    (case qk_InvalidRange => k_is)
    (case qs_InvalidRange => k_is)
    (case qd_InvalidRange => k_is)
    (case qa_InvalidRange => k_is)
    (case qm_InvalidRange => k_is)
    (case qc_InvalidNumber => k_is)
    (case qg_InvalidNumber => k_is)
    (case qk_InvalidNumber => k_is)
    (case qs_InvalidNumber => k_is)
    (case qd_InvalidNumber => k_is)
    (case qa_InvalidNumber => k_is)
    (case qm_InvalidNumber => k_is)
    (case qc_InvalidWay => k_is)
    (case qg_InvalidWay => k_is)
    (case qk_InvalidWay => k_is)
    (case qs_InvalidWay => k_is)
    (case qd_InvalidWay => k_is)
    (case qa_InvalidWay => k_is)
    (case qm_InvalidWay => k_is)
    (case qc_InvalidKind => k_is)
    (case qg_InvalidKind => k_is)
    (case qk_InvalidKind => k_is)
    (case qs_InvalidKind => k_is)
    (case qd_InvalidKind => k_is)
    (case qa_InvalidKind => k_is)
    (case qm_InvalidKind => k_is)
    (case qc_InvalidScripts => k_is)
    (case qg_InvalidScripts => k_is)
    (case qk_InvalidScripts => k_is)
    (case qs_InvalidScripts => k_is)
    (case qd_InvalidScripts => k_is)
    (case qa_InvalidScripts => k_is)
    (case qm_InvalidScripts => k_is)
    (case qc_InvalidTurns => k_is)
    (case qg_InvalidTurns => k_is)
    (case qk_InvalidTurns => k_is)
    (case qs_InvalidTurns => k_is)
    (case qd_InvalidTurns => k_is)
    (case qa_InvalidTurns => k_is)
    (case qm_InvalidTurns => k_is)
    (case qc_InvalidLog => k_is)
    (case qg_InvalidLog => k_is)
    (case qk_InvalidLog => k_is)
    (case qs_InvalidLog => k_is)
    (case qd_InvalidLog => k_is)
    (case qa_InvalidLog => k_is)
    (case qm_InvalidLog => k_is)
    (case qc_InvalidOrder => k_is)
    (case qg_InvalidOrder => k_is)
    (case qk_InvalidOrder => k_is)
    (case qs_InvalidOrder => k_is)
    (case qd_InvalidOrder => k_is)
    (case qa_InvalidOrder => k_is)
    (case qm_InvalidOrder => k_is)
    (case qc_UnknownTransaction => k_is)
    (case qg_UnknownTransaction => k_is)
    (case qk_UnknownTransaction => k_is)
    (case qs_UnknownTransaction => k_is)
    (case qd_UnknownTransaction => k_is)
    (case qa_UnknownTransaction => k_is)
    (case qm_UnknownTransaction => k_is)
    (case qc_IsWaiting => k_is)
    (case qg_IsWaiting => k_is)
    (case qk_IsWaiting => k_is)
    (case qs_IsWaiting => k_is)
    (case qd_IsWaiting => k_is)
    (case qa_IsWaiting => k_is)
    (case qm_IsWaiting => k_is)
    (case qc_NotWaiting => k_is)
    (case qg_NotWaiting => k_is)
    (case qk_NotWaiting => k_is)
    (case qs_NotWaiting => k_is)
    (case qd_NotWaiting => k_is)
    (case qa_NotWaiting => k_is)
    (case qm_NotWaiting => k_is)
    (case qc_NotHeld => k_is)
    (case qg_NotHeld => k_is)
    (case qk_NotHeld => k_is)
    (case qs_NotHeld => k_is)
    (case qd_NotHeld => k_is)
    (case qa_NotHeld => k_is)
    (case qm_NotHeld => k_is)
    (case qc_TooMany => k_is)
    (case qg_TooMany => k_is)
    (case qk_TooMany => k_is)
    (case qs_TooMany => k_is)
    (case qd_TooMany => k_is)
    (case qa_TooMany => k_is)
    (case qm_TooMany => k_is)
    (case qc_NothingToUndo => k_is)
    (case qg_NothingToUndo => k_is)
    (case qk_NothingToUndo => k_is)
    (case qs_NothingToUndo => k_is)
    (case qd_NothingToUndo => k_is)
    (case qa_NothingToUndo => k_is)
    (case qm_NothingToUndo => k_is)
    (case qc_Impossible => k_is)
    (case qg_Impossible => k_is)
    (case qk_Impossible => k_is)
    (case qs_Impossible => k_is)
    (case qd_Impossible => k_is)
    (case qa_Impossible => k_is)
    (case qm_Impossible => k_is)
    (case qc_InvalidText => k_is)
    (case qg_InvalidText => k_is)
    (case qk_InvalidText => k_is)
    (case qs_InvalidText => k_is)
    (case qd_InvalidText => k_is)
    (case qa_InvalidText => k_is)
    (case qm_InvalidText => k_is)
    (case qc_LockError => k_is)
    (case qg_LockError => k_is)
    (case qk_LockError => k_is)
    (case qs_LockError => k_is)
    (case qd_LockError => k_is)
    (case qa_LockError => k_is)
    (case qm_LockError => k_is)
    (case un_InvalidPoints_LockError => kit_is)
    (case un_InvalidEntries_LockError => kit_is)
    (case un_InvalidRange_LockError => kit_is)
    (case un_InvalidNumber_LockError => kit_is)
    (case un_InvalidWay_LockError => kit_is)
    (case un_InvalidKind_LockError => kit_is)
    (case un_InvalidScripts_LockError => kit_is)
    (case un_InvalidTurns_LockError => kit_is)
    (case un_InvalidLog_LockError => kit_is)
    (case un_InvalidOrder_LockError => kit_is)
    (case un_UnknownTransaction_LockError => kit_is)
    (case un_IsWaiting_LockError => kit_is)
    (case un_NotWaiting_LockError => kit_is)
    (case un_NotHeld_LockError => kit_is)
    (case un_TooMany_LockError => kit_is)
    (case un_NothingToUndo_LockError => kit_is)
    (case un_Impossible_LockError => kit_is)
    (case un_InvalidText_LockError => kit_is)
    (case nu_InvalidPoints_InvalidEntries => kit_is)
    (case nu_InvalidPoints_InvalidRange => kit_is)
    (case nu_InvalidPoints_InvalidNumber => kit_is)
    (case nu_InvalidPoints_InvalidWay => kit_is)
    (case nu_InvalidPoints_InvalidKind => kit_is)
    (case nu_InvalidPoints_InvalidScripts => kit_is)
    (case nu_InvalidPoints_InvalidTurns => kit_is)
    (case nu_InvalidPoints_InvalidLog => kit_is)
    (case nu_InvalidPoints_InvalidOrder => kit_is)
    (case nu_InvalidPoints_UnknownTransaction => kit_is)
    (case nu_InvalidPoints_IsWaiting => kit_is)
    (case nu_InvalidPoints_NotWaiting => kit_is)
    (case nu_InvalidPoints_NotHeld => kit_is)
    (case nu_InvalidPoints_TooMany => kit_is)
    (case nu_InvalidPoints_NothingToUndo => kit_is)
    (case nu_InvalidPoints_Impossible => kit_is)
    (case nu_InvalidPoints_InvalidText => kit_is)
    (case nu_InvalidEntries_InvalidPoints => kit_is)
    (case nu_InvalidEntries_InvalidRange => kit_is)
    (case nu_InvalidEntries_InvalidNumber => kit_is)
    (case nu_InvalidEntries_InvalidWay => kit_is)
    (case nu_InvalidEntries_InvalidKind => kit_is)
    (case nu_InvalidEntries_InvalidScripts => kit_is)
    (case nu_InvalidEntries_InvalidTurns => kit_is)
    (case nu_InvalidEntries_InvalidLog => kit_is)
    (case nu_InvalidEntries_InvalidOrder => kit_is)
    (case nu_InvalidEntries_UnknownTransaction => kit_is)
    (case nu_InvalidEntries_IsWaiting => kit_is)
    (case nu_InvalidEntries_NotWaiting => kit_is)
    (case nu_InvalidEntries_NotHeld => kit_is)
    (case nu_InvalidEntries_TooMany => kit_is)
    (case nu_InvalidEntries_NothingToUndo => kit_is)
    (case nu_InvalidEntries_Impossible => kit_is)
    (case nu_InvalidEntries_InvalidText => kit_is)
    (case nu_InvalidRange_InvalidPoints => kit_is)
    (case nu_InvalidRange_InvalidEntries => kit_is)
    (case nu_InvalidRange_InvalidNumber => kit_is)
    (case nu_InvalidRange_InvalidWay => kit_is)
    (case nu_InvalidRange_InvalidKind => kit_is)
    (case nu_InvalidRange_InvalidScripts => kit_is)
    (case nu_InvalidRange_InvalidTurns => kit_is)
    (case nu_InvalidRange_InvalidLog => kit_is)
    (case nu_InvalidRange_InvalidOrder => kit_is)
    (case nu_InvalidRange_UnknownTransaction => kit_is)
    (case nu_InvalidRange_IsWaiting => kit_is)
    (case nu_InvalidRange_NotWaiting => kit_is)
    (case nu_InvalidRange_NotHeld => kit_is)
    (case nu_InvalidRange_TooMany => kit_is)
    (case nu_InvalidRange_NothingToUndo => kit_is)
    (case nu_InvalidRange_Impossible => kit_is)
    (case nu_InvalidRange_InvalidText => kit_is)
    (case nu_InvalidNumber_InvalidPoints => kit_is)
    (case nu_InvalidNumber_InvalidEntries => kit_is)
    (case nu_InvalidNumber_InvalidRange => kit_is)
    (case nu_InvalidNumber_InvalidWay => kit_is)
    (case nu_InvalidNumber_InvalidKind => kit_is)
    (case nu_InvalidNumber_InvalidScripts => kit_is)
    (case nu_InvalidNumber_InvalidTurns => kit_is)
    (case nu_InvalidNumber_InvalidLog => kit_is)
    (case nu_InvalidNumber_InvalidOrder => kit_is)
    (case nu_InvalidNumber_UnknownTransaction => kit_is)
    (case nu_InvalidNumber_IsWaiting => kit_is)
    (case nu_InvalidNumber_NotWaiting => kit_is)
    (case nu_InvalidNumber_NotHeld => kit_is)
    (case nu_InvalidNumber_TooMany => kit_is)
    (case nu_InvalidNumber_NothingToUndo => kit_is)
    (case nu_InvalidNumber_Impossible => kit_is)
    (case nu_InvalidNumber_InvalidText => kit_is)
    (case nu_InvalidWay_InvalidPoints => kit_is)
    (case nu_InvalidWay_InvalidEntries => kit_is)
    (case nu_InvalidWay_InvalidRange => kit_is)
    (case nu_InvalidWay_InvalidNumber => kit_is)
    (case nu_InvalidWay_InvalidKind => kit_is)
    (case nu_InvalidWay_InvalidScripts => kit_is)
    (case nu_InvalidWay_InvalidTurns => kit_is)
    (case nu_InvalidWay_InvalidLog => kit_is)
    (case nu_InvalidWay_InvalidOrder => kit_is)
    (case nu_InvalidWay_UnknownTransaction => kit_is)
    (case nu_InvalidWay_IsWaiting => kit_is)
    (case nu_InvalidWay_NotWaiting => kit_is)
    (case nu_InvalidWay_NotHeld => kit_is)
    (case nu_InvalidWay_TooMany => kit_is)
    (case nu_InvalidWay_NothingToUndo => kit_is)
    (case nu_InvalidWay_Impossible => kit_is)
    (case nu_InvalidWay_InvalidText => kit_is)
    (case nu_InvalidKind_InvalidPoints => kit_is)
    (case nu_InvalidKind_InvalidEntries => kit_is)
    (case nu_InvalidKind_InvalidRange => kit_is)
    (case nu_InvalidKind_InvalidNumber => kit_is)
    (case nu_InvalidKind_InvalidWay => kit_is)
    (case nu_InvalidKind_InvalidScripts => kit_is)
    (case nu_InvalidKind_InvalidTurns => kit_is)
    (case nu_InvalidKind_InvalidLog => kit_is)
    (case nu_InvalidKind_InvalidOrder => kit_is)
    (case nu_InvalidKind_UnknownTransaction => kit_is)
    (case nu_InvalidKind_IsWaiting => kit_is)
    (case nu_InvalidKind_NotWaiting => kit_is)
    (case nu_InvalidKind_NotHeld => kit_is)
    (case nu_InvalidKind_TooMany => kit_is)
    (case nu_InvalidKind_NothingToUndo => kit_is)
    (case nu_InvalidKind_Impossible => kit_is)
    (case nu_InvalidKind_InvalidText => kit_is)
    (case nu_InvalidScripts_InvalidPoints => kit_is)
    (case nu_InvalidScripts_InvalidEntries => kit_is)
    (case nu_InvalidScripts_InvalidRange => kit_is)
    (case nu_InvalidScripts_InvalidNumber => kit_is)
    (case nu_InvalidScripts_InvalidWay => kit_is)
    (case nu_InvalidScripts_InvalidKind => kit_is)
    (case nu_InvalidScripts_InvalidTurns => kit_is)
    (case nu_InvalidScripts_InvalidLog => kit_is)
    (case nu_InvalidScripts_InvalidOrder => kit_is)
    (case nu_InvalidScripts_UnknownTransaction => kit_is)
    (case nu_InvalidScripts_IsWaiting => kit_is)
    (case nu_InvalidScripts_NotWaiting => kit_is)
    (case nu_InvalidScripts_NotHeld => kit_is)
    (case nu_InvalidScripts_TooMany => kit_is)
    (case nu_InvalidScripts_NothingToUndo => kit_is)
    (case nu_InvalidScripts_Impossible => kit_is)
    (case nu_InvalidScripts_InvalidText => kit_is)
    (case nu_InvalidTurns_InvalidPoints => kit_is)
    (case nu_InvalidTurns_InvalidEntries => kit_is)
    (case nu_InvalidTurns_InvalidRange => kit_is)
    (case nu_InvalidTurns_InvalidNumber => kit_is)
    (case nu_InvalidTurns_InvalidWay => kit_is)
    (case nu_InvalidTurns_InvalidKind => kit_is)
    (case nu_InvalidTurns_InvalidScripts => kit_is)
    (case nu_InvalidTurns_InvalidLog => kit_is)
    (case nu_InvalidTurns_InvalidOrder => kit_is)
    (case nu_InvalidTurns_UnknownTransaction => kit_is)
    (case nu_InvalidTurns_IsWaiting => kit_is)
    (case nu_InvalidTurns_NotWaiting => kit_is)
    (case nu_InvalidTurns_NotHeld => kit_is)
    (case nu_InvalidTurns_TooMany => kit_is)
    (case nu_InvalidTurns_NothingToUndo => kit_is)
    (case nu_InvalidTurns_Impossible => kit_is)
    (case nu_InvalidTurns_InvalidText => kit_is)
    (case nu_InvalidLog_InvalidPoints => kit_is)
    (case nu_InvalidLog_InvalidEntries => kit_is)
    (case nu_InvalidLog_InvalidRange => kit_is)
    (case nu_InvalidLog_InvalidNumber => kit_is)
    (case nu_InvalidLog_InvalidWay => kit_is)
    (case nu_InvalidLog_InvalidKind => kit_is)
    (case nu_InvalidLog_InvalidScripts => kit_is)
    (case nu_InvalidLog_InvalidTurns => kit_is)
    (case nu_InvalidLog_InvalidOrder => kit_is)
    (case nu_InvalidLog_UnknownTransaction => kit_is)
    (case nu_InvalidLog_IsWaiting => kit_is)
    (case nu_InvalidLog_NotWaiting => kit_is)
    (case nu_InvalidLog_NotHeld => kit_is)
    (case nu_InvalidLog_TooMany => kit_is)
    (case nu_InvalidLog_NothingToUndo => kit_is)
    (case nu_InvalidLog_Impossible => kit_is)
    (case nu_InvalidLog_InvalidText => kit_is)
    (case nu_InvalidOrder_InvalidPoints => kit_is)
    (case nu_InvalidOrder_InvalidEntries => kit_is)
    (case nu_InvalidOrder_InvalidRange => kit_is)
    (case nu_InvalidOrder_InvalidNumber => kit_is)
    (case nu_InvalidOrder_InvalidWay => kit_is)
    (case nu_InvalidOrder_InvalidKind => kit_is)
    (case nu_InvalidOrder_InvalidScripts => kit_is)
    (case nu_InvalidOrder_InvalidTurns => kit_is)
    (case nu_InvalidOrder_InvalidLog => kit_is)
    (case nu_InvalidOrder_UnknownTransaction => kit_is)
    (case nu_InvalidOrder_IsWaiting => kit_is)
    (case nu_InvalidOrder_NotWaiting => kit_is)
    (case nu_InvalidOrder_NotHeld => kit_is)
    (case nu_InvalidOrder_TooMany => kit_is)
    (case nu_InvalidOrder_NothingToUndo => kit_is)
    (case nu_InvalidOrder_Impossible => kit_is)
    (case nu_InvalidOrder_InvalidText => kit_is)
    (case nu_UnknownTransaction_InvalidPoints => kit_is)
    (case nu_UnknownTransaction_InvalidEntries => kit_is)
    (case nu_UnknownTransaction_InvalidRange => kit_is)
    (case nu_UnknownTransaction_InvalidNumber => kit_is)
    (case nu_UnknownTransaction_InvalidWay => kit_is)
    (case nu_UnknownTransaction_InvalidKind => kit_is)
    (case nu_UnknownTransaction_InvalidScripts => kit_is)
    (case nu_UnknownTransaction_InvalidTurns => kit_is)
    (case nu_UnknownTransaction_InvalidLog => kit_is)
    (case nu_UnknownTransaction_InvalidOrder => kit_is)
    (case nu_UnknownTransaction_IsWaiting => kit_is)
    (case nu_UnknownTransaction_NotWaiting => kit_is)
    (case nu_UnknownTransaction_NotHeld => kit_is)
    (case nu_UnknownTransaction_TooMany => kit_is)
    (case nu_UnknownTransaction_NothingToUndo => kit_is)
    (case nu_UnknownTransaction_Impossible => kit_is)
    (case nu_UnknownTransaction_InvalidText => kit_is)
    (case nu_IsWaiting_InvalidPoints => kit_is)
    (case nu_IsWaiting_InvalidEntries => kit_is)
    (case nu_IsWaiting_InvalidRange => kit_is)
    (case nu_IsWaiting_InvalidNumber => kit_is)
    (case nu_IsWaiting_InvalidWay => kit_is)
    (case nu_IsWaiting_InvalidKind => kit_is)
    (case nu_IsWaiting_InvalidScripts => kit_is)
    (case nu_IsWaiting_InvalidTurns => kit_is)
    (case nu_IsWaiting_InvalidLog => kit_is)
    (case nu_IsWaiting_InvalidOrder => kit_is)
    (case nu_IsWaiting_UnknownTransaction => kit_is)
    (case nu_IsWaiting_NotWaiting => kit_is)
    (case nu_IsWaiting_NotHeld => kit_is)
    (case nu_IsWaiting_TooMany => kit_is)
    (case nu_IsWaiting_NothingToUndo => kit_is)
    (case nu_IsWaiting_Impossible => kit_is)
    (case nu_IsWaiting_InvalidText => kit_is)
    (case nu_NotWaiting_InvalidPoints => kit_is)
    (case nu_NotWaiting_InvalidEntries => kit_is)
    (case nu_NotWaiting_InvalidRange => kit_is)
    (case nu_NotWaiting_InvalidNumber => kit_is)
    (case nu_NotWaiting_InvalidWay => kit_is)
    (case nu_NotWaiting_InvalidKind => kit_is)
    (case nu_NotWaiting_InvalidScripts => kit_is)
    (case nu_NotWaiting_InvalidTurns => kit_is)
    (case nu_NotWaiting_InvalidLog => kit_is)
    (case nu_NotWaiting_InvalidOrder => kit_is)
    (case nu_NotWaiting_UnknownTransaction => kit_is)
    (case nu_NotWaiting_IsWaiting => kit_is)
    (case nu_NotWaiting_NotHeld => kit_is)
    (case nu_NotWaiting_TooMany => kit_is)
    (case nu_NotWaiting_NothingToUndo => kit_is)
    (case nu_NotWaiting_Impossible => kit_is)
    (case nu_NotWaiting_InvalidText => kit_is)
    (case nu_NotHeld_InvalidPoints => kit_is)
    (case nu_NotHeld_InvalidEntries => kit_is)
    (case nu_NotHeld_InvalidRange => kit_is)
    (case nu_NotHeld_InvalidNumber => kit_is)
    (case nu_NotHeld_InvalidWay => kit_is)
    (case nu_NotHeld_InvalidKind => kit_is)
    (case nu_NotHeld_InvalidScripts => kit_is)
    (case nu_NotHeld_InvalidTurns => kit_is)
    (case nu_NotHeld_InvalidLog => kit_is)
    (case nu_NotHeld_InvalidOrder => kit_is)
    (case nu_NotHeld_UnknownTransaction => kit_is)
    (case nu_NotHeld_IsWaiting => kit_is)
    (case nu_NotHeld_NotWaiting => kit_is)
    (case nu_NotHeld_TooMany => kit_is)
    (case nu_NotHeld_NothingToUndo => kit_is)
    (case nu_NotHeld_Impossible => kit_is)
    (case nu_NotHeld_InvalidText => kit_is)
    (case nu_TooMany_InvalidPoints => kit_is)
    (case nu_TooMany_InvalidEntries => kit_is)
    (case nu_TooMany_InvalidRange => kit_is)
    (case nu_TooMany_InvalidNumber => kit_is)
    (case nu_TooMany_InvalidWay => kit_is)
    (case nu_TooMany_InvalidKind => kit_is)
    (case nu_TooMany_InvalidScripts => kit_is)
    (case nu_TooMany_InvalidTurns => kit_is)
    (case nu_TooMany_InvalidLog => kit_is)
    (case nu_TooMany_InvalidOrder => kit_is)
    (case nu_TooMany_UnknownTransaction => kit_is)
    (case nu_TooMany_IsWaiting => kit_is)
    (case nu_TooMany_NotWaiting => kit_is)
    (case nu_TooMany_NotHeld => kit_is)
    (case nu_TooMany_NothingToUndo => kit_is)
    (case nu_TooMany_Impossible => kit_is)
    (case nu_TooMany_InvalidText => kit_is)
    (case nu_NothingToUndo_InvalidPoints => kit_is)
    (case nu_NothingToUndo_InvalidEntries => kit_is)
    (case nu_NothingToUndo_InvalidRange => kit_is)
    (case nu_NothingToUndo_InvalidNumber => kit_is)
    (case nu_NothingToUndo_InvalidWay => kit_is)
    (case nu_NothingToUndo_InvalidKind => kit_is)
    (case nu_NothingToUndo_InvalidScripts => kit_is)
    (case nu_NothingToUndo_InvalidTurns => kit_is)
    (case nu_NothingToUndo_InvalidLog => kit_is)
    (case nu_NothingToUndo_InvalidOrder => kit_is)
    (case nu_NothingToUndo_UnknownTransaction => kit_is)
    (case nu_NothingToUndo_IsWaiting => kit_is)
    (case nu_NothingToUndo_NotWaiting => kit_is)
    (case nu_NothingToUndo_NotHeld => kit_is)
    (case nu_NothingToUndo_TooMany => kit_is)
    (case nu_NothingToUndo_Impossible => kit_is)
    (case nu_NothingToUndo_InvalidText => kit_is)
    (case nu_Impossible_InvalidPoints => kit_is)
    (case nu_Impossible_InvalidEntries => kit_is)
    (case nu_Impossible_InvalidRange => kit_is)
    (case nu_Impossible_InvalidNumber => kit_is)
    (case nu_Impossible_InvalidWay => kit_is)
    (case nu_Impossible_InvalidKind => kit_is)
    (case nu_Impossible_InvalidScripts => kit_is)
    (case nu_Impossible_InvalidTurns => kit_is)
    (case nu_Impossible_InvalidLog => kit_is)
    (case nu_Impossible_InvalidOrder => kit_is)
    (case nu_Impossible_UnknownTransaction => kit_is)
    (case nu_Impossible_IsWaiting => kit_is)
    (case nu_Impossible_NotWaiting => kit_is)
    (case nu_Impossible_NotHeld => kit_is)
    (case nu_Impossible_TooMany => kit_is)
    (case nu_Impossible_NothingToUndo => kit_is)
    (case nu_Impossible_InvalidText => kit_is)
    (case nu_InvalidText_InvalidPoints => kit_is)
    (case nu_InvalidText_InvalidEntries => kit_is)
    (case nu_InvalidText_InvalidRange => kit_is)
    (case nu_InvalidText_InvalidNumber => kit_is)
    (case nu_InvalidText_InvalidWay => kit_is)
    (case nu_InvalidText_InvalidKind => kit_is)
    (case nu_InvalidText_InvalidScripts => kit_is)
    (case nu_InvalidText_InvalidTurns => kit_is)
    (case nu_InvalidText_InvalidLog => kit_is)
    (case nu_InvalidText_InvalidOrder => kit_is)
    (case nu_InvalidText_UnknownTransaction => kit_is)
    (case nu_InvalidText_IsWaiting => kit_is)
    (case nu_InvalidText_NotWaiting => kit_is)
    (case nu_InvalidText_NotHeld => kit_is)
    (case nu_InvalidText_TooMany => kit_is)
    (case nu_InvalidText_NothingToUndo => kit_is)
    (case nu_InvalidText_Impossible => kit_is)
    (case nu_LockError_InvalidPoints => kit_is)
    (case nu_LockError_InvalidEntries => kit_is)
    (case nu_LockError_InvalidRange => kit_is)
    (case nu_LockError_InvalidNumber => kit_is)
    (case nu_LockError_InvalidWay => kit_is)
    (case nu_LockError_InvalidKind => kit_is)
    (case nu_LockError_InvalidScripts => kit_is)
    (case nu_LockError_InvalidTurns => kit_is)
    (case nu_LockError_InvalidLog => kit_is)
    (case nu_LockError_InvalidOrder => kit_is)
    (case nu_LockError_UnknownTransaction => kit_is)
    (case nu_LockError_IsWaiting => kit_is)
    (case nu_LockError_NotWaiting => kit_is)
    (case nu_LockError_NotHeld => kit_is)
    (case nu_LockError_TooMany => kit_is)
    (case nu_LockError_NothingToUndo => kit_is)
    (case nu_LockError_Impossible => kit_is)
    (case nu_LockError_InvalidText => kit_is)
    (case kit_InvalidPoints_ValueError => kit_is)
    (case kit_InvalidEntries_ValueError => kit_is)
    (case kit_InvalidRange_ValueError => kit_is)
    (case kit_InvalidNumber_ValueError => kit_is)
    (case kit_InvalidWay_ValueError => kit_is)
    (case kit_InvalidKind_ValueError => kit_is)
    (case kit_InvalidScripts_ValueError => kit_is)
    (case kit_InvalidTurns_ValueError => kit_is)
    (case kit_InvalidLog_ValueError => kit_is)
    (case kit_InvalidOrder_ValueError => kit_is)
    (case kit_UnknownTransaction_ValueError => kit_is)
    (case kit_IsWaiting_ValueError => kit_is)
    (case kit_NotWaiting_ValueError => kit_is)
    (case kit_NotHeld_ValueError => kit_is)
    (case kit_TooMany_ValueError => kit_is)
    (case kit_NothingToUndo_ValueError => kit_is)
    (case kit_Impossible_ValueError => kit_is)
    (case kit_InvalidText_ValueError => kit_is)
    (case z_len => k_is)
    (case z_abs => k_is)
    (case z_max => k_is)
    (case z_min => k_is)
    (case z_range => k_is)
    (case z_sorted => k_is)
    (case z_set => k_is)
    (case z_list => k_is)
    (case z_tuple => k_is)
    (case z_dict => k_is)
    (case z_int => k_is)
    (case z_str => k_is)
    (case z_bool => k_is)
    (case z_all => k_is)
    (case z_any => k_is)
    (case z_sum => k_is)
    (case z_isinstance => k_is)
    (case z_repr => k_is)
    (case z_zip => k_is)
    (case z_enumerate => k_is)
#print axioms PySem.Challenge.cw_gapreach_k78_errors_made_holds
