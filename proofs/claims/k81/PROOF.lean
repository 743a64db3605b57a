import PyProof.Rows.All
import Wide.All
import OpenK.AllK
import Wide.FinOn
import HandS.ForMost
import HandS.Evl
import HandS.Codes
import HandS.WideBits
import HandS.Wide
import HandS.IsInst
import HandS.Property
import HandS.Star
import HandS.Steps
import HandS.NoneIn
import HandS.Set
import HandS.SetFor
import HandS.Strs
import KE.KUnpackStar
import HandS.RaiseMore
import HandS.Text
import HandS.Iter
import HandS.More
import KE.IntTextLaws
import HandS.ExcInit
import KE.KExcIs
import HandS.ExcOwn
import HandS.WordsExc
import HandS.Deep
import HandS.Dict
import KE.IntTextText
import HandS.DictTup
import HandS.Conv
import HandS.SortInts
import HandS.FStr
import HandS.Finally
import KE.KItemsList
import KE.KEqDict
import HandS.ExcIs
import PySem.Challenge.RW_gapreach_k81_entries_written_and_read
set_option Elab.async false
set_option linter.all false
set_option maxRecDepth 100000
set_option maxHeartbeats 4000000
namespace Gx
open PySem L2
/-! ### a list of three whole numbers that a def changes, known to its callers by what stays true of it -/
/-- at f stands a list of three whole numbers, the first one at least 0 -/
def FlowP (f : Addr) (h : Heap) : Prop := ∃ (x y z : Int) (t u v : Tok) (n : Nat), 0 ≤ x ∧ h.get? f = some { cls := .type "list", data := .seq #[.int x t, .int y u, .int z v] n }
def FlowO (f : Addr) : HO := .ext (FlowP f)
def three (x y z : Int) : HO := .lst [.int x, .int y, .int z]
section
variable {P : Program} {w : World} {K : PySem.W.Frag} {mg : Str → Option Value} {base : Heap} {H : Hp} {h : Heap} {f : Addr}
theorem flow_open (ok : HOk P w H h) (hf : H f = some (FlowO f)) : ∃ x y z, 0 ≤ x ∧ HOk P w (upd H f (three x y z)) h := by
  have q : ObjOk P w H h f (FlowO f) := ok f _ hf
  obtain ⟨⟨x, y, z, t, u, v, n, hx, e⟩, _, _⟩ := q
  refine ⟨x, y, z, hx, ok.write (by rw [hf]; trivial) (Or.inl rfl) (fun _ _ _ q => q) ⟨_, e⟩ ?_⟩
  exact ⟨(by decide : 3 ≤ sizeLine), _, n, .cons ⟨t, rfl⟩ (.cons ⟨u, rfl⟩ (.cons ⟨v, rfl⟩ .nil)), e⟩
theorem flow_close {x y z : Int} (ok : HOk P w H h) (hf : H f = some (three x y z)) (hx : 0 ≤ x) : HOk P w (upd H f (FlowO f)) h := by
  have q : ObjOk P w H h f (three x y z) := ok f _ hf
  obtain ⟨_, its, n, r, e⟩ := q
  have hp : FlowP f h := by
    cases r with
    | cons r1 r =>
      cases r with
      | cons r2 r =>
        cases r with
        | cons r3 r =>
          cases r
          obtain ⟨t, rfl⟩ := r1
          obtain ⟨u, rfl⟩ := r2
          obtain ⟨v, rfl⟩ := r3
          exact ⟨x, y, z, t, u, v, n, hx, e⟩
  refine ok.write (by rw [hf]; trivial) (Or.inl rfl) (fun _ _ _ q => q) ⟨_, e⟩ ?_
  exact ⟨hp, ⟨_, e⟩, fun h1 h2 p1 k => by
    obtain ⟨x, y, z, t, u, v, n, hx, e⟩ := p1
    exact ⟨x, y, z, t, u, v, n, hx, k _ e⟩⟩
/-- a def that is proved for the list as it stands keeps its promise for the list by what stays true of it -/
theorem flow_view {k : Nat} {fa : Addr} {fd : FuncData} {ps : List Str} {sp sp' : Sp} (F : FnOk P w K mg base CX0 k fa fd ps sp)
    (hs : ∀ vs H Q E, sp' vs H Q E → ∃ f, H f = some (FlowO f) ∧ ∀ x y z, 0 ≤ x → sp vs (upd H f (three x y z)) (fun v H' => (∃ x' y' z', 0 ≤ x' ∧ H' f = some (three x' y' z')) ∧ Q v (upd H' f (FlowO f))) E) :
    FnOk P w K mg base CX0 k fa fd ps sp' := by
  refine ⟨fun vs H Q E q => ?_, fun A outer s H args us vs Q E hr he hb hv q => ?_⟩
  · obtain ⟨f, _, k⟩ := hs vs H Q E q
    exact F.len _ _ _ _ (k 0 0 0 (Int.le_refl 0))
  · obtain ⟨f, hf, k⟩ := hs vs H Q E q
    obtain ⟨x, y, z, hx, ok1⟩ := flow_open he.hok hf
    have nf : ∀ b, H b = none → b ≠ f := fun b n e => by rw [e, hf] at n; cases n
    have mu : Mut (H f) := by rw [hf]; trivial
    have hof : ∃ o, s.heap.get? f = some o := by
      have q : ObjOk P w H s.heap f (FlowO f) := he.hok f _ hf
      exact q.2.1
    have he1 : Env0 P w K mg base A outer s (upd H f (three x y z)) :=
      ⟨he.frames, he.mod, fun b o e => ⟨(he.bs b o e).1, by rw [upd_ne (nf b (he.bs b o e).2)]; exact (he.bs b o e).2⟩, he.bsz, he.funs, fun b hb => by rw [upd_ne (nf b (he.frf b hb))]; exact he.frf b hb, ok1, he.bare⟩
    refine codeAny_mono (F.run A outer s _ args us vs _ E hr he1 hb hv (k x y z hx)) fun r s' hq => ?_
    cases r with
    | error e => exact hq.elim
    | ok fl =>
      cases fl with
      | ret u =>
        obtain ⟨v, H', os, bare, un, hok, rv, ⟨x', y', z', hx', e'⟩, q'⟩ := hq
        refine ⟨v, upd H' f (FlowO f), os, bare, ?_, flow_close hok e' hx', rv, q'⟩
        have u1 : Un (frs outer) [] H (upd H f (three x y z)) s.heap s.heap := Un.write mu (Or.inl rfl) (fun _ _ _ q => q) hof
        have hof' : ∃ o, s'.heap.get? f = some o := by
          have q : ObjOk P w H' s'.heap f (three x' y' z') := hok f _ e'
          obtain ⟨_, its, n, r, e⟩ := q
          exact ⟨_, e⟩
        have u2 : Un (frs outer) [] H' (upd H' f (FlowO f)) s'.heap s'.heap := Un.write (by rw [e']; trivial) (Or.inl rfl) (fun _ _ _ q => q) hof'
        exact (u1.trans un).trans u2
      | next => exact hq.elim
      | brk => exact hq.elim
      | cont => exact hq.elim
end
end Gx

namespace Gx
open PySem L2
/-! ### readings, from the left: each of these takes one step -/
section
variable {σ : L2.St} {H H' : Hp} {Q : VK} {K : PySem.W.Frag} {v x y : V} {ta tb te tc : TE} {tt tu : TT} {t u : TS} {D : Ends} {i j : Nat} {r : R2}
theorem g_var (h : σ[i]? = some (some v)) (q : Q v H) : tVar i σ H Q := ⟨v, h, q⟩
theorem g_c (q : Q v H) : tC v σ H Q := q
theorem g_op (q : ta σ H fun x H1 => tb σ H1 fun y H2 => r x y H2 Q) : tOp r ta tb σ H Q := q
theorem g_I0 {g : Int → Int → V} {a b : Int} (q : Q (g a b) H) : rI0 g (.int a) (.int b) H Q := ⟨a, b, rfl, rfl, q⟩
theorem g_I {C : Int → Int → Prop} {g : Int → Int → V} {a b : Int} (hc : C a b) (q : Q (g a b) H) : rI C g (.int a) (.int b) H Q := ⟨a, b, rfl, rfl, hc, q⟩
theorem g_mod {a b : Int} (hb : 0 < b) (q : ∀ r, 0 ≤ r → r < b → Q (.int r) H) : rI (fun _ j => 0 < j) (fun i j => .int (i % j)) (.int a) (.int b) H Q :=
  ⟨a, b, rfl, rfl, hb, q _ (Int.emod_nonneg _ (by omega)) (Int.emod_lt_of_pos _ hb)⟩
theorem g_Imul {a b : Int} (hc : CMul a b) (q : Q (.int (a * b)) H) : rI CMul (fun i j => .int (i * j)) (.int a) (.int b) H Q := ⟨a, b, rfl, rfl, hc, q⟩
theorem g_Idiv {a b : Int} (hc : CDivW a b) (q : Q (.int (a / b)) H) : rI CDivW (fun i j => .int (i / j)) (.int a) (.int b) H Q := ⟨a, b, rfl, rfl, hc, q⟩
theorem g_Imod {a b : Int} (hc : 0 < b) (q : Q (.int (a % b)) H) : rI (fun _ j => 0 < j) (fun i j => .int (i % j)) (.int a) (.int b) H Q := ⟨a, b, rfl, rfl, hc, q⟩
theorem g_pow3 {a b : Int} (hc : CPow a b) (q : Q (.int (a ^ b.toNat)) H) : rI CPow (fun i j => .int (i ^ j.toNat)) (.int a) (.int b) H Q := ⟨a, b, rfl, rfl, hc, q⟩
theorem g_un {r : V → Hp → VK → Prop} (q : ta σ H fun x H1 => r x H1 Q) : tUn r ta σ H Q := q
theorem g_U {g : Int → V} {a : Int} (q : Q (g a) H) : rU g (.int a) H Q := ⟨a, rfl, q⟩
theorem g_eq (h : scal x y = true) (q : Q (.bl (decide (x = y))) H) : rEq x y H Q := ⟨h, q⟩
theorem g_ne (h : scal x y = true) (q : Q (.bl (!decide (x = y))) H) : rNe x y H Q := ⟨h, q⟩
theorem g_exbl {b : Bool} {P : Bool → Prop} (h : P b) : ∃ k, V.bl b = V.bl k ∧ P k := ⟨b, rfl, h⟩
theorem g_test {Q : Bool → Hp → Prop} (q : te σ H fun x H1 => ∃ k, x = .bl k ∧ Q k H1) : tTest te σ H Q := q
theorem g_B {Q : Bool → Hp → Prop} (q : te σ H fun x H1 => ∃ k, x = .bl k ∧ Q k H1) : tB te σ H Q := q
theorem g_not {Q : Bool → Hp → Prop} (q : tt σ H fun c H1 => Q (!c) H1) : tNot tt σ H Q := q
theorem g_and {Q : Bool → Hp → Prop} (q : tt σ H fun c H1 => if c = true then tu σ H1 Q else Q false H1) : tAnd tt tu σ H Q := q
theorem g_or {Q : Bool → Hp → Prop} (q : tt σ H fun c H1 => if c = true then Q true H1 else tu σ H1 Q) : tOr tt tu σ H Q := q
theorem g_andV (q : ta σ H fun x H1 => ∃ c, x = .bl c ∧ if c = true then tb σ H1 Q else Q (.bl false) H1) : tAndV ta tb σ H Q := q
theorem g_orV (q : ta σ H fun x H1 => ∃ c, x = .bl c ∧ if c = true then Q (.bl true) H1 else tb σ H1 Q) : tOrV ta tb σ H Q := q
theorem g_notV (q : ta σ H fun x H1 => ∃ c, x = .bl c ∧ Q (.bl (!c)) H1) : tNotV ta σ H Q := q
theorem g_ifE (q : tt σ H fun c H1 => if c = true then ta σ H1 Q else tb σ H1 Q) : tIf tt ta tb σ H Q := q
theorem g_isN (q : ta σ H fun x H1 => Q (.bl (decide (x = .non))) H1) : tIsN ta σ H Q := q
theorem g_cons {tr : TA} {Q : List V → Hp → Prop} (q : ta σ H fun x H1 => tr σ H1 fun xs H2 => Q (x :: xs) H2) : tCons ta tr σ H Q := q
theorem g_nil {Q : List V → Hp → Prop} (q : Q [] H) : tNil σ H Q := q
theorem g_CB {r : List V → Hp → VK → Prop} {tr : TA} (q : tr σ H fun vs H1 => r vs H1 Q) : tCB r tr σ H Q := q
theorem g_chain {r' : R2} (q : ta σ H fun x H1 => tb σ H1 fun y H2 => r x y H2 fun z H3 => ∃ k, z = .bl k ∧ (if k = true then tc σ H3 fun w' H4 => r' y w' H4 Q else Q (.bl false) H3)) : tChain r r' ta tb tc σ H Q := q
-- statements
theorem g_seq (q : t { D with nx := u D } σ H) : tSeq t u D σ H := q
theorem g_next (q : D.nx σ H) : tNext D σ H := q
theorem g_asg {g : TG} (q : te σ H fun x H1 => g x σ H1 D.nx) : tAsg te g D σ H := q
theorem g_name {Q : L2.St → Hp → Prop} (q : Q (σ.set i (some v)) H) : gName i v σ H Q := q
theorem g_sub {to ti : TE} {s : TSet} {Q : L2.St → Hp → Prop} (q : to σ H fun o H1 => ti σ H1 fun i H2 => s o i v H2 fun H3 => Q σ H3) : gSub to ti s v σ H Q := q
theorem g_drop (q : te σ H fun _ H1 => D.nx σ H1) : tDrop te D σ H := q
theorem g_ret (q : te σ H D.rt) : tRet te D σ H := q
theorem g_retN (q : D.rt .non H) : tRetN D σ H := q
theorem g_ifS (q : tt σ H fun b H1 => if b = true then t D σ H1 else u D σ H1) : tIfS tt t u D σ H := q
theorem g_par {ts : TA} (q : ts σ H fun vs H1 => ∃ v w, vs = [v, w] ∧ D.nx ((σ.set i (some v)).set j (some w)) H1) : tPar i j ts D σ H := q
theorem g_expar {v w : V} {P : V → V → Prop} (h : P v w) : ∃ a b, [v, w] = [a, b] ∧ P a b := ⟨v, w, rfl, h⟩
-- tests decided
theorem g_ite {c : Prop} [Decidable c] {A B : Prop} (h1 : c → A) (h2 : ¬ c → B) : if decide c = true then A else B := by
  by_cases h : c
  · rw [if_pos (decide_eq_true h)]
    exact h1 h
  · rw [if_neg (by rw [decide_eq_false h]; exact Bool.false_ne_true)]
    exact h2 h
theorem g_iteN {c : Prop} [Decidable c] {A B : Prop} (h1 : ¬ c → A) (h2 : c → B) : if (!decide c) = true then A else B := by
  by_cases h : c
  · rw [if_neg (by rw [decide_eq_true h]; exact Bool.false_ne_true)]
    exact h2 h
  · rw [if_pos (by rw [decide_eq_false h]; rfl)]
    exact h1 h
/-- an if whose two ways meet: what holds where they meet is said once -/
theorem g_iteJ {c : Prop} [Decidable c] {N Bk Ct : L2.St → Hp → Prop} {R : VK} (Mid : L2.St → Hp → Prop) (tail : ∀ σ' H', Mid σ' H' → N σ' H')
    (h1 : ∀ N' : L2.St → Hp → Prop, (∀ σ' H', Mid σ' H' → N' σ' H') → c → t ⟨N', R, Bk, Ct⟩ σ H) (h2 : ∀ N' : L2.St → Hp → Prop, (∀ σ' H', Mid σ' H' → N' σ' H') → ¬ c → u ⟨N', R, Bk, Ct⟩ σ H) :
    if decide c = true then t ⟨N, R, Bk, Ct⟩ σ H else u ⟨N, R, Bk, Ct⟩ σ H := g_ite (fun h => h1 N tail h) fun h => h2 N tail h
theorem g_iteNJ {c : Prop} [Decidable c] {N Bk Ct : L2.St → Hp → Prop} {R : VK} (Mid : L2.St → Hp → Prop) (tail : ∀ σ' H', Mid σ' H' → N σ' H')
    (h1 : ∀ N' : L2.St → Hp → Prop, (∀ σ' H', Mid σ' H' → N' σ' H') → ¬ c → t ⟨N', R, Bk, Ct⟩ σ H) (h2 : ∀ N' : L2.St → Hp → Prop, (∀ σ' H', Mid σ' H' → N' σ' H') → c → u ⟨N', R, Bk, Ct⟩ σ H) :
    if (!decide c) = true then t ⟨N, R, Bk, Ct⟩ σ H else u ⟨N, R, Bk, Ct⟩ σ H := g_iteN (fun h => h1 N tail h) fun h => h2 N tail h
theorem g_iteJB {b : Bool} {N Bk Ct : L2.St → Hp → Prop} {R : VK} (Mid : L2.St → Hp → Prop) (tail : ∀ σ' H', Mid σ' H' → N σ' H')
    (h1 : ∀ N' : L2.St → Hp → Prop, (∀ σ' H', Mid σ' H' → N' σ' H') → b = true → t ⟨N', R, Bk, Ct⟩ σ H) (h2 : ∀ N' : L2.St → Hp → Prop, (∀ σ' H', Mid σ' H' → N' σ' H') → b = false → u ⟨N', R, Bk, Ct⟩ σ H) :
    if b = true then t ⟨N, R, Bk, Ct⟩ σ H else u ⟨N, R, Bk, Ct⟩ σ H := by
  cases b with
  | true => rw [if_pos rfl]; exact h1 N tail rfl
  | false => rw [if_neg Bool.false_ne_true]; exact h2 N tail rfl
-- a subscript
theorem g_ixL {p : Addr} {xs : List V} {k : Int} (h : SqL K H p xs) (ha : atI xs k = some v) (q : Q v H) : rIxL K (.ref p) (.int k) H Q := ⟨p, xs, k, v, rfl, rfl, h, ha, q⟩
theorem g_setL {p : Addr} {xs : List V} {k : Int} {n : Nat} {Q : Hp → Prop} (h : H p = some (.lst xs)) (hn : ixN xs.length k = some n) (q : Q (upd H p (.lst (xs.set n v)))) : rSetL (.ref p) (.int k) v H Q := ⟨p, xs, k, n, rfl, rfl, h, hn, q⟩
theorem g_bits {to : TE} (q : to σ H fun x H1 => ∃ i, x = .int i ∧ Q (.int (Builtin.Int.intBits i : Nat)) H1) : tBits to σ H Q := q
theorem g_exint {a : Int} {P : Int → Prop} (h : P a) : ∃ i, V.int a = V.int i ∧ P i := ⟨a, rfl, h⟩
/-- a for's turns, the source known -/
def FW (g : TG) (tb : TS) (D : Ends) (J : It) (σ : L2.St) (H : Hp) : Prop := ∃ W : Nat → Nat → L2.St → Hp → Prop, (∃ m, W 0 m σ H) ∧ ∀ i m σ H, W i m σ H →
  (J.stop i H ∧ D.nx σ H) ∨ (J.go i H ∧ ∃ N : L2.St → Hp → Prop, (∀ σ' H', N σ' H' → ∃ m', m' < m ∧ W (i + 1) m' σ' H') ∧ ∀ x H', J.yld i H x H' → g x σ H' fun σ2 H2 => tb { D with nx := N, ct := N, bk := D.nx } σ2 H2)
theorem g_for {wi : TI} {g : TG} {tb : TS} (q : wi σ H fun J H1 => FW g tb D J σ H1) : tFor wi g tb D σ H := q
theorem g_iRng1 {ta : TA} {R : It → Hp → Prop} (q : ta σ H fun vs H1 => ∃ n : Int, vs = [.int n] ∧ -(2 ^ 62) ≤ n ∧ n < 2 ^ 62 ∧ R (Itr 0 n.toNat) H1) : iRng1 ta σ H R := q
theorem g_exR1 {n : Int} {R : Int → Prop} (h1 : -(2 ^ 62) ≤ n) (h2 : n < 2 ^ 62) (q : R n) : ∃ k : Int, [V.int n] = [V.int k] ∧ -(2 ^ 62) ≤ k ∧ k < 2 ^ 62 ∧ R k := ⟨n, rfl, h1, h2, q⟩
theorem g_iRng2 {ta : TA} {R : It → Hp → Prop} (q : ta σ H fun vs H1 => ∃ i j : Int, vs = [.int i, .int j] ∧ (-(2 ^ 62) ≤ i ∧ i < 2 ^ 62 ∧ -(2 ^ 62) ≤ j ∧ j < 2 ^ 62) ∧ R (Itr i (j - i).toNat) H1) : iRng2 ta σ H R := q
theorem g_exR2 {n m : Int} {R : Int → Int → Prop} (h : -(2 ^ 62) ≤ n ∧ n < 2 ^ 62 ∧ -(2 ^ 62) ≤ m ∧ m < 2 ^ 62) (q : R n m) : ∃ i j : Int, [V.int n, V.int m] = [V.int i, V.int j] ∧ (-(2 ^ 62) ≤ i ∧ i < 2 ^ 62 ∧ -(2 ^ 62) ≤ j ∧ j < 2 ^ 62) ∧ R i j := ⟨n, m, rfl, h, q⟩
theorem g_iList {tl : TE} {R : It → Hp → Prop} (q : tl σ H fun x H1 => ∃ a, x = .ref a ∧ (∃ xs, SqL K H1 a xs) ∧ R (Itl K a) H1) : iList K tl σ H R := q
theorem g_exL {a : Addr} {xs : List V} {R : Addr → Prop} (h : SqL K H a xs) (q : R a) : ∃ b, V.ref a = V.ref b ∧ (∃ xs, SqL K H b xs) ∧ R b := ⟨a, rfl, ⟨xs, h⟩, q⟩
theorem g_iTup {tl : TE} {R : It → Hp → Prop} (q : tl σ H fun x H1 => ∃ a, x = .ref a ∧ (∃ xs, SqT K H1 a xs) ∧ R (Itt K a) H1) : iTup K tl σ H R := q
theorem g_exT {a : Addr} {xs : List V} {R : Addr → Prop} (h : SqT K H a xs) (q : R a) : ∃ b, V.ref a = V.ref b ∧ (∃ xs, SqT K H b xs) ∧ R b := ⟨a, rfl, ⟨xs, h⟩, q⟩
theorem fw_range {lo : Int} {n : Nat} {g : TG} {tb : TS} (Pv : Nat → L2.St → Hp → Prop) (h0 : Pv 0 σ H)
    (hs : ∀ i σ H, i < n → Pv i σ H → g (.int (lo + (i : Int))) σ H fun σ2 H2 => tb { D with nx := Pv (i + 1), ct := Pv (i + 1), bk := D.nx } σ2 H2) (hd : ∀ σ H, Pv n σ H → D.nx σ H) : FW g tb D (Itr lo n) σ H := for_range Pv h0 hs hd
theorem fw_list {a : Addr} {xs : List V} {g : TG} {tb : TS} (Pv : Nat → L2.St → Hp → Prop) (h0 : Pv 0 σ H) (hl : ∀ i σ H, i ≤ xs.length → Pv i σ H → SqL K H a xs)
    (hs : ∀ i x σ H, xs[i]? = some x → Pv i σ H → g x σ H fun σ2 H2 => tb { D with nx := Pv (i + 1), ct := Pv (i + 1), bk := D.nx } σ2 H2) (hd : ∀ σ H, Pv xs.length σ H → D.nx σ H) : FW g tb D (Itl K a) σ H := for_list Pv h0 hl hs hd
theorem fw_tup {a : Addr} {xs : List V} {g : TG} {tb : TS} (Pv : Nat → L2.St → Hp → Prop) (h0 : Pv 0 σ H) (hl : ∀ i σ H, i ≤ xs.length → Pv i σ H → SqT K H a xs)
    (hs : ∀ i x σ H, xs[i]? = some x → Pv i σ H → g x σ H fun σ2 H2 => tb { D with nx := Pv (i + 1), ct := Pv (i + 1), bk := D.nx } σ2 H2) (hd : ∀ σ H, Pv xs.length σ H → D.nx σ H) : FW g tb D (Itt K a) σ H := for_tup Pv h0 hl hs hd
end
end Gx

namespace Gx
open PySem L2
/-- the built-in names that the text leaves alone -/
structure Bt (mg : Str → Option Value) : Prop where
  n_len : mg "len" = none
  n_abs : mg "abs" = none
  n_max : mg "max" = none
  n_min : mg "min" = none
  n_range : mg "range" = none
  n_sorted : mg "sorted" = none
  n_set : mg "set" = none
  n_list : mg "list" = none
  n_tuple : mg "tuple" = none
  n_dict : mg "dict" = none
  n_int : mg "int" = none
  n_str : mg "str" = none
  n_bool : mg "bool" = none
  n_all : mg "all" = none
  n_any : mg "any" = none
  n_sum : mg "sum" = none
  n_isinstance : mg "isinstance" = none
  n_repr : mg "repr" = none
  n_zip : mg "zip" = none
  n_enumerate : mg "enumerate" = none
/-- a def of the module, as it stands behind the top -/
structure Dn (K : PySem.W.Frag) (mg : Str → Option Value) (x : Str) (st : Stmt) (ps : List Str) (f : Addr) (fd : FuncData) : Prop where
  fn : Fun K x x st f fd
  mgf : mg x = some (.ref f)
  bd : Binds K fd ps []
section
variable {P : Program} {w : World} {K : PySem.W.Frag} {mg : Str → Option Value} {base : Heap}
theorem cal_of {x : Str} {st : Stmt} {ps : List Str} {f : Addr} {fd : FuncData} {k : Nat} {sp : Sp} (D : Dn K mg x st ps f fd) (F : FnOk P w K mg base CX0 k f fd ps sp) : C8.Cal P w K mg base k x sp [] :=
  ⟨f, fd, ps, [], F, D.mgf, D.fn.kp, D.bd, .nil⟩
end
/-! ### what a draw's def does to the list that it draws from -/
def spDip0 : Sp := fun vs H Q _ => ∃ (f : Addr) (x y z m : Int), vs = [.ref f, .int m] ∧ H f = some (three x y z) ∧ 0 ≤ x ∧ 0 < m ∧ m.natAbs < 2 ^ 1000 ∧
  ∀ r x' y' z' : Int, 0 ≤ r → r < m → 0 ≤ x' → Q (.int r) (upd H f (three x' y' z'))
/-- a number from 0 below m; all that was tracked stays -/
def spDip : Sp := fun vs H Q _ => ∃ (f : Addr) (m : Int), vs = [.ref f, .int m] ∧ H f = some (FlowO f) ∧ 0 < m ∧ m.natAbs < 2 ^ 1000 ∧
  ∀ (r : Int) (H' : Hp), 0 ≤ r → r < m → Same H H' → Q (.int r) H'
theorem dip_view {P : Program} {w : World} {K : PySem.W.Frag} {mg : Str → Option Value} {base : Heap} {k : Nat} {fa : Addr} {fd : FuncData} {ps : List Str} (F : FnOk P w K mg base CX0 k fa fd ps spDip0) : FnOk P w K mg base CX0 k fa fd ps spDip := by
  refine flow_view F fun vs H Q E h => ?_
  obtain ⟨f, m, rfl, hf, h0, hm, k⟩ := h
  refine ⟨f, hf, fun x y z hx => ⟨f, x, y, z, m, rfl, upd_same, hx, h0, hm, fun r x' y' z' h1 h2 h3 => ⟨⟨x', y', z', h3, upd_same⟩, k r _ h1 h2 fun b o e => ?_⟩⟩⟩
  by_cases hb : b = f
  · subst hb
    rw [hf] at e
    cases e
    exact upd_same
  · rw [upd_ne hb, upd_ne hb, upd_ne hb]
    exact e
/-- a def that makes such a list -/
theorem flow_made {P : Program} {w : World} {K : PySem.W.Frag} {mg : Str → Option Value} {base : Heap} {k : Nat} {fa : Addr} {fd : FuncData} {ps : List Str} {sp sp' : Sp} (F : FnOk P w K mg base CX0 k fa fd ps sp)
    (hs : ∀ vs H Q E, sp' vs H Q E → sp vs H (fun v H' => ∃ f x y z, v = .ref f ∧ 0 ≤ x ∧ H' f = some (three x y z) ∧ Q v (upd H' f (FlowO f))) E) : FnOk P w K mg base CX0 k fa fd ps sp' := by
  refine ⟨fun vs H Q E q => F.len _ _ _ _ (hs vs H Q E q), fun A outer s H args us vs Q E hr he hb hv q => ?_⟩
  refine codeAny_mono (F.run A outer s _ args us vs _ E hr he hb hv (hs vs H Q E q)) fun r s' hq => ?_
  cases r with
  | error e => exact hq.elim
  | ok fl =>
    cases fl with
    | ret u =>
      obtain ⟨v, H', os, bare, un, hok, rv, f, x, y, z, ev, hx, e', q'⟩ := hq
      have there : ∃ o, s'.heap.get? f = some o := by
        have q : ObjOk P w H' s'.heap f (three x y z) := hok f _ e'
        obtain ⟨_, its, n, r, e⟩ := q
        exact ⟨_, e⟩
      exact ⟨v, upd H' f (FlowO f), os, bare, un.trans (Un.write (by rw [e']; trivial) (Or.inl rfl) (fun _ _ _ q => q) there), flow_close hok e' hx, rv, q'⟩
    | next => exact hq.elim
    | brk => exact hq.elim
    | cont => exact hq.elim
end Gx

namespace Gx
open PySem L2
/-! ### heaps that keep what they had -/
theorem same_get {H H' : Hp} {a : Addr} {o : HO} (s : Same H H') (h : H a = some o) : H' a = some o := s a o h
theorem same_new {H : Hp} {p : Addr} {o : HO} (h : H p = none) : Same H (upd H p o) := fun a u e => by
  rw [upd_ne (ne_of_none e h)]
  exact e
theorem same_mut {H H' : Hp} {p : Addr} {o : HO} (s : Same H H') (h : H p = none) : Same H (upd H' p o) := fun a u ha => by
  rw [upd_ne (ne_of_none ha h)]
  exact s a u ha
theorem same_sq {K : PySem.W.Frag} {H H' : Hp} {a : Addr} {xs : List V} (e : Same H H') (h : SqL K H a xs) : SqL K H' a xs := e.seq h
theorem same_rd {H H' : Hp} {a : Addr} {u : HO} (e : Same H H') (h : Rd H a u) : Rd H' a u := by
  rcases h with h | ⟨o, h⟩
  · exact Or.inl (e a _ h)
  · exact Or.inr ⟨o, e a _ h⟩
theorem same_sqT {K : PySem.W.Frag} {H H' : Hp} {a : Addr} {xs : List V} (e : Same H H') (h : SqT K H a xs) : SqT K H' a xs := by
  rcases h with h | h
  · exact Or.inl (same_rd e h)
  · exact Or.inr h
theorem same_free {H H' : Hp} {p : Addr} (e : Same H H') (h : H' p = none) : H p = none := e.free h
theorem big_le {n : Nat} (h : n ≤ 100000) : n ≤ sizeLine := Nat.le_trans h (by decide)
theorem big_lt {n : Nat} (h : n < 100000) : n < sizeLine := Nat.lt_of_lt_of_le h (by decide)
section
variable {σ : L2.St} {H H0 : Hp} {Q : VK} {K : PySem.W.Frag} {v x y : V} {E : XK}
/-! ### displays -/
def MkL (xs : List V) (H : Hp) (Q : VK) : Prop := xs.length ≤ sizeLine ∧ ∀ p, H p = none → Q (.ref p) (upd H p (.lst xs))
def MkT (xs : List V) (H : Hp) (Q : VK) : Prop := xs.length ≤ sizeLine ∧ ∀ p, H p = none → Q (.ref p) (upd H p (.tup xs))
theorem g_lst {ts : TA} (q : ts σ H fun xs H1 => MkL xs H1 Q) : tLst ts σ H Q := q
theorem g_tup {ts : TA} (q : ts σ H fun xs H1 => MkT xs H1 Q) : tTup ts σ H Q := q
theorem g_mkL {xs : List V} (hl : xs.length ≤ 100000) (k : ∀ p H', H p = none → Same H H' → H' p = some (.lst xs) → Q (.ref p) H') : MkL xs H Q :=
  ⟨big_le hl, fun p hp => k p _ hp (same_new hp) upd_same⟩
theorem g_mkT {xs : List V} (hl : xs.length ≤ 100000) (k : ∀ p H', H p = none → Same H H' → H' p = some (.tup xs) → Q (.ref p) H') : MkT xs H Q :=
  ⟨big_le hl, fun p hp => k p _ hp (same_new hp) upd_same⟩
/-! ### an item of a written list at a drawn place: what all of them have -/
theorem atI_in {xs : List V} {i : Int} (h0 : 0 ≤ i) (h1 : i < xs.length) : ∃ v, atI xs i = some v ∧ v ∈ xs := by
  have hj : i.toNat < xs.length := by omega
  refine ⟨xs[i.toNat], ?_, List.getElem_mem hj⟩
  have e : ((i.toNat : Nat) : Int) = i := by omega
  have z := atI_nat (List.getElem?_eq_getElem hj)
  rw [e] at z
  exact z
theorem g_ixP {p : Addr} {xs : List V} {i : Int} (P : V → Prop) (h : H p = some (.lst xs)) (h0 : 0 ≤ i) (h1 : i < xs.length) (all : ∀ x ∈ xs, P x) (q : ∀ v, P v → Q v H) : rIxL K (.ref p) (.int i) H Q := by
  obtain ⟨v, e, m⟩ := atI_in h0 h1
  exact ⟨p, xs, i, v, rfl, rfl, SqL.of h, e, q v (all v m)⟩
/-- .. of ints -/
theorem g_ixI {p : Addr} {xs : List V} {i : Int} (P : Int → Prop) (h : H p = some (.lst xs)) (h0 : 0 ≤ i) (h1 : i < xs.length) (all : ∀ x ∈ xs, ∃ n, x = .int n ∧ P n) (q : ∀ n, P n → Q (.int n) H) : rIxL K (.ref p) (.int i) H Q :=
  g_ixP _ h h0 h1 all fun v ⟨n, e, pn⟩ => by subst e; exact q n pn
theorem all_nil {P : V → Prop} : ∀ x ∈ ([] : List V), P x := fun _ h => nomatch h
theorem all_cons {P : V → Prop} {x : V} {xs : List V} (h : P x) (r : ∀ y ∈ xs, P y) : ∀ y ∈ x :: xs, P y := fun y hy => by
  rcases List.mem_cons.mp hy with rfl | hy
  · exact h
  · exact r y hy
/-- an int of a list of ints, at any place of it -/
theorem g_ixN {p : Addr} {ns : List Int} {i : Int} (h : SqL K H p (ns.map V.int)) (h0 : 0 ≤ i) (h1 : i < ns.length) (q : ∀ n, n ∈ ns → ns[i.toNat]? = some n → Q (.int n) H) : rIxL K (.ref p) (.int i) H Q := by
  have hj : i.toNat < ns.length := by omega
  have e : ((i.toNat : Nat) : Int) = i := by omega
  have z : (ns.map V.int)[i.toNat]? = some (.int ns[i.toNat]) := by rw [List.getElem?_map, List.getElem?_eq_getElem hj] <;> rfl
  have z2 := atI_nat z
  rw [e] at z2
  exact ⟨p, _, i, _, rfl, rfl, h, z2, q _ (List.getElem_mem hj) (List.getElem?_eq_getElem hj)⟩
/-! ### append, and calls of built-ins -/
theorem g_BM {T : String} {r : V → List V → Hp → VK → Prop} {to : TE} {t : TA} (q : to σ H fun x H1 => tyV K T x H1 ∧ t σ H1 fun xs H2 => r x xs H2 Q) : tBM K T r to t σ H Q := q
theorem g_BM0 {T : String} {r : V → List V → Hp → VK → Prop} {to : TE} (q : to σ H fun x H1 => tyV K T x H1 ∧ r x [] H1 Q) : tBM0 K T r to σ H Q := q
theorem ty_list {p : Addr} {xs : List V} (h : H p = some (.lst xs)) : tyV K "list" (.ref p) H := Or.inl ⟨rfl, xs, SqL.of h⟩
theorem g_tyL {p : Addr} {xs : List V} {P : Prop} (h : H p = some (.lst xs)) (q : P) : tyV K "list" (.ref p) H ∧ P := ⟨ty_list h, q⟩
theorem g_app {p : Addr} {xs : List V} (s : Same H0 H) (n : H0 p = none) (h : H p = some (.lst xs)) (hl : xs.length < 100000) (k : ∀ H', Same H0 H' → H' p = some (.lst (xs ++ [y])) → Q .non H') : rAppend (.ref p) [y] H Q :=
  ⟨p, xs, y, rfl, rfl, h, big_lt hl, k _ (same_mut s n) upd_same⟩
def rLenQ (K : PySem.W.Frag) : List V → Hp → VK → Prop := fun xs H Q => ∃ p ys, xs = [.ref p] ∧ (SqL K H p ys ∨ SqT K H p ys) ∧ Q (.int ys.length) H
def rAbsQ : List V → Hp → VK → Prop := fun xs H Q => ∃ i, xs = [.int i] ∧ Q (.int (if i < 0 then -i else i)) H
def rMaxQ : List V → Hp → VK → Prop := fun xs H Q => ∃ i j, xs = [.int i, .int j] ∧ Q (.int (if j > i then j else i)) H
def rMinQ : List V → Hp → VK → Prop := fun xs H Q => ∃ i j, xs = [.int i, .int j] ∧ Q (.int (if j < i then j else i)) H
def rIntQ : List V → Hp → VK → Prop := fun xs H Q => (∃ i, xs = [.int i] ∧ Q (.int i) H) ∨ ∃ k, xs = [.bl k] ∧ Q (.int (if k then 1 else 0)) H
def rListQ (K : PySem.W.Frag) : List V → Hp → VK → Prop := fun xs H Q => ∃ p ys, xs = [.ref p] ∧ (SqL K H p ys ∨ SqT K H p ys) ∧ ∀ l, H l = none → Q (.ref l) (upd H l (.lst ys))
theorem cr_lenQ {X : Cx} : CallR X (.builtin "len") (rLenQ X.K) := call_len_seq
theorem cr_absQ {X : Cx} : CallR X (.builtin "abs") rAbsQ := call_abs
theorem cr_maxQ {X : Cx} (hc : X.calm = true) : CallR X (.builtin "max") rMaxQ := call_max2 hc
theorem cr_minQ {X : Cx} (hc : X.calm = true) : CallR X (.builtin "min") rMinQ := call_min2 hc
theorem cr_intQ {X : Cx} : CallR X (.type "int") rIntQ := call_int1
theorem cr_listQ {X : Cx} : CallR X (.type "list") (rListQ X.K) := call_list_of
theorem g_len {p : Addr} {xs : List V} (h : SqL K H p xs) (q : Q (.int (xs.length : Int)) H) : rLenQ K [V.ref p] H Q := ⟨p, xs, rfl, .inl h, q⟩
theorem g_lenT {p : Addr} {xs : List V} (h : SqT K H p xs) (q : Q (.int (xs.length : Int)) H) : rLenQ K [V.ref p] H Q := ⟨p, xs, rfl, .inr h, q⟩
theorem g_min2 {a b : Int} (q : ∀ c, c ≤ a → c ≤ b → (c = a ∨ c = b) → Q (.int c) H) : rMinQ [V.int a, V.int b] H Q :=
  ⟨a, b, rfl, by split <;> exact q _ (by omega) (by omega) (by omega)⟩
theorem g_max2 {a b : Int} (q : ∀ c, a ≤ c → b ≤ c → (c = a ∨ c = b) → Q (.int c) H) : rMaxQ [V.int a, V.int b] H Q :=
  ⟨a, b, rfl, by split <;> exact q _ (by omega) (by omega) (by omega)⟩
theorem g_abs {a : Int} (q : ∀ c, 0 ≤ c → (c = a ∨ c = -a) → Q (.int c) H) : rAbsQ [V.int a] H Q :=
  ⟨a, rfl, by split <;> exact q _ (by omega) (by omega)⟩
theorem g_intB {b : Bool} (q : Q (.int (if b = true then 1 else 0)) H) : rIntQ [V.bl b] H Q := .inr ⟨b, rfl, q⟩
theorem g_listof {p : Addr} {xs : List V} (h : SqL K H p xs) (k : ∀ l H', H l = none → Same H H' → H' l = some (.lst xs) → Q (.ref l) H') : rListQ K [V.ref p] H Q :=
  ⟨p, xs, rfl, .inl h, fun l hl => k l _ hl (same_new hl) upd_same⟩
theorem bt_len : bootBuiltins "len" = some (.builtin "len") := by decide +kernel
theorem bt_abs : bootBuiltins "abs" = some (.builtin "abs") := by decide +kernel
theorem bt_max : bootBuiltins "max" = some (.builtin "max") := by decide +kernel
theorem bt_min : bootBuiltins "min" = some (.builtin "min") := by decide +kernel
theorem bt_sorted : bootBuiltins "sorted" = some (.builtin "sorted") := by decide +kernel
theorem bt_all : bootBuiltins "all" = some (.builtin "all") := by decide +kernel
theorem bt_any : bootBuiltins "any" = some (.builtin "any") := by decide +kernel
theorem bt_sum : bootBuiltins "sum" = some (.builtin "sum") := by decide +kernel
theorem bt_repr : bootBuiltins "repr" = some (.builtin "repr") := by decide +kernel
theorem bt_isinstance : bootBuiltins "isinstance" = some (.builtin "isinstance") := by decide +kernel
theorem bt_int : bootBuiltins "int" = some (.type "int") := by decide +kernel
theorem bt_bool : bootBuiltins "bool" = some (.type "bool") := by decide +kernel
theorem bt_str : bootBuiltins "str" = some (.type "str") := by decide +kernel
theorem bt_list : bootBuiltins "list" = some (.type "list") := by decide +kernel
theorem bt_tuple : bootBuiltins "tuple" = some (.type "tuple") := by decide +kernel
theorem bt_dict : bootBuiltins "dict" = some (.type "dict") := by decide +kernel
theorem bt_set : bootBuiltins "set" = some (.type "set") := by decide +kernel
/-! ### a power, written out -/
theorem g_pow {a b c : Int} (hc : CPow a b) (e : a ^ b.toNat = c) (q : Q (.int c) H) : rI CPow (fun i j => .int (i ^ j.toNat)) (.int a) (.int b) H Q := ⟨a, b, rfl, rfl, hc, by show Q (.int (a ^ b.toNat)) H; rw [e]; exact q⟩
/-! ### calls of defs -/
theorem g_call {sp : Sp} {dvs : List V} {t : TA} (q : t σ H fun vs H1 => sp (vs ++ dvs) H1 Q E) : tCall sp dvs E t σ H Q := q
theorem g_dip {f : Addr} {m : Int} (hf : H f = some (FlowO f)) (hm : 0 < m) (hb : m.natAbs < 2 ^ 1000) (k : ∀ r H', 0 ≤ r → r < m → Same H H' → Q (.int r) H') : spDip ([V.ref f, V.int m] ++ []) H Q E :=
  ⟨f, m, rfl, hf, hm, hb, fun r H' h0 h1 s => k r H' h0 h1 s⟩
end
/-- below ten thousand million .. (a hundred signs) a number has fewer than a thousand bits -/
theorem small_bits {m : Int} (h : -10000000000000000000000000000000000000000000000000000000000000000000000000000000 ≤ m) (h2 : m ≤ 10000000000000000000000000000000000000000000000000000000000000000000000000000000) : m.natAbs < 2 ^ 1000 := by
  have e : (10000000000000000000000000000000000000000000000000000000000000000000000000000000 : Nat) < 2 ^ 1000 := by decide
  exact Nat.lt_of_le_of_lt (show m.natAbs ≤ 10000000000000000000000000000000000000000000000000000000000000000000000000000000 by omega) e
end Gx

/-! Defs that call repr: they run where no repr is under way (guards), so their promise is kept there -/
namespace Gx
open PySem L2 PySem.Spec PyProof.Rows
structure FnG (P : Program) (w : World) (K : PySem.W.Frag) (mg : Str → Option Value) (base : Heap) (k : Nat) (f : Addr) (fd : FuncData) (ps : List Str) (sp : Sp) : Prop where
  size : ∀ vs H Q E, sp vs H Q E → vs.length = ps.length
  goes : ∀ (A : Around) (outer : List Env) (s : Shared) (H : Hp) (args : Args) (us : List Value) (vs : List V) (Q : VK) (E : XK), A.guards = some [] → Room k A → Env0 P w K mg base A outer s H →
    BindsTo s fd args (ps.zip us) → Vals vs us → sp vs H Q E → codeAny (model P w) A (.call (.ref f) args) (CR CX0 outer P w H s Q E) s
section
variable {P : Program} {w : World} {K : PySem.W.Frag} {mg : Str → Option Value} {base : Heap}
/-- such a def, by its body -/
theorem fnG_of {x qual : Str} {st : Stmt} {f : Addr} {fd : FuncData} {N ps : List Str} {k : Nat} {sp : Sp} (F : Fun K x qual st f fd) (S : FnScope N ps (defScope st)) (size : ∀ vs H Q E, sp vs H Q E → vs.length = ps.length)
    (body : ∀ (cdv : Value) (A : Around) (outer : List Env) (s : Shared) (H : Hp) (vs : List V) (Q : VK) (E : XK), A.guards = some [] → Room k (A.deeper (envOfC qual (defScope st) s.heap.objs.size f cdv)) → sp vs H Q E →
      ∃ t, PSs (cxOf CX0 P w K mg base N qual (defScope st) f cdv A outer s H E).nox (defBody st) t ∧ t { nx := fun _ H' => Q .non H', rt := Q } (start N vs) H) : FnG P w K mg base (k + 1) f fd ps sp := by
  obtain ⟨oc, od, kV, doc, pm, an, cdv, ct, osl, rfl, at_f, code⟩ := F.ex
  refine ⟨size, fun A outer s H args us vs Q E gd room e0 bnd rel hsp => ?_⟩
  have inK : K.In s.heap := e0.mod.kin.keeps fun b o e => (e0.bs b o e).1
  have named : ∀ y ∈ ps.zip us, (defScope st).names.lookup y.1 = some .local ∨ ((defScope st).names.lookup y.1 = some .cell ∧ ((cellsFrom (s.heap.objs.size + 1) (defScope st).names []).lookup y.1).isSome = true) := fun y hy =>
    (S.par y.1 (List.of_mem_zip hy).1).imp id fun q => ⟨q, PySem.W.cellsFrom_some _ _ _ (.inl q)⟩
  refine codeAny_call_function room.depth (inK _ _ at_f) rfl S.co S.gen rfl (PySem.W.codeRec_of inK code) (bnd _ _ _ _ (wpAny_newFunctionEnv_cells S.kind named fun env eqn s1 inc => ?_))
  subst eqn
  refine ⟨(e0.mod.nolimit.keeps fun b o e => (e0.bs b o e).1).keeps inc.toInCall.keep, codeAny_func ?_⟩
  obtain ⟨t, der, rd⟩ := body cdv A outer s H vs Q E gd (room.deeper _) hsp
  have I1 := inv_start (CX := CX0) (E := E) S room.hd e0 (size _ _ _ _ hsp) rel inc
  refine wpAny_mono (der.nox.run [] s1 (start N vs) H _ I1 rd) (fun fl s2 done => ?_) fun _ _ z => z
  cases fl with
  | ret u => obtain ⟨v, σ2, H2, J, rv, q⟩ := done; exact ⟨v, H2, J.os, J.bare, J.base, J.hok, rv, q⟩
  | next => obtain ⟨σ2, H2, J, q⟩ := done; exact ⟨V.non, H2, J.os, J.bare, J.base, J.hok, rfl, q⟩
  | brk => obtain ⟨_, _, _, no⟩ := done; exact no.elim
  | cont => obtain ⟨_, _, _, no⟩ := done; exact no.elim
/-- .. by its name -/
structure CalG (P : Program) (w : World) (K : PySem.W.Frag) (mg : Str → Option Value) (base : Heap) (k : Nat) (x : Str) (sp : Sp) : Prop where
  at_ : ∃ (f : Addr) (fd : FuncData) (ps : List Str), FnG P w K mg base k f fd ps sp ∧ mg x = some (.ref f) ∧ PySem.W.keepIn K (.ref f) = true ∧ Binds K fd ps []
theorem calG_of {x : Str} {st : Stmt} {ps : List Str} {f : Addr} {fd : FuncData} {k : Nat} {sp : Sp} (D : Dn K mg x st ps f fd) (F : FnG P w K mg base k f fd ps sp) : CalG P w K mg base k x sp :=
  ⟨f, fd, ps, F, D.mgf, D.fn.kp, D.bd⟩
end
section
variable {X : Cx} {k j : Nat} {x : Str} {sp : Sp} {e : Expr} {es : List Expr} {t : TA} {p pos : Pos}
theorem pe_cG (c : CalG X.prog X.w X.K X.mg X.base k x sp) (gd : X.A.guards = some []) (hr : Room j X.A) (hk : k ≤ j) (hg : Gl X x) (ha : PA X (e :: es) t)
    (hdb : (x == ("__debug__" : Str)) = false := by decide) (he : starEach (e :: es) X.env = (false, eval e X.env) :: starEach es X.env := by rfl) (hpl : (backTo pos (starEach es X.env)).any (·.1) = false := by rfl) :
    PE X (.Call (.Name x p) (e :: es) [] pos) (tCall sp [] (fun _ _ _ => False) t) := by
  obtain ⟨f, fd, ps, F, named, kept, bnd⟩ := c.at_
  refine ⟨fun pins s σ H Q I h => wpAny_Call_Name_kw (ld_glob I hg named ?_ hdb)⟩
  refine PySem.W.callWith_K (h₀ := X.base) I.ok.mod.kin kept (thn (ha.run pos pins s σ H _ I h) fun us s1 got => ?_) he hpl
  obtain ⟨vs, H1, I1, rel, q⟩ := got
  rw [List.append_nil] at q
  refine ⟨I1.kIn, wpAny_call (codeAny_mono (F.goes X.A X.stack s1 H1 ⟨us, []⟩ us vs Q _ gd (hr.mono hk) I1.env0 ?_ rel q) fun r s2 done => ?_)⟩
  · have b := bnd s1 us I1.kIn (by rw [List.append_nil, ← rel.length]; exact F.size _ _ _ _ q)
    rw [List.append_nil] at b
    exact b
  · cases r with
    | error er => exact done.elim
    | ok fl =>
      cases fl with
      | ret u => exact I1.after done
      | next => exact done.elim
      | brk => exact done.elim
      | cont => exact done.elim
/-- repr of data at any depth -/
def rReprQ (K : PySem.W.Frag) : List V → Hp → VK → Prop := fun xs H Q => ∃ a d, xs = [V.ref a] ∧ Dp K H (.ref a) d ∧ SeqAt.shaped d = true ∧ d.showable = true ∧ d.shown.length ≤ sizeLine ∧ Q (.str d.shown) H
theorem cr_repr (gd : X.A.guards = some []) (hr : Room j X.A) : CallR X (.builtin "repr") (rReprQ X.K) := by
  intro pins s σ H xs us Q I rel h
  obtain ⟨a, d, rfl, dp, sh, sw, sz, q⟩ := h
  cases rel with
  | cons r1 r2 =>
    cases r2
    obtain rfl := r1
    obtain ⟨as, rd⟩ := Dp.reads I d _ _ dp rfl
    have u := hr.units
    have dd := SeqAt.depth_of_shaped sh
    refine repr_of_reads' rd sw (PyData.noDict_hsm (PyData.hasDict_of_canLay d (SeqAt.canLay_of_shaped sh))) gd (by have := hr.un; omega) (fun _ _ z => z) (fun h' u tk kept => ?_) sz
    exact ⟨.str d.shown, H, I.kept kept, ⟨u, rfl⟩, q⟩
end
/-! ### the law's own call -/
section
theorem law_callG {P : Program} {w : World} {K : PySem.W.Frag} {mg mb : Str → Option Value} {k : Nat} {fa a : Addr} {fd : FuncData} {x : Str} {sp : Sp} {s1 : Shared} {vs : List Value} {ns : List Int}
    (inK : K.In s1.heap) (gn : s1.heap.Ns mainGlobals mg) (bn : s1.heap.Ns builtinsNs mb) (bb : ∀ x : Str, x ≠ "__name__" → mb x = bootBuiltins x) (lim : s1.heap.NoLimit) (gens : s1.gens = #[])
    (la : s1.heap.get? a = some { cls := .type "list", data := .seq vs.toArray }) (li : IntsAre vs ns) (ll : ns.length ≤ sizeLine) (room : Room k callerA)
    (F : ∀ base : Heap, K.In base → base.Ns mainGlobals mg → FnG P w K mg base k fa fd [x] sp) (bnd : ∀ (s : Shared) (u : Value), BindsTo s fd ⟨[u], []⟩ [(x, u)])
    (goal : ∀ H : Hp, SqL K H a (ns.map V.int) → sp [.ref a] H (fun v _ => v = .bl true) fun _ _ _ => False) :
    codeAny (model P w) callerA (.call (.ref fa) ⟨[.ref a], []⟩) (fun r s' => r = .ok (.ret (.bool true)) ∧ OldK s1.heap s'.heap ∧ s'.os = s1.os ∧ AllBare s'.gens) s1 := by
  have rel := vals_ints li
  have key : ∀ H : Hp, Only H → SqL K H a (ns.map V.int) → HOk P w H s1.heap → (∀ b u, H b = some u → b = a ∧ K.lookup a = none) →
      codeAny (model P w) callerA (.call (.ref fa) ⟨[.ref a], []⟩) (fun r s' => r = .ok (.ret (.bool true)) ∧ OldK s1.heap s'.heap ∧ s'.os = s1.os ∧ AllBare s'.gens) s1 := by
    intro H only sq hok at_a
    have nd : ∀ {b : Addr} {o : Obj} {es : Array DictEntry} {ep : Nat}, s1.heap.get? b = some o → o.data = .dict es ep → H b = none := fun {b o es ep} e d => by
      cases q : H b with
      | none => rfl
      | some u =>
        obtain ⟨rfl, _⟩ := at_a b u q
        rw [la] at e
        obtain rfl := Option.some.inj e
        exact (show False by cases (show Data.seq vs.toArray _ = Data.dict es ep from d)).elim
    have hid : ∀ {b : Addr} {m : Str → Option Value}, s1.heap.Ns b m → (hidT s1.heap H).Ns b m := fun {b m} ⟨o, es, ep, e, d, r⟩ => ⟨o, es, ep, hidT_get e (nd e d), d, r⟩
    have inB : K.In (hidT s1.heap H) := fun b o e => hidT_get (inK b o e) (by
      cases q : H b with
      | none => rfl
      | some u =>
        obtain ⟨rfl, no⟩ := at_a b u q
        rw [no] at e
        cases e)
    have md : Mod K mg (hidT s1.heap H) := ⟨inB, hid gn, ⟨mb, hid bn, bb⟩, (by obtain ⟨mc, h1, h2⟩ := lim; exact ⟨mc, hid h1, h2⟩)⟩
    have st : Env0 P w K mg (hidT s1.heap H) callerA [] s1 H := ⟨rfl, md, fun b o e => of_hidT e, Nat.le_of_eq (hidT_size _ _), trivial, (fun b hb => nomatch hb), hok, .of_eq gens⟩
    refine codeAny_mono ((F _ inB (hid gn)).goes callerA [] s1 H ⟨[.ref a], []⟩ [.ref a] [.ref a] _ _ rfl room st (bnd s1 (.ref a)) (.cons rfl .nil) (goal H sq)) fun r s2 done => ?_
    cases r with
    | error e => exact done.elim
    | ok fl =>
      cases fl with
      | next => exact done.elim
      | brk => exact done.elim
      | cont => exact done.elim
      | ret u =>
        obtain ⟨v, H2, os, bare, un, hok2, rv, q⟩ := done
        obtain rfl : v = .bl true := q
        obtain rfl : u = Value.bool true := rv
        refine ⟨rfl, OldK.of_keep fun b o e => ?_, os, bare⟩
        cases q : H b with
        | none => exact un.keep b o e q (fun z => nomatch z) (fun z => nomatch z)
        | some u =>
          rcases only b with z | ⟨ob, xs, z⟩
          · exact absurd (q.symm.trans z) (by simp)
          · have e1 := (hok b _ z).1
            have e2 := (hok2 b _ (un.frzs b ob _ z)).1
            obtain rfl := Option.some.inj (e.symm.trans e1)
            exact e2
  cases hk : K.lookup a with
  | some o =>
    have e := (inK a o hk).symm.trans la
    obtain rfl := Option.some.inj e
    exact key (fun _ => none) (fun _ => .inl rfl) (.inr ⟨_, vs.toArray, _, hk, rfl, rfl, rfl, by rw [List.size_toArray, li.length]; exact ll, by simpa using rel⟩) (fun b u z => by cases (show (none : Option HO) = some u from z)) fun b u z => by cases (show (none : Option HO) = some u from z)
  | none =>
    have one : ∀ (b : Addr) (u : HO), (if b = a then some (HO.frz { cls := .type "list", data := .seq vs.toArray } (.lst (ns.map V.int))) else none) = some u → b = a ∧ u = HO.frz { cls := .type "list", data := .seq vs.toArray } (.lst (ns.map V.int)) := fun b u z => by
      split at z
      · exact ⟨by assumption, (Option.some.inj z).symm⟩
      · cases z
    refine key (fun b => if b = a then some (.frz { cls := .type "list", data := .seq vs.toArray } (.lst (ns.map V.int))) else none) (fun b => ?_) (.inl (.inr ⟨{ cls := .type "list", data := .seq vs.toArray }, if_pos rfl⟩)) (fun b u z => ?_) fun b u z => ⟨(one b u z).1, hk⟩
    · by_cases hb : b = a
      · exact .inr ⟨_, _, if_pos hb⟩
      · exact .inl (if_neg hb)
    · obtain ⟨rfl, rfl⟩ := one b u z
      exact ⟨la, by rw [List.length_map]; exact ll, vs, _, rel, la⟩
theorem walkG {l : PySem.W.OpenLaw} {n k : Nat} {q : Program} {loose : List Str} {XP : (Str → Option Value) → Heap → Prop} {YP : World → Heap → Prop} {d : DefRec} {K : Params → PySem.W.Frag} {sp : PySem.W.Frag → Sp} {x : Str}
    (hn : l.most = some n) (hn2 : n ≤ sizeLine) (hdf : d.params.defaults = []) (hr : Room k callerA) (hY : ∀ (w : World) (h : Heap), YP w h → (K w.params).In h)
    (F : ∀ (w : World) (mg : Str → Option Value) (fa : Addr) (h : Heap), (K w.params).In h → h.Ns mainGlobals mg → mg d.name = some (.ref fa) →
      ∃ fd : FuncData, (∀ (s : Shared) (u : Value), BindsTo s fd ⟨[u], []⟩ [(x, u)]) ∧ ∀ base : Heap, (K w.params).In base → base.Ns mainGlobals mg → FnG l.prog w (K w.params) mg base k fa fd [x] (sp (K w.params)))
    (hsp : ∀ (K : PySem.W.Frag) (H : Hp) (a : Addr) (ns : List Int), ns.length ≤ n → SqL K H a (ns.map V.int) → sp K [.ref a] H (fun v _ => v = .bl true) fun _ _ _ => False) :
    PySem.W.WalkO q loose XP YP l.row.toRowW d [] (fun f vs => PySem.call f vs) := by
  refine Att.attach_call hn hdf fun w s₀ s1 mg mb fa o pm cd doc a vs ns G Y ho hd hcd named hobj hints few hg => ?_
  have inK := hY w _ Y
  obtain ⟨fd, bnd, mk⟩ := F w mg fa _ inK G.T.g named
  exact law_callG inK G.T.g G.T.b G.T.builtins G.T.nolimit hg hobj hints (Nat.le_trans few hn2) hr mk bnd fun H sq => hsp (K w.params) H a ns few sq
end
end Gx

set_option exponentiation.threshold 5000
/-! Data: what two of them have in common, how long their texts are -/
namespace Gx
open PySem L2
mutual
/-- no truth value, no dict -/
def bare : PyData → Bool
  | .none | .int _ | .str _ => true
  | .bool _ | .dict _ => false
  | .list xs | .tuple xs => bareAll xs
def bareAll : List PyData → Bool
  | [] => true
  | x :: xs => bare x && bareAll xs
end
theorem bareAll_iff : ∀ {xs : List PyData}, bareAll xs = true ↔ ∀ x ∈ xs, bare x = true
  | [] => by simp [bareAll]
  | x :: xs => by simp [bareAll, bareAll_iff (xs := xs)]
mutual
theorem eqv_is : ∀ d e : PyData, bare d = true → bare e = true → (PyData.eqv d e = true ↔ d = e)
  | .none, .none, _, _ => by simp [PyData.eqv]
  | .none, .int _, _, _ => by simp [PyData.eqv]
  | .none, .str _, _, _ => by simp [PyData.eqv]
  | .none, .list _, _, _ => by simp [PyData.eqv]
  | .none, .tuple _, _, _ => by simp [PyData.eqv]
  | .int _, .none, _, _ => by simp [PyData.eqv]
  | .int i, .int j, _, _ => by simp [PyData.eqv]
  | .int _, .str _, _, _ => by simp [PyData.eqv]
  | .int _, .list _, _, _ => by simp [PyData.eqv]
  | .int _, .tuple _, _, _ => by simp [PyData.eqv]
  | .str _, .none, _, _ => by simp [PyData.eqv]
  | .str _, .int _, _, _ => by simp [PyData.eqv]
  | .str x, .str y, _, _ => by simp [PyData.eqv]
  | .str _, .list _, _, _ => by simp [PyData.eqv]
  | .str _, .tuple _, _, _ => by simp [PyData.eqv]
  | .list _, .none, _, _ => by simp [PyData.eqv]
  | .list _, .int _, _, _ => by simp [PyData.eqv]
  | .list _, .str _, _, _ => by simp [PyData.eqv]
  | .list xs, .list ys, h1, h2 => by
    simp only [PyData.eqv, PyData.list.injEq]
    exact eqv_isAll xs ys (by simpa [bare] using h1) (by simpa [bare] using h2)
  | .list _, .tuple _, _, _ => by simp [PyData.eqv]
  | .tuple _, .none, _, _ => by simp [PyData.eqv]
  | .tuple _, .int _, _, _ => by simp [PyData.eqv]
  | .tuple _, .str _, _, _ => by simp [PyData.eqv]
  | .tuple _, .list _, _, _ => by simp [PyData.eqv]
  | .tuple xs, .tuple ys, h1, h2 => by
    simp only [PyData.eqv, PyData.tuple.injEq]
    exact eqv_isAll xs ys (by simpa [bare] using h1) (by simpa [bare] using h2)
  | .bool _, _, h, _ => by simp [bare] at h
  | .dict _, _, h, _ => by simp [bare] at h
  | _, .bool _, _, h => by simp [bare] at h
  | _, .dict _, _, h => by simp [bare] at h
theorem eqv_isAll : ∀ xs ys : List PyData, bareAll xs = true → bareAll ys = true → (PyData.eqvAll xs ys = true ↔ xs = ys)
  | [], [], _, _ => by simp [PyData.eqvAll]
  | [], _ :: _, _, _ => by simp [PyData.eqvAll]
  | _ :: _, [], _, _ => by simp [PyData.eqvAll]
  | x :: xs, y :: ys, h1, h2 => by
    simp only [bareAll, Bool.and_eq_true] at h1 h2
    simp only [PyData.eqvAll, Bool.and_eq_true, eqv_is x y h1.1 h2.1, eqv_isAll xs ys h1.2 h2.2, List.cons.injEq]
end
theorem eqv_yes {d e : PyData} (h1 : bare d = true) (h2 : bare e = true) (h : d = e) : PyData.eqv d e = true := (eqv_is d e h1 h2).mpr h
theorem eqv_no {d e : PyData} (h1 : bare d = true) (h2 : bare e = true) (h : ¬ d = e) : PyData.eqv d e = false := by
  cases q : PyData.eqv d e with
  | false => rfl
  | true => exact absurd ((eqv_is d e h1 h2).mp q) h
/-! ### small data -/
mutual
/-- ints of at most eighty digits, short texts, lists and tuples of such -/
def small : PyData → Bool
  | .none | .bool _ => true
  | .int i => decide (-100000000000000000000000000000000000000000000000000000000000000000000000000000000 ≤ i) && decide (i ≤ 100000000000000000000000000000000000000000000000000000000000000000000000000000000)
  | .str x => decide ((PySem.reprText x).length ≤ 100) && PyData.strOk x
  | .list xs | .tuple xs => smallAll xs
  | .dict _ => false
def smallAll : List PyData → Bool
  | [] => true
  | x :: xs => small x && smallAll xs
end
theorem smallAll_iff : ∀ {xs : List PyData}, smallAll xs = true ↔ ∀ x ∈ xs, small x = true
  | [] => by simp [smallAll]
  | x :: xs => by simp [smallAll, smallAll_iff (xs := xs)]
theorem log_of {i : Int} (h : (decide (-100000000000000000000000000000000000000000000000000000000000000000000000000000000 ≤ i) && decide (i ≤ 100000000000000000000000000000000000000000000000000000000000000000000000000000000)) = true) : i.natAbs.log2 < 1920 := by
  simp only [Bool.and_eq_true, decide_eq_true_eq] at h
  have b : i.natAbs < 2 ^ 1000 := by
    have e : (100000000000000000000000000000000000000000000000000000000000000000000000000000000 : Nat) < 2 ^ 1000 := by decide
    omega
  exact Nat.lt_of_lt_of_le (PySem.Flt.log2_lt_of (by decide : 0 < 1000) b) (by decide)
mutual
theorem small_show : ∀ d : PyData, small d = true → d.showable = true
  | .none, _ => by simp only [PyData.showable]
  | .bool _, _ => by simp only [PyData.showable]
  | .str _, _ => by simp only [PyData.showable]
  | .int i, h => by
    simp only [small] at h
    simp only [PyData.showable, decide_eq_true_eq]
    exact log_of h
  | .list xs, h => by
    simp only [small] at h
    simp only [PyData.showable]
    exact small_showAll xs h
  | .tuple xs, h => by
    simp only [small] at h
    simp only [PyData.showable]
    exact small_showAll xs h
  | .dict _, h => by simp [small] at h
theorem small_showAll : ∀ xs : List PyData, smallAll xs = true → PyData.showableAll xs = true
  | [], _ => by simp only [PyData.showableAll]
  | x :: xs, h => by
    simp only [smallAll, Bool.and_eq_true] at h
    simp only [PyData.showableAll, small_show x h.1, small_showAll xs h.2, Bool.and_self]
end
mutual
theorem small_lay : ∀ d : PyData, small d = true → d.canLay0 = true
  | .none, _ => by simp only [PyData.canLay0]
  | .bool _, _ => by simp only [PyData.canLay0]
  | .str _, h => by
    simp only [small, Bool.and_eq_true] at h
    simp only [PyData.canLay0]
    exact h.2
  | .int i, h => by simp only [PyData.canLay0]
  | .list xs, h => by
    simp only [small] at h
    simp only [PyData.canLay0]
    exact small_layAll xs h
  | .tuple xs, h => by
    simp only [small] at h
    simp only [PyData.canLay0]
    exact small_layAll xs h
  | .dict _, h => by simp [small] at h
theorem small_layAll : ∀ xs : List PyData, smallAll xs = true → PyData.canLayAll0 xs = true
  | [], _ => by simp only [PyData.canLayAll0]
  | x :: xs, h => by
    simp only [smallAll, Bool.and_eq_true] at h
    simp only [PyData.canLayAll0, small_lay x h.1, small_layAll xs h.2, Bool.and_self]
end
/-! ### the length of a text -/
mutual
def cnt : PyData → Nat
  | .none | .bool _ | .int _ | .str _ | .dict _ => 1
  | .list xs | .tuple xs => cntAll xs + 1
def cntAll : List PyData → Nat
  | [] => 0
  | x :: xs => cnt x + cntAll xs
end
theorem listText_le (ts : List Str) : (listText ts).length ≤ piled ts + 2 := by
  cases ts with
  | nil => exact (by decide : (listText []).length ≤ 0 + 2)
  | cons t r =>
    have h := textFrom_length_pos r 1 (("[" : Str) ++ (if (0 : Nat) > 0 then ", " else "" : String) ++ t) (Nat.succ_pos 0)
    have e : ((("[" : Str) ++ (if (0 : Nat) > 0 then ", " else "" : String) ++ t)).length = 1 + t.length := by
      rw [strLen_append, strLen_append]
      rfl
    have z : (listText (t :: r)).length = (textFrom 1 (("[" : Str) ++ (if (0 : Nat) > 0 then ", " else "" : String) ++ t) r).length + 1 := by
      show ((textFrom 1 (("[" : Str) ++ (if (0 : Nat) > 0 then ", " else "" : String) ++ t) r) ++ "]").length = _
      rw [strLen_append]
      rfl
    rw [z, h, e, piled_cons]
    omega
theorem tupleText_le (ts : List Str) : (tupleText ts).length ≤ piled ts + 3 := by
  unfold tupleText
  rw [strLen_append, strLen_append]
  have e1 : ((("(" : String) : Str)).length = 1 := rfl
  have e3 : (((if ts.length == 1 then ",)" else ")" : String) : Str)).length ≤ 2 := by split <;> decide
  have e2 : (Str.join ", " ts).length ≤ piled ts := by
    by_cases h : ts = []
    · subst h
      exact (by decide : (Str.join ", " []).length ≤ 0)
    · have := join_length_add ts h
      omega
  omega
theorem int_len {i : Int} (h : (decide (-100000000000000000000000000000000000000000000000000000000000000000000000000000000 ≤ i) && decide (i ≤ 100000000000000000000000000000000000000000000000000000000000000000000000000000000)) = true) : (Str.ofString (toString i)).length ≤ 82 := by
  simp only [Bool.and_eq_true, decide_eq_true_eq] at h
  have b : i.natAbs < 10 ^ 81 := by
    have e : (100000000000000000000000000000000000000000000000000000000000000000000000000000000 : Nat) < 10 ^ 81 := by decide
    omega
  have q := int_text_length_le10 (a := i) (k := 81) (by decide) b
  rw [ofString_length]
  exact q
mutual
theorem shown_le : ∀ d : PyData, small d = true → d.shown.length + 6 ≤ 130 * cnt d
  | .none, _ => by
    simp only [PyData.shown, cnt]
    exact (by decide : (("None" : String) : Str).length + 6 ≤ 130 * 1)
  | .bool b, _ => by
    simp only [PyData.shown, cnt]
    cases b <;> decide
  | .str x, h => by
    simp only [small, Bool.and_eq_true, decide_eq_true_eq] at h
    simp only [PyData.shown, cnt]
    have := h.1
    omega
  | .int i, h => by
    simp only [small] at h
    have := int_len h
    simp only [PyData.shown, cnt]
    show (Str.ofString (toString i)).length + 6 ≤ 130 * 1
    omega
  | .list xs, h => by
    simp only [small] at h
    have q := shown_leAll xs h
    have z := listText_le (PyData.shownAll xs)
    simp only [PyData.shown, cnt]
    omega
  | .tuple xs, h => by
    simp only [small] at h
    have q := shown_leAll xs h
    have z := tupleText_le (PyData.shownAll xs)
    simp only [PyData.shown, cnt]
    omega
  | .dict _, h => by simp [small] at h
theorem shown_leAll : ∀ xs : List PyData, smallAll xs = true → piled (PyData.shownAll xs) ≤ 130 * cntAll xs
  | [], _ => by simp [PyData.shownAll, cntAll, piled]
  | x :: xs, h => by
    simp only [smallAll, Bool.and_eq_true] at h
    have a := shown_le x h.1
    have b := shown_leAll xs h.2
    simp only [PyData.shownAll, cntAll, piled_cons]
    omega
end
theorem cntAll_le {c : Nat} : ∀ {xs : List PyData}, (∀ x ∈ xs, cnt x ≤ c) → cntAll xs ≤ c * xs.length
  | [], _ => by simp [cntAll]
  | x :: xs, h => by
    have a := h x List.mem_cons_self
    have b := cntAll_le (xs := xs) fun y hy => h y (List.mem_cons_of_mem _ hy)
    simp only [cntAll, List.length_cons, Nat.mul_succ]
    omega
theorem depthAll_le {c : Nat} : ∀ {xs : List PyData}, (∀ x ∈ xs, x.depth ≤ c) → PyData.depthAll xs ≤ c
  | [], _ => by simp [PyData.depthAll]
  | x :: xs, h => by
    have a := h x List.mem_cons_self
    have b := depthAll_le (xs := xs) fun y hy => h y (List.mem_cons_of_mem _ hy)
    simp only [PyData.depthAll]
    omega
/-- small, nested at most n deep, of at most m parts -/
structure Fine (n m : Nat) (d : PyData) : Prop where
  sm : small d = true
  dp : d.depth ≤ n
  ct : cnt d ≤ m
theorem Fine.shaped {n m : Nat} {d : PyData} (h : Fine n m d) (hn : n ≤ 64) : SeqAt.shaped d = true := by
  unfold SeqAt.shaped
  rw [small_lay d h.sm, decide_eq_true (Nat.le_trans h.dp hn)]
  rfl
theorem Fine.text {n m : Nat} {d : PyData} (h : Fine n m d) (hm : m ≤ 100000) : d.shown.length ≤ sizeLine := by
  have a := shown_le d h.sm
  have b := h.ct
  rw [sizeLine_eq]
  omega
theorem fine_none {n : Nat} : Fine n 1 .none := ⟨by simp [small], by simp [PyData.depth], by simp [cnt]⟩
theorem fine_bool {n : Nat} (b : Bool) : Fine n 1 (.bool b) := ⟨by simp [small], by simp [PyData.depth], by simp [cnt]⟩
theorem fine_int {n : Nat} {i : Int} (h1 : -100000000000000000000000000000000000000000000000000000000000000000000000000000000 ≤ i) (h2 : i ≤ 100000000000000000000000000000000000000000000000000000000000000000000000000000000) : Fine n 1 (.int i) :=
  ⟨by simp [small, h1, h2], by simp [PyData.depth], by simp [cnt]⟩
theorem fine_str {n : Nat} {x : Str} (h1 : (PySem.reprText x).length ≤ 100) (h2 : PyData.strOk x = true) : Fine n 1 (.str x) := ⟨by simp [small, h1, h2], by simp [PyData.depth], by simp [cnt]⟩
theorem fine_list {n m : Nat} {xs : List PyData} (h : ∀ x ∈ xs, Fine n m x) : Fine (n + 1) (m * xs.length + 1) (.list xs) :=
  ⟨by simp only [small]; exact smallAll_iff.mpr fun x hx => (h x hx).sm, by simp only [PyData.depth]; have := depthAll_le fun x hx => (h x hx).dp; omega, by simp only [cnt]; have := cntAll_le fun x hx => (h x hx).ct; omega⟩
theorem fine_tuple {n m : Nat} {xs : List PyData} (h : ∀ x ∈ xs, Fine n m x) : Fine (n + 1) (m * xs.length + 1) (.tuple xs) :=
  ⟨by simp only [small]; exact smallAll_iff.mpr fun x hx => (h x hx).sm, by simp only [PyData.depth]; have := depthAll_le fun x hx => (h x hx).dp; omega, by simp only [cnt]; have := cntAll_le fun x hx => (h x hx).ct; omega⟩
theorem Fine.mono {n m n' m' : Nat} {d : PyData} (h : Fine n m d) (hn : n ≤ n') (hm : m ≤ m') : Fine n' m' d := ⟨h.sm, Nat.le_trans h.dp hn, Nat.le_trans h.ct hm⟩
/-! ### data in a heap that keeps what it had -/
section
variable {K : PySem.W.Frag} {H H' : Hp}
mutual
theorem dp_same (s : Same H H') : ∀ (d : PyData) (v : V), Dp K H v d → Dp K H' v d
  | .none, _, h => by cases h; exact .non
  | .bool b, _, h => by cases h; exact .bl b
  | .int i, _, h => by cases h; exact .int i
  | .str x, _, h => by cases h; exact .str x
  | .list ds, _, h => by
    cases h with
    | lst a b => exact .lst (same_sq s a) (dp_sameAll s ds _ b)
  | .tuple ds, _, h => by
    cases h with
    | tup a b => exact .tup (same_sqT s a) (dp_sameAll s ds _ b)
  | .dict _, _, h => by cases h
theorem dp_sameAll (s : Same H H') : ∀ (ds : List PyData) (vs : List V), DpAll K H vs ds → DpAll K H' vs ds
  | [], _, h => by cases h; exact .nil
  | d :: ds, _, h => by
    cases h with
    | cons a b => exact .cons (dp_same s d _ a) (dp_sameAll s ds _ b)
end
theorem dpAll_ints : ∀ (ns : List Int), DpAll K H (ns.map V.int) (ns.map PyData.int)
  | [] => .nil
  | n :: ns => .cons (.int n) (dpAll_ints ns)
theorem dpAll_len : ∀ {vs : List V} {ds : List PyData}, DpAll K H vs ds → vs.length = ds.length
  | _, _, .nil => rfl
  | _, _, .cons _ r => congrArg (· + 1) (dpAll_len r)
theorem dpAll_append : ∀ {vs ws : List V} {ds es : List PyData}, DpAll K H vs ds → DpAll K H ws es → DpAll K H (vs ++ ws) (ds ++ es)
  | _, _, _, _, .nil, s => s
  | _, _, _, _, .cons a r, s => .cons a (dpAll_append r s)
theorem dpAll_get : ∀ {vs : List V} {ds : List PyData} {i : Nat} {v : V}, DpAll K H vs ds → vs[i]? = some v → ∃ d, ds[i]? = some d ∧ Dp K H v d
  | _, _, _, _, .nil, e => by simp at e
  | _, _, 0, _, .cons a _, e => by
    simp at e
    subst e
    exact ⟨_, rfl, a⟩
  | _, _, i + 1, _, .cons _ r, e => by
    obtain ⟨d, h1, h2⟩ := dpAll_get (i := i) r (by simpa using e)
    exact ⟨d, by simpa using h1, h2⟩
variable {Q : VK} {x y : V} {d e : PyData}
theorem g_eqD (h1 : Dp K H x d) (h2 : Dp K H y e) (s1 : SeqAt.shaped d = true) (s2 : SeqAt.shaped e = true) (q : Q (.bl (PyData.eqv d e)) H) : rEqD K x y H Q := ⟨d, e, h1, h2, s1, s2, q⟩
theorem g_neD (h1 : Dp K H x d) (h2 : Dp K H y e) (s1 : SeqAt.shaped d = true) (s2 : SeqAt.shaped e = true) (q : Q (.bl (!PyData.eqv d e)) H) : rNeD K x y H Q := ⟨d, e, h1, h2, s1, s2, q⟩
theorem g_repr {a : Addr} {n m : Nat} (h : Dp K H (.ref a) d) (f : Fine n m d) (hn : n ≤ 64) (hm : m ≤ 100000) (q : Q (.str d.shown) H) : rReprQ K [V.ref a] H Q := ⟨a, d, rfl, h, f.shaped hn, small_show d f.sm, f.text hm, q⟩
/-- == of a list of ints with the empty list -/
theorem shaped_ints (ns : List Int) : SeqAt.shaped (.list (ns.map PyData.int)) = true := by
  unfold SeqAt.shaped
  have h1 : PyData.canLayAll0 (ns.map PyData.int) = true := by
    induction ns with
    | nil => simp [PyData.canLayAll0]
    | cons n ns ih => simp [PyData.canLayAll0, PyData.canLay0, ih]
  have h2 : PyData.depthAll (ns.map PyData.int) ≤ 0 := depthAll_le fun x hx => by
    obtain ⟨n, _, rfl⟩ := List.mem_map.mp hx
    simp [PyData.depth]
  have h3 : PyData.depthAll (ns.map PyData.int) + 1 ≤ 64 := by omega
  simp [PyData.canLay0, PyData.depth, h1, h3]
theorem bare_ints (ns : List Int) : bare (.list (ns.map PyData.int)) = true := by
  simp only [bare]
  exact bareAll_iff.mpr fun x hx => by
    obtain ⟨n, _, rfl⟩ := List.mem_map.mp hx
    simp [bare]
theorem dp_ints {p : Addr} {ns : List Int} (h : SqL K H p (ns.map V.int)) : Dp K H (.ref p) (.list (ns.map PyData.int)) := .lst h (dpAll_ints ns)
theorem ints_inj {ns ms : List Int} : PyData.list (ns.map PyData.int) = PyData.list (ms.map PyData.int) ↔ ns = ms := by
  constructor
  · intro h
    injection h with h
    induction ns generalizing ms with
    | nil => cases ms with
      | nil => rfl
      | cons m ms => simp at h
    | cons n ns ih => cases ms with
      | nil => simp at h
      | cons m ms =>
        simp only [List.map_cons, List.cons.injEq, PyData.int.injEq] at h
        rw [h.1, ih h.2]
  · intro h
    rw [h]
theorem g_eqI {p q : Addr} {ns ms : List Int} (h1 : SqL K H p (ns.map V.int)) (h2 : SqL K H q (ms.map V.int)) (k : Q (.bl (decide (ns = ms))) H) : rEqD K (.ref p) (.ref q) H Q := by
  refine g_eqD (dp_ints h1) (dp_ints h2) (shaped_ints _) (shaped_ints _) ?_
  have e : PyData.eqv (.list (ns.map PyData.int)) (.list (ms.map PyData.int)) = decide (ns = ms) := by
    by_cases h : ns = ms
    · rw [decide_eq_true h, eqv_yes (bare_ints _) (bare_ints _) (by rw [h])]
    · rw [decide_eq_false h, eqv_no (bare_ints _) (bare_ints _) (fun z => h (ints_inj.mp z))]
  rw [e]
  exact k
end
end Gx

/-! Comprehensions: what the new list is, by a word of the turn and what is made so far -/
namespace Gx
open PySem L2
/-- the turns of a comprehension, its source known -/
def LC (g : TG) (tt : TT) (te : TE) (vs : List Nat) (J : It) (σ : L2.St) (H1 : Hp) (Q : VK) : Prop := ∀ D, H1 D = none → ∃ W : Nat → Nat → Hp → Prop, (∃ m, W 0 m (upd H1 D (.lst []))) ∧ ∀ i m H, W i m H →
  (J.stop i H ∧ Q (.ref D) H) ∨ (J.go i H ∧ ∃ Nx : Hp → Prop, (∀ H', Nx H' → ∃ m', m' < m ∧ W (i + 1) m' H') ∧ ∀ x H', J.yld i H x H' → g x (wipe σ vs) H' fun σ2 H2 => wipe σ2 vs = wipe σ vs ∧ tt σ2 H2 fun b H3 =>
    if b = true then te σ2 H3 fun y H4 => ∃ acc, H4 D = some (.lst acc) ∧ acc.length < sizeLine ∧ Nx (upd H4 D (.lst (acc ++ [y]))) else Nx H3)
/-- a source of n items -/
def Src (J : It) (H1 : Hp) (n : Nat) (item : Nat → V → Hp → Prop) : Prop := ∀ i H, Same H1 H → (i < n → J.go i H ∧ ∀ x H', J.yld i H x H' → Same H H' ∧ item i x H') ∧ (n ≤ i → J.stop i H)
/-- all but one address stay -/
def But (D : Addr) (H H' : Hp) : Prop := ∀ a o, a ≠ D → H a = some o → H' a = some o
section
variable {σ : L2.St} {H H1 : Hp} {Q : VK} {K : PySem.W.Frag} {te tl : TE} {tt : TT} {g : TG} {vs : List Nat} {J : It} {n j : Nat}
theorem g_lc {wi : TI} (q : wi σ H fun J H1 => LC g tt te vs J σ H1 Q) : tLc wi g tt te vs σ H Q := q
theorem src_list {a : Addr} {xs : List V} (h : SqL K H1 a xs) : Src (Itl K a) H1 xs.length (fun i x _ => xs[i]? = some x) := fun i H s => by
  have hh := same_sq s h
  refine ⟨fun hi => ⟨⟨xs, xs[i], hh, List.getElem?_eq_getElem hi⟩, fun x H' y => ?_⟩, fun hi => ⟨xs, hh, hi⟩⟩
  obtain ⟨rfl, q⟩ := y
  exact ⟨Same.refl _, q xs hh⟩
theorem src_tup {a : Addr} {xs : List V} (h : SqT K H1 a xs) : Src (Itt K a) H1 xs.length (fun i x _ => xs[i]? = some x) := fun i H s => by
  have hh := same_sqT s h
  refine ⟨fun hi => ⟨⟨xs, xs[i], hh, List.getElem?_eq_getElem hi⟩, fun x H' y => ?_⟩, fun hi => ⟨xs, hh, hi⟩⟩
  obtain ⟨rfl, q⟩ := y
  exact ⟨Same.refl _, q xs hh⟩
theorem src_rng {lo : Int} : Src (Itr lo n) H1 n (fun i x _ => x = .int (lo + i)) := fun i H s =>
  ⟨fun hi => ⟨hi, fun x H' y => by obtain ⟨rfl, q⟩ := y; exact ⟨Same.refl _, q⟩⟩, fun hi => hi⟩
theorem src_zip {a b : Addr} {xs ys : List V} (ha : SqL K H1 a xs) (hb : SqL K H1 b ys) : Src (Itz K a b) H1 (min xs.length ys.length) (fun i v H => ∃ T x y, v = .ref T ∧ H T = some (.tup [x, y]) ∧ xs[i]? = some x ∧ ys[i]? = some y) := fun i H s => by
  have h1 := same_sq s ha
  have h2 := same_sq s hb
  refine ⟨fun hi => ⟨⟨xs, ys, xs[i]'(by omega), ys[i]'(by omega), h1, h2, List.getElem?_eq_getElem _, List.getElem?_eq_getElem _⟩, fun v H' q => ?_⟩, fun hi => ⟨xs, ys, h1, h2, by omega⟩⟩
  obtain ⟨T, x, y, rfl, hT, rfl, qx, qy⟩ := q
  exact ⟨same_new hT, T, x, y, rfl, upd_same, qx xs h1, qy ys h2⟩
/-- THE RULE: A is true of the turn and of what is made so far -/
theorem lc_src {item : Nat → V → Hp → Prop} (src : Src J H1 n item) (hn : n ≤ 100000) (A : Nat → List V → Hp → Prop)
    (mono : ∀ i acc l D H H', H D = some (.lst l) → H1 D = none → Same H1 H → But D H H' → A i acc H → A i acc H') (A0 : ∀ H, Same H1 H → A 0 [] H)
    (turn : ∀ i x acc H' (Nx : V → Hp → Prop) (No : Hp → Prop), i < n → Same H1 H' → item i x H' → A i acc H' → acc.length ≤ i → (∀ y H4, Same H' H4 → A (i + 1) (acc ++ [y]) H4 → Nx y H4) → (∀ H4, Same H' H4 → A (i + 1) acc H4 → No H4) →
      g x (wipe σ vs) H' fun σ2 H2 => wipe σ2 vs = wipe σ vs ∧ tt σ2 H2 fun b H3 => if b = true then te σ2 H3 Nx else No H3)
    (done : ∀ D acc H', H1 D = none → Same H1 H' → H' D = some (.lst acc) → A n acc H' → acc.length ≤ n → Q (.ref D) H') : LC g tt te vs J σ H1 Q := by
  intro D hD
  refine ⟨fun i m H => m = n - i ∧ i ≤ n ∧ ∃ acc, Same H1 H ∧ H D = some (.lst acc) ∧ A i acc H ∧ acc.length ≤ i, ⟨n, rfl, Nat.zero_le _, [], same_new hD, upd_same, A0 _ (same_new hD), Nat.le_refl _⟩, ?_⟩
  rintro i m H ⟨rfl, hi, acc, s, e, a, hl⟩
  rcases Nat.lt_or_ge i n with lt | ge
  · right
    obtain ⟨go, yl⟩ := (src i H s).1 lt
    refine ⟨go, fun H' => i + 1 ≤ n ∧ ∃ acc, Same H1 H' ∧ H' D = some (.lst acc) ∧ A (i + 1) acc H' ∧ acc.length ≤ i + 1, fun H' ⟨l1, q⟩ => ⟨n - (i + 1), by omega, rfl, l1, q⟩, fun x H' y => ?_⟩
    obtain ⟨s2, it⟩ := yl x H' y
    have s12 := s.trans s2
    refine turn i x acc H' _ _ lt s12 it (mono i acc acc D H H' e hD s (fun b o _ z => s2 b o z) a) hl (fun y H4 s4 a4 => ?_) (fun H4 s4 a4 => ?_)
    · have e4 := s4 _ _ (s2 _ _ e)
      have s14 := s12.trans s4
      refine ⟨acc, e4, big_lt (by omega), lt, acc ++ [y], same_mut s14 hD, upd_same, mono (i + 1) (acc ++ [y]) acc D H4 _ e4 hD s14 (fun b o nb z => by rw [upd_ne nb]; exact z) a4, by rw [List.length_append]; exact Nat.succ_le_succ hl⟩
    · exact ⟨lt, acc, s12.trans s4, s4 _ _ (s2 _ _ e), a4, Nat.le_succ_of_le hl⟩
  · left
    have e0 : i = n := Nat.le_antisymm hi ge
    subst e0
    exact ⟨(src i H s).2 ge, done D acc H hD s e a hl⟩
/-- no test; each item makes a value that is what P says -/
theorem lc_map {item : Nat → V → Hp → Prop} (src : Src J H1 n item) (hn : n ≤ 100000) (P : Nat → V → Prop)
    (turn : ∀ i x H' (Nx : V → Hp → Prop), i < n → Same H1 H' → item i x H' → (∀ y H4, Same H' H4 → P i y → Nx y H4) → g x (wipe σ vs) H' fun σ2 H2 => wipe σ2 vs = wipe σ vs ∧ te σ2 H2 Nx)
    (done : ∀ D acc H', H1 D = none → Same H1 H' → H' D = some (.lst acc) → acc.length = n → (∀ (i : Nat) y, acc[i]? = some y → P i y) → Q (.ref D) H') : LC g tYes te vs J σ H1 Q := by
  refine lc_src src hn (fun i acc _ => acc.length = i ∧ ∀ (k : Nat) y, acc[k]? = some y → P k y) (fun _ _ _ _ _ _ _ _ _ _ a => a) (fun _ _ => ⟨rfl, fun k y z => by simp at z⟩) (fun i x acc H' Nx No lt s it a hl k1 k2 => ?_) fun D acc H' h1 s e a _ => done D acc H' h1 s e a.1 a.2
  have q := turn i x H' Nx lt s it fun y H4 s4 p => k1 y H4 s4 ⟨by rw [List.length_append, a.1]; rfl, fun k z hz => ?_⟩
  · exact q
  · rcases Nat.lt_or_ge k acc.length with h | h
    · rw [List.getElem?_append_left h] at hz
      exact a.2 k z hz
    · rw [List.getElem?_append_right h] at hz
      have e0 : k - acc.length = 0 := by
        rcases Nat.eq_zero_or_pos (k - acc.length) with z0 | z0
        · exact z0
        · rw [List.getElem?_eq_none (by simp; omega)] at hz
          cases hz
      rw [e0] at hz
      simp only [List.getElem?_cons_zero, Option.some.injEq] at hz
      subst hz
      have : k = i := by have := a.1; omega
      rw [this]
      exact p
/-- items of a list, a test that each one answers, a value that each one makes -/
theorem lc_filter {item : Nat → V → Hp → Prop} {xs : List V} (src : Src J H1 xs.length item) (hx : ∀ i x H, item i x H → xs[i]? = some x) (hn : xs.length ≤ 100000) (c : V → Bool) (f : V → V)
    (turn : ∀ (i : Nat) x H' (Nx : V → Hp → Prop) (No : Hp → Prop), xs[i]? = some x → Same H1 H' → (∀ H4, Same H' H4 → c x = true → Nx (f x) H4) → (∀ H4, Same H' H4 → c x = false → No H4) →
      g x (wipe σ vs) H' fun σ2 H2 => wipe σ2 vs = wipe σ vs ∧ tt σ2 H2 fun b H3 => if b = true then te σ2 H3 Nx else No H3)
    (done : ∀ D H', H1 D = none → Same H1 H' → H' D = some (.lst ((xs.filter c).map f)) → Q (.ref D) H') : LC g tt te vs J σ H1 Q := by
  refine lc_src src hn (fun i acc _ => acc = ((xs.take i).filter c).map f) (fun _ _ _ _ _ _ _ _ _ _ a => a) (fun _ _ => rfl) (fun i x acc H' Nx No lt s it a hl k1 k2 => ?_) fun D acc H' h1 s e a _ => done D H' h1 s (by rw [e, a, List.take_length])
  have ex := hx i x H' it
  have tk : xs.take (i + 1) = xs.take i ++ [x] := by
    rw [List.take_succ, ex]
    rfl
  refine turn i x H' Nx No ex s (fun H4 s4 h => k1 _ H4 s4 ?_) (fun H4 s4 h => k2 H4 s4 ?_)
  · rw [tk, List.filter_append, List.map_append, a]
    simp [h]
  · rw [tk, List.filter_append, List.map_append, a]
    simp [h]
theorem g_yes {Q : Bool → Hp → Prop} (q : Q true H) : tYes σ H Q := q
theorem g_iZip {ta : TA} {R : It → Hp → Prop} (q : ta σ H fun vs H1 => ∃ a b xs ys, vs = [.ref a, .ref b] ∧ SqL K H1 a xs ∧ SqL K H1 b ys ∧ R (Itz K a b) H1) : iZip K ta σ H R := q
theorem g_exZ {a b : Addr} {xs ys : List V} {R : Addr → Addr → Prop} (h1 : SqL K H a xs) (h2 : SqL K H b ys) (q : R a b) : ∃ p q xs ys, [V.ref a, V.ref b] = [.ref p, .ref q] ∧ SqL K H p xs ∧ SqL K H q ys ∧ R p q := ⟨a, b, xs, ys, rfl, h1, h2, q⟩
theorem g_gtup {k : Nat} {t : TGs} {a : Addr} {xs : List V} {Q : L2.St → Hp → Prop} (h : SqT K H a xs) (hl : xs.length = k) (q : t xs σ H Q) : gTup K k t (.ref a) σ H Q := ⟨a, xs, rfl, h, hl, q⟩
theorem g_gcons {t : TG} {u : TGs} {v : V} {r : List V} {Q : L2.St → Hp → Prop} (q : t v σ H fun σ' H' => u r σ' H' Q) : gCons t u (v :: r) σ H Q := ⟨v, r, rfl, q⟩
theorem g_gnil {Q : L2.St → Hp → Prop} (q : Q σ H) : gNil [] σ H Q := ⟨rfl, q⟩
theorem g_all {a : Addr} {bs : List Bool} (h : SqL K H a (bs.map V.bl)) (q : Q (.bl (bs.all id)) H) : rAll K [V.ref a] H Q := ⟨a, bs, rfl, h, q⟩
theorem g_any {a : Addr} {bs : List Bool} (h : SqL K H a (bs.map V.bl)) (q : Q (.bl (bs.any id)) H) : rAny K [V.ref a] H Q := ⟨a, bs, rfl, h, q⟩
theorem g_slL {a : Addr} {xs : List V} {lo hi : Option Int} (h : SqL K H a xs) (k : ∀ p H', H p = none → Same H H' → H' p = some (.lst (cutV xs lo hi)) → Q (.ref p) H') : rSlL K (.ref a) lo hi H Q := ⟨a, xs, rfl, h, fun p hp => k p _ hp (same_new hp) upd_same⟩
theorem g_sl {r : V → Option Int → Option Int → Hp → VK → Prop} {tl th : TO} (q : te σ H fun x H1 => tl σ H1 fun l H2 => th σ H2 fun u H3 => r x l u H3 Q) : tSl r te tl th σ H Q := q
theorem g_noP {Q : Option Int → Hp → Prop} (q : Q none H) : tNoPart σ H Q := q
theorem g_part {Q : Option Int → Hp → Prop} (q : te σ H fun x H1 => ∃ i, x = .int i ∧ Q (some i) H1) : tPart te σ H Q := q
/-- all of a list of truths that are all true -/
theorem trues {acc : List V} (h : ∀ (i : Nat) y, acc[i]? = some y → y = V.bl true) : acc = (List.replicate acc.length true).map V.bl := by
  apply List.ext_getElem?
  intro i
  rw [List.getElem?_map, List.getElem?_replicate]
  split
  · rename_i lt
    rw [List.getElem?_eq_getElem lt]
    exact congrArg some (h i _ (List.getElem?_eq_getElem lt))
  · rename_i ge
    rw [List.getElem?_eq_none (by omega)]
    rfl
theorem all_trues (n : Nat) : (List.replicate n true).all id = true := by
  induction n with
  | zero => rfl
  | succ n ih => simp
end
end Gx

/-! Objects: attributes, methods (also with keywords alone), makes, isinstance -/
namespace Gx
open PySem L2 PySem.Spec PyProof.Rows
section
variable {σ : L2.St} {H H1 : Hp} {Q : VK} {K : PySem.W.Frag} {te tl ta : TE} {D : Ends} {x v : V} {a C dx : Addr} {fs : List (Str × V)} {f m : Str} {sp : Sp} {dvs : List V} {E : XK} {t : TA}
def FldQ (K : PySem.W.Frag) (f : Str) (x : V) (H : Hp) (Q : VK) : Prop := ∃ a C dx fs v, x = .ref a ∧ H a = some (.ins C dx fs) ∧ Cls K C ∧ NoAttr K C f ∧ fs.lookup f = some v ∧ Q v H
theorem g_tfld (q : ta σ H fun x H1 => FldQ K f x H1 Q) : tFld K ta f σ H Q := q
theorem g_fld (h : H a = some (.ins C dx fs)) (c : Cls K C) (n : NoAttr K C f) (l : fs.lookup f = some v) (q : Q v H) : FldQ K f (.ref a) H Q := ⟨a, C, dx, fs, v, rfl, h, c, n, l, q⟩
def MethQ (C : Addr) (m : Str) (sp : Sp) (dvs : List V) (E : XK) (t : TA) (σ : L2.St) (x : V) (H : Hp) (Q : VK) : Prop := ∃ a dx fs, x = .ref a ∧ H a = some (.ins C dx fs) ∧ fs.lookup m = none ∧ t σ H fun vs H2 => sp (x :: (vs ++ dvs)) H2 Q E
theorem g_tmeth (q : ta σ H fun x H1 => MethQ C m sp dvs E t σ x H1 Q) : tMeth C m sp dvs E ta t σ H Q := q
theorem g_meth (h : H a = some (.ins C dx fs)) (l : fs.lookup m = none) (q : t σ H fun vs H2 => sp (.ref a :: (vs ++ dvs)) H2 Q E) : MethQ C m sp dvs E t σ (.ref a) H Q := ⟨a, dx, fs, rfl, h, l, q⟩
def MakeQ (C : Addr) (sp : Sp) (vs : List V) (H : Hp) (Q : VK) (E : XK) : Prop := ∀ x dx, H x = none → H dx = none → dx ≠ x → sp (.ref x :: vs) (upd (upd H dx (.own x)) x (.ins C dx [])) (fun v H2 => v = .non ∧ Q (.ref x) H2) E
theorem g_tmake (q : t σ H fun vs H1 => MakeQ C sp (vs ++ dvs) H1 Q E) : tMake C sp dvs E t σ H Q := q
theorem g_make {vs : List V} (k : ∀ x dx H', H x = none → Same H H' → H' x = some (.ins C dx []) → sp (.ref x :: vs) H' (fun v H2 => v = .non ∧ Q (.ref x) H2) E) : MakeQ C sp vs H Q E :=
  fun x dx hx hd _ => k x dx _ hx (same_mut (same_new hd) hx) upd_same
def StoreQ (K : PySem.W.Frag) (f : Str) (y x : V) (D : Ends) (σ : L2.St) (H : Hp) : Prop := ∃ a C dx fs, x = .ref a ∧ H a = some (.ins C dx fs) ∧ Cls K C ∧ NoAttr K C f ∧ fs.length < 1000 ∧ D.nx σ (upd H a (.ins C dx (putF f y fs)))
theorem g_sfld {tv : TE} (q : tv σ H fun y H1 => ta σ H1 fun x H2 => StoreQ K f y x D σ H2) : sFld K ta tv f D σ H := q
theorem g_store (h : H a = some (.ins C dx fs)) (c : Cls K C) (n : NoAttr K C f) (l : fs.length < 1000) (q : D.nx σ (upd H a (.ins C dx (putF f v fs)))) : StoreQ K f v (.ref a) D σ H := ⟨a, C, dx, fs, rfl, h, c, n, l, q⟩
theorem g_isi {c : V} {t u : Value} {b : Bool} (k : ClsV c u) (ty : TyX K H x t) (e : PySem.W.kitOne K t u = some b) (q : Q (.bl b) H) : rIsi K [x, c] H Q := ⟨x, c, t, u, b, rfl, k, ty, e, q⟩
def PropQ (C : Addr) (sp : Sp) (dvs : List V) (E : XK) (x : V) (H : Hp) (Q : VK) : Prop := ∃ a dx fs, x = .ref a ∧ H a = some (.ins C dx fs) ∧ sp (.ref a :: dvs) H Q E
theorem g_tprop (q : ta σ H fun x H1 => PropQ C sp dvs E x H1 Q) : tProp C sp dvs E ta σ H Q := q
theorem g_prop (h : H a = some (.ins C dx fs)) (q : sp (.ref a :: dvs) H Q E) : PropQ C sp dvs E (.ref a) H Q := ⟨a, dx, fs, rfl, h, q⟩
def StarQ (K : PySem.W.Frag) (t : TA) (σ : L2.St) (x : V) (H : Hp) (Q : List V → Hp → Prop) : Prop := ∃ p xs, x = V.ref p ∧ (SqT K H p xs ∨ SqL K H p xs) ∧ t σ H fun ys H2 => Q (xs ++ ys) H2
theorem g_tstar {Q : List V → Hp → Prop} (q : te σ H fun x H1 => StarQ K t σ x H1 Q) : StX.tStar K te t σ H Q := q
theorem g_star {xs : List V} {Q : List V → Hp → Prop} (h : SqL K H a xs) (q : t σ H fun ys H2 => Q (xs ++ ys) H2) : StarQ K t σ (.ref a) H Q := ⟨a, xs, rfl, .inr h, q⟩
/-- an if whose answer is known -/
theorem g_ifT {b : Bool} {A B : Prop} (h : b = true) (q : A) : if b = true then A else B := by rw [if_pos h]; exact q
theorem g_ifF {b : Bool} {A B : Prop} (h : b = false) (q : B) : if b = true then A else B := by rw [if_neg (by rw [h]; exact Bool.false_ne_true)]; exact q
end
/-! ### a method called with keywords alone -/
structure MetK (P : Program) (w : World) (K : PySem.W.Frag) (mg : Str → Option Value) (base : Heap) (k : Nat) (C : Addr) (m : Str) (ks : List Str) (gV : List V → List V → List V) (sp : Sp) : Prop where
  ex : ∃ (f : Addr) (fd : FuncData) (ps : List Str) (g : List Value → List Value → List Value), Cls K C ∧ Meth K C m f ∧ FnOk P w K mg base CX0 k f fd ps sp ∧ KBinds K fd ps ks g gV
/-- o.m(k = e, ..) -/
def tMethK (C : Addr) (m : Str) (sp : Sp) (gV : List V → List V → List V) (ta : TE) (tk : TA) : TE := fun σ H Q => ta σ H fun x H1 => ∃ a dx fs, x = .ref a ∧ H1 a = some (.ins C dx fs) ∧ fs.lookup m = none ∧
  tk σ H1 fun zs H2 => sp (gV [x] zs) H2 Q (fun _ _ _ => False)
section
variable {X : Cx} {k j : Nat} {C : Addr} {m : Str} {ks : List Str} {gV : List V → List V → List V} {sp : Sp} {o : Expr} {kws : List Keyword} {ta : TE} {tk : TA} {pos apos : Pos}
theorem pe_mtK {pl : Sem Bool} (c : MetK X.prog X.w X.K X.mg X.base k C m ks gV sp) (hr : Room j X.A) (hk : k ≤ j) (ho : PE X o ta) (hkw : PK X kws tk)
    (hall : (backToKw pos (keywordEach kws X.env)).all (·.1.isSome) = true := by rfl) (hks : (backToKw pos (keywordEach kws X.env)).filterMap (·.1) = ks := by rfl)
    (hpl : ((backTo pos (starEach [] X.env)).any (·.1) || (backToKw pos (keywordEach kws X.env)).any (·.1.isNone)) = false := by rfl)
    (form : eval (.Call (.Attribute o m apos) [] kws pos) X.env = (do
      let obj ← eval o X.env
      standAt apos.atName
      let (fn, firsts) ← holding [obj] (getMethod obj m pl)
      callWith pos fn firsts (backTo pos (starEach [] X.env)) (backToKw pos (keywordEach kws X.env))) := by rfl) :
    PE X (.Call (.Attribute o m apos) [] kws pos) (tMethK C m sp gV ta tk) := by
  obtain ⟨f, fd, ps, g, cl, me, F, kb⟩ := c.ex
  refine ⟨fun pins s σ H Q I h => PySem.W.methodCall_KW (pl := pl) (thn (ho.run pins s σ H _ I h) fun u s1 got => ?_) form⟩
  obtain ⟨x, H1, I1, rx, a, dx, fs, ex, ea, l, q⟩ := got
  subst ex
  obtain rfl : u = Value.ref a := rx
  refine getmeth_ok I1 ea cl me l ?_
  refine PySem.W.callWith_KW0 (h₀ := X.base) I1.ok.mod.kin me.kp hall (thn (hkw.run pos pins s1 σ H1 _ I1 q) fun ws s2 got2 => ?_) hpl
  obtain ⟨zs, H2, I2, rz, q2⟩ := got2
  refine ⟨I2.kIn, ?_⟩
  rw [hks]
  exact run_fnk (us := [.ref a]) (vs := [.ref a]) F (hr.mono hk) kb pass0 I2 (.cons rfl .nil) rz q2
def MethKQ (C : Addr) (m : Str) (sp : Sp) (gV : List V → List V → List V) (tk : TA) (σ : L2.St) (x : V) (H : Hp) (Q : VK) : Prop := ∃ a dx fs, x = .ref a ∧ H a = some (.ins C dx fs) ∧ fs.lookup m = none ∧ tk σ H fun zs H2 => sp (gV [x] zs) H2 Q (fun _ _ _ => False)
theorem g_tmethK {σ : L2.St} {H : Hp} {Q : VK} (q : ta σ H fun x H1 => MethKQ C m sp gV tk σ x H1 Q) : tMethK C m sp gV ta tk σ H Q := q
theorem g_methK {σ : L2.St} {H : Hp} {Q : VK} {a dx : Addr} {fs : List (Str × V)} (h : H a = some (.ins C dx fs)) (l : fs.lookup m = none) (q : tk σ H fun zs H2 => sp (gV [.ref a] zs) H2 Q (fun _ _ _ => False)) : MethKQ C m sp gV tk σ (.ref a) H Q := ⟨a, dx, fs, rfl, h, l, q⟩
end
/-! ### a property -/
structure PropR (P : Program) (w : World) (K : PySem.W.Frag) (mg : Str → Option Value) (base : Heap) (k : Nat) (C : Addr) (f : Str) (sp : Sp) : Prop where
  ex : ∃ (p g : Addr) (fd : FuncData) (ps : List Str), Cls K C ∧ PropOf K C f p g ∧ FnOk P w K mg base CX0 k g fd ps sp ∧ Binds K fd ps []
theorem pe_pr {X : Cx} {k j : Nat} {C : Addr} {f : Str} {sp : Sp} {e : Expr} {ta : TE} {pos : Pos} (c : PropR X.prog X.w X.K X.mg X.base k C f sp) (hr : Room j X.A) (hk : k + 1 ≤ j) (he : PE X e ta) (hab : attributeBase e f X.env (eval e X.env) = eval e X.env := by rfl) :
    PE X (.Attribute e f pos) (tProp C sp [] (fun _ _ _ => False) ta) := by
  obtain ⟨p, g, fd, ps, cl, pr, F, b⟩ := c.ex
  exact pe_prop he cl pr F (hr.mono hk) b .nil pass0 hab
/-- two keywords, the second parameter's value comes last -/
def swapV : List V → List V → List V
  | [a], [y, x] => [a, x, y]
  | _, _ => []
def swapU : List Value → List Value → List Value
  | [a], [y, x] => [a, x, y]
  | _, _ => []
theorem swap_rel {vs : List V} {us : List Value} {zs : List V} {ws : List Value} (r : Vals vs us) (rz : Vals zs ws) : Vals (swapV vs zs) (swapU us ws) := by
  cases r with
  | nil => exact .nil
  | cons r1 r =>
    cases r with
    | nil =>
      cases rz with
      | nil => exact .nil
      | cons z1 rz =>
        cases rz with
        | nil => exact .nil
        | cons z2 rz =>
          cases rz with
          | nil => exact .cons r1 (.cons z2 (.cons z1 .nil))
          | cons _ _ => exact .nil
    | cons _ _ => exact .nil
/-- one keyword -/
def oneV : List V → List V → List V
  | [a], [x] => [a, x]
  | _, _ => []
def oneU : List Value → List Value → List Value
  | [a], [x] => [a, x]
  | _, _ => []
theorem one_rel {vs : List V} {us : List Value} {zs : List V} {ws : List Value} (r : Vals vs us) (rz : Vals zs ws) : Vals (oneV vs zs) (oneU us ws) := by
  cases r with
  | nil => exact .nil
  | cons r1 r =>
    cases r with
    | nil =>
      cases rz with
      | nil => exact .nil
      | cons z1 rz =>
        cases rz with
        | nil => exact .cons r1 (.cons z1 .nil)
        | cons _ _ => exact .nil
    | cons _ _ => exact .nil
theorem kbinds_one {K : PySem.W.Frag} {fd : FuncData} {s k : Str} (h : ∀ a x : Value, bindArgs fd ⟨[a], [(k, x)]⟩ = pure [(s, a), (k, x)]) : KBinds K fd [s, k] [k] oneU oneV := by
  refine ⟨fun st us ws _ hl => ?_, one_rel⟩
  match us, ws, hl with
  | [a], [x], _ => exact .of_eq (h a x)
  | [], _, hl => simp [oneU] at hl
  | [_], [], hl => simp [oneU] at hl
  | [_], _ :: _ :: _, hl => simp [oneU] at hl
  | _ :: _ :: _, _, hl => simp [oneU] at hl
theorem kbinds_swap {K : PySem.W.Frag} {fd : FuncData} {s k1 k2 : Str} (h : ∀ a x y : Value, bindArgs fd ⟨[a], [(k2, y), (k1, x)]⟩ = pure [(s, a), (k1, x), (k2, y)]) : KBinds K fd [s, k1, k2] [k2, k1] swapU swapV := by
  refine ⟨fun st us ws _ hl => ?_, swap_rel⟩
  match us, ws, hl with
  | [a], [y, x], _ => exact .of_eq (h a x y)
  | [], _, hl => simp [swapU] at hl
  | [_], [], hl => simp [swapU] at hl
  | [_], [_], hl => simp [swapU] at hl
  | [_], _ :: _ :: _ :: _, hl => simp [swapU] at hl
  | _ :: _ :: _, _, hl => simp [swapU] at hl
end Gx

/-! Lines of points: what stands at such an object, the promises of its methods -/
namespace Gx
open PySem L2
/-- whether an object is a whole number (no truth value) -/
inductive WholeV (K : PySem.W.Frag) (H : Hp) : V → Bool → Prop
  | int (i : Int) : WholeV K H (.int i) true
  | bl (c : Bool) : WholeV K H (.bl c) false
  | other {x : V} {t : Value} (ty : TyX K H x t) (no : PySem.W.kitOne K t (.type "int") = some false) : WholeV K H x false
def spWhole (K : PySem.W.Frag) : Sp := fun vs H Q _ => ∃ x b, vs = [x] ∧ WholeV K H x b ∧ Q (.bl b) H
def spPoint (K : PySem.W.Frag) : Sp := fun vs H Q _ => ∃ p x b, vs = [.ref p, x] ∧ WholeV K H x b ∧ Q (.bl b) H
/-- the attributes of a line -/
def lf (q : Addr) : List (Str × V) := [("own_points", .ref q)]
theorem lf_own (q : Addr) : (lf q).lookup ("own_points" : Str) = some (.ref q) := by simp [lf, List.lookup]
theorem lf_no (q : Addr) {m : Str} (h : (m == ("own_points" : Str)) = false) : (lf q).lookup m = none := by simp [lf, List.lookup, h]
/-- a line of the class at C stands at p, its points are xs -/
def LineAt (C : Addr) (H : Hp) (p : Addr) (xs : List V) : Prop := ∃ dx q, H p = some (.ins C dx (lf q)) ∧ H q = some (.lst xs)
theorem LineAt.same {C : Addr} {H H' : Hp} {p : Addr} {xs : List V} (h : LineAt C H p xs) (s : Same H H') : LineAt C H' p xs := by
  obtain ⟨dx, q, h1, h2⟩ := h
  exact ⟨dx, q, s _ _ h1, s _ _ h2⟩
/-- what the walk asks of the class of a line -/
structure LineC (K : PySem.W.Frag) (C : Addr) : Prop where
  cl : Cls K C
  own : NoAttr K C "own_points"
/-- a line of ints is made -/
def spInitI (K : PySem.W.Frag) (C : Addr) : Sp := fun vs H Q _ => ∃ (p a dx : Addr) (ns : List Int), vs = [.ref p, .ref a] ∧ H p = some (.ins C dx []) ∧ H a = some (.lst (ns.map V.int)) ∧ ns.length ≤ 500 ∧ ns.Pairwise (· < ·) ∧
  ∀ H', LineAt C H' p (ns.map V.int) → But p H H' → Q .non H'
/-- its points, as a new list -/
def spPoints (K : PySem.W.Frag) (C : Addr) : Sp := fun vs H Q _ => ∃ (p : Addr) (xs : List V), vs = [.ref p] ∧ LineAt C H p xs ∧ ∀ l H', H l = none → Same H H' → H' l = some (.lst xs) → Q (.ref l) H'
theorem rising_zip {ns : List Int} (h : ns.Pairwise (· < ·)) {i : Nat} {a b : Int} (ha : ns[i]? = some a) (hb : (ns.drop 1)[i]? = some b) : a < b := by
  rw [List.getElem?_drop] at hb
  have h1 := List.getElem?_eq_some_iff.mp ha
  have h2 := List.getElem?_eq_some_iff.mp hb
  obtain ⟨l1, e1⟩ := h1
  obtain ⟨l2, e2⟩ := h2
  have q := List.pairwise_iff_getElem.mp h i (1 + i) l1 l2 (by omega)
  rw [e1, e2] at q
  exact q
theorem ints_at {ns : List Int} {i : Nat} {x : V} (h : (ns.map V.int)[i]? = some x) : ∃ n, ns[i]? = some n ∧ x = V.int n := by
  rw [List.getElem?_map] at h
  cases e : ns[i]? with
  | none => rw [e] at h; cases h
  | some n => rw [e] at h; exact ⟨n, rfl, (Option.some.inj h).symm⟩
theorem but_same {p : Addr} {H H' : Hp} {o : HO} (s : Same H H') : But p H (upd H' p o) := fun b u nb e => by
  rw [upd_ne nb]
  exact s b u e
theorem cut_one (xs : List V) : cutV xs (some 1) none = xs.drop 1 := by
  unfold cutV
  cases xs with
  | nil => rfl
  | cons x r =>
    have e1 : HT.sIx (x :: r).length 0 (some 1) = 1 := by
      simp [HT.sIx]
    have e2 : HT.sIx (x :: r).length (x :: r).length none = (x :: r).length := rfl
    rw [e1, e2]
    exact List.take_of_length_le (by simp)
end Gx

/-! Cells of a line of ints -/
namespace Gx
open PySem L2
theorem g_isN1 {H : Hp} {Q : VK} {x : V} (q : Q (.bl (decide (x = .non))) H) : rIsN x .non H Q := ⟨rfl, q⟩
theorem g_notN1 {H : Hp} {Q : VK} {x : V} (q : Q (.bl (!decide (x = .non))) H) : rNotN x .non H Q := ⟨rfl, q⟩
theorem g_iteF {c : Prop} [Decidable c] {A B : Prop} (h : ¬ c) (q : B) : if decide c = true then A else B := g_ifF (decide_eq_false h) q
theorem g_iteT {c : Prop} [Decidable c] {A B : Prop} (h : c) (q : A) : if decide c = true then A else B := g_ifT (decide_eq_true h) q
abbrev oV : Option Int → V
  | none => .non
  | some i => .int i
def oD : Option Int → PyData
  | none => .none
  | some i => .int i
def leastOf (lo : Int) : Option Int → Int
  | none => lo
  | some x => if x + 1 > lo then x + 1 else lo
def mostOf (hi : Int) : Option Int → Int
  | none => hi
  | some y => if y - 1 < hi then y - 1 else hi
def gapIn (l r : Option Int) (lo hi : Int) : Bool := decide (leastOf lo l ≤ mostOf hi r)
def gapD (l r : Option Int) : PyData := .tuple [.str "gap", oD l, oD r]
def pointD (y : Int) : PyData := .tuple [.str "point", .int y]
def ptStep (lo hi : Int) : Option Int → List PyData
  | none => []
  | some y => if lo ≤ y ∧ y ≤ hi then [pointD y] else []
def cellStep (lo hi : Int) (l r : Option Int) : List PyData := (if gapIn l r lo hi = true then [gapD l r] else []) ++ ptStep lo hi r
def cellFold (lo hi : Int) (s : Option Int × List PyData) (r : Option Int) : Option Int × List PyData := (r, s.2 ++ cellStep lo hi s.1 r)
/-- the points of a line and its open end -/
def rights (ns : List Int) : List (Option Int) := ns.map some ++ [none]
def cellsOf (ns : List Int) (lo hi : Int) : List PyData := ((rights ns).foldl (cellFold lo hi) (none, [])).2
theorem rights_len (ns : List Int) : (rights ns).length = ns.length + 1 := by simp [rights]
theorem rights_V (ns : List Int) : ns.map V.int ++ [V.non] = (rights ns).map oV := by simp [rights, oV, Function.comp_def]
theorem step_len (lo hi : Int) (l r : Option Int) : (cellStep lo hi l r).length ≤ 2 := by
  unfold cellStep
  rw [List.length_append]
  have h1 : (if gapIn l r lo hi = true then [gapD l r] else []).length ≤ 1 := by split <;> simp
  have h2 : (ptStep lo hi r).length ≤ 1 := by
    cases r with
    | none => simp [ptStep]
    | some y =>
      show (if lo ≤ y ∧ y ≤ hi then [pointD y] else []).length ≤ 1
      by_cases c : lo ≤ y ∧ y ≤ hi
      · rw [if_pos c]
        exact Nat.le_refl 1
      · rw [if_neg c]
        exact Nat.zero_le 1
  omega
theorem fold_next {α β : Type} (f : β → α → β) {l : List α} {i : Nat} {x : α} (b : β) (h : l[i]? = some x) : (l.take (i + 1)).foldl f b = f ((l.take i).foldl f b) x := by
  rw [List.take_succ, h, List.foldl_append]
  rfl
mutual
/-- data without lists: it stays whatever list is changed -/
def noLst : PyData → Bool
  | .none | .bool _ | .int _ | .str _ => true
  | .list _ | .dict _ => false
  | .tuple xs => noLstAll xs
def noLstAll : List PyData → Bool
  | [] => true
  | x :: xs => noLst x && noLstAll xs
end
theorem noLstAll_iff : ∀ {xs : List PyData}, noLstAll xs = true ↔ ∀ x ∈ xs, noLst x = true
  | [] => by simp [noLstAll]
  | x :: xs => by simp [noLstAll, noLstAll_iff (xs := xs)]
section
variable {K : PySem.W.Frag} {H H' : Hp} {p : Addr} {l : List V}
theorem sqT_but (hp : H p = some (.lst l)) (b : But p H H') {a : Addr} {xs : List V} (h : SqT K H a xs) : SqT K H' a xs := by
  rcases h with (h | ⟨o, h⟩) | h
  · exact .inl (.inl (b a _ (ne_of h hp (by intro z; cases z)) h))
  · exact .inl (.inr ⟨o, b a _ (ne_of h hp (by intro z; cases z)) h⟩)
  · exact .inr h
mutual
theorem dp_but (hp : H p = some (.lst l)) (b : But p H H') : ∀ (d : PyData) (v : V), noLst d = true → Dp K H v d → Dp K H' v d
  | .none, _, _, h => by cases h; exact .non
  | .bool c, _, _, h => by cases h; exact .bl c
  | .int i, _, _, h => by cases h; exact .int i
  | .str x, _, _, h => by cases h; exact .str x
  | .list _, _, n, _ => by simp [noLst] at n
  | .dict _, _, n, _ => by simp [noLst] at n
  | .tuple ds, _, n, h => by
    cases h with
    | tup a c => exact .tup (sqT_but hp b a) (dp_butAll hp b ds _ (by simpa [noLst] using n) c)
theorem dp_butAll (hp : H p = some (.lst l)) (b : But p H H') : ∀ (ds : List PyData) (vs : List V), noLstAll ds = true → DpAll K H vs ds → DpAll K H' vs ds
  | [], _, _, h => by cases h; exact .nil
  | d :: ds, _, n, h => by
    simp only [noLstAll, Bool.and_eq_true] at n
    cases h with
    | cons a c => exact .cons (dp_but hp b d _ n.1 a) (dp_butAll hp b ds _ n.2 c)
end
end
theorem dp_o {K : PySem.W.Frag} {H : Hp} : ∀ (o : Option Int), Dp K H (oV o) (oD o)
  | none => .non
  | some i => .int i
theorem noLst_gap (l r : Option Int) : noLst (gapD l r) = true := by
  cases l <;> cases r <;> simp [gapD, noLst, noLstAll, oD]
theorem noLst_point (y : Int) : noLst (pointD y) = true := by simp [pointD, noLst, noLstAll]
theorem noLst_step (lo hi : Int) (l r : Option Int) : ∀ d ∈ cellStep lo hi l r, noLst d = true := by
  intro d hd
  unfold cellStep at hd
  rcases List.mem_append.mp hd with h | h
  · split at h
    · rw [List.mem_singleton.mp h]
      exact noLst_gap l r
    · cases h
  · cases r with
    | none => cases h
    | some y =>
      have h : d ∈ (if lo ≤ y ∧ y ≤ hi then [pointD y] else []) := h
      by_cases c : lo ≤ y ∧ y ≤ hi
      · rw [if_pos c] at h
        rw [List.mem_singleton.mp h]
        exact noLst_point _
      · rw [if_neg c] at h
        cases h
theorem cells_keep (P : PyData → Prop) (lo hi : Int) : ∀ (rs : List (Option Int)) (s : Option Int × List PyData), (∀ l r, ∀ d ∈ cellStep lo hi l r, P d) → (∀ d ∈ s.2, P d) → ∀ d ∈ (rs.foldl (cellFold lo hi) s).2, P d
  | [], s, _, h2 => h2
  | r :: rs, s, h1, h2 => cells_keep P lo hi rs (cellFold lo hi s r) h1 fun d hd => by
    rcases List.mem_append.mp hd with h | h
    · exact h2 d h
    · exact h1 _ _ d h
theorem noLst_cells (lo hi : Int) (rs : List (Option Int)) : noLstAll (rs.foldl (cellFold lo hi) (none, [])).2 = true :=
  noLstAll_iff.mpr (cells_keep _ lo hi rs _ (fun l r => noLst_step lo hi l r) fun d h => nomatch h)
theorem same_but {p : Addr} {H H1 H2 : Hp} (s : Same H H1) (n : H p = none) (b : But p H1 H2) : Same H H2 := fun a o e => b a o (ne_of_none e n) (s a o e)
theorem g_appB {p : Addr} {H : Hp} {Q : VK} {xs : List V} {y : V} (h : H p = some (.lst xs)) (hl : xs.length < 100000) (k : ∀ H', But p H H' → H' p = some (.lst (xs ++ [y])) → Q .non H') : rAppend (.ref p) [y] H Q :=
  ⟨p, xs, y, rfl, rfl, h, big_lt hl, k _ (fun a o n e => by rw [upd_ne n]; exact e) upd_same⟩
theorem g_clear {p : Addr} {H H0 : Hp} {Q : VK} {xs : List V} (s : Same H0 H) (n : H0 p = none) (h : H p = some (.lst xs)) (k : ∀ H', Same H0 H' → H' p = some (.lst []) → Q .non H') : rClear (.ref p) [] H Q :=
  ⟨p, xs, rfl, rfl, h, k _ (same_mut s n) upd_same⟩
theorem g_unl {K : PySem.W.Frag} {k : Nat} {t : TGs} {a : Addr} {xs : List V} {σ : L2.St} {H : Hp} {Q : L2.St → Hp → Prop} (h : SqL K H a xs) (hl : xs.length = k) (q : t xs σ H Q) : gUnl K k t (.ref a) σ H Q := ⟨a, xs, rfl, h, hl, q⟩
theorem g_cat {l b : Addr} {xs zs : List V} {H : Hp} {Q : VK} (h1 : H l = some (.lst xs)) (h2 : H b = some (.lst zs)) (hl : xs.length + zs.length ≤ 100000) (k : ∀ p H', H p = none → Same H H' → H' p = some (.lst (xs ++ zs)) → Q (.ref p) H') : rCat (.ref l) (.ref b) H Q :=
  ⟨l, b, xs, zs, rfl, rfl, h1, h2, big_le hl, fun p hp => k p _ hp (same_new hp) upd_same⟩
theorem g_sorted {K : PySem.W.Frag} {a : Addr} {ns : List Int} {H : Hp} {Q : VK} (h : SqL K H a (ns.map V.int)) (few : ns.length < 64) (k : ∀ (ms : List Int) (p : Addr) (H' : Hp), ms.Perm ns → ms.Pairwise (· ≤ ·) → H p = none → Same H H' → H' p = some (.lst (ms.map V.int)) → Q (.ref p) H') : rSorted K [V.ref a] H Q :=
  ⟨a, ns, rfl, h, few, fun ms p h1 h2 h3 => k ms p _ h1 h2 h3 (same_new h3) upd_same⟩
/-- two numbers in order -/
theorem two_sorted {ms : List Int} {a b : Int} (p : ms.Perm [a, b]) (u : ms.Pairwise (· ≤ ·)) : ∃ x y, ms = [x, y] ∧ x ≤ y ∧ (x = a ∨ x = b) ∧ (y = a ∨ y = b) := by
  have l := p.length_eq
  match ms, l with
  | [x, y], _ =>
    refine ⟨x, y, rfl, ?_, ?_, ?_⟩
    · have := List.pairwise_cons.mp u
      exact this.1 y List.mem_cons_self
    · have : x ∈ [a, b] := p.mem_iff.mp List.mem_cons_self
      simpa using this
    · have : y ∈ [a, b] := p.mem_iff.mp (List.mem_cons_of_mem _ List.mem_cons_self)
      simpa using this
theorem ors_at {rs : List (Option Int)} {i : Nat} {x : V} (h : (rs.map oV)[i]? = some x) : ∃ r, rs[i]? = some r ∧ x = oV r := by
  rw [List.getElem?_map] at h
  cases e : rs[i]? with
  | none => rw [e] at h; cases h
  | some n => rw [e] at h; exact ⟨n, rfl, (Option.some.inj h).symm⟩
/-! ### the promises -/
def spAhead : Sp := fun vs H Q _ => ∃ (p : Addr) (a lo : Int), vs = [.ref p, .int a, .int lo] ∧ Q (.bl (decide (a < lo))) H
def spBeyond : Sp := fun vs H Q _ => ∃ (p : Addr) (a hi : Int), vs = [.ref p, .int a, .int hi] ∧ Q (.bl (decide (hi < a))) H
def spBetween : Sp := fun vs H Q _ => ∃ (p : Addr) (l r : Option Int) (lo hi : Int), vs = [.ref p, oV l, oV r, .int lo, .int hi] ∧ Q (.bl (gapIn l r lo hi)) H
def spCells (K : PySem.W.Frag) (C : Addr) : Sp := fun vs H Q _ => ∃ (p : Addr) (ns : List Int) (lo hi : Int), vs = [.ref p, .int lo, .int hi] ∧ LineAt C H p (ns.map V.int) ∧ lo ≤ hi ∧ ns.length ≤ 500 ∧
  ∀ (a : Addr) (acc : List V) (H' : Hp), H a = none → Same H H' → H' a = some (.lst acc) → DpAll K H' acc (cellsOf ns lo hi) → acc.length ≤ 1002 → Q (.ref a) H'
end Gx

/-! set(xs), xs a list: what is true of the set behind each item, by any word J -/
namespace Gx
open PySem L2 PySem.Spec PyProof.Rows
section
variable {P : Program} {w : World} {A : Around} {E : Value → Shared → Prop} {s : Shared}
/-- one add: from J i to J (i + 1), only the set and the tokens change -/
def Adds (P : Program) (w : World) (S : Addr) (h0 : Heap) (J : Nat → Heap → Prop) (i : Nat) (v : Value) : Prop :=
  ∀ (B : Around) (F : Value → Shared → Prop) (s : Shared) (Q : Bool → Shared → Prop), B.units < cLine → J i s.heap → (∀ b o, h0.get? b = some o → s.heap.get? b = some o) →
    (∀ r h' tk, Heap.SameBut S s.heap h' → J (i + 1) h' → s.toks ≤ tk → Q r { s with heap := h', toks := tk }) → wpAny (model P w) B (setAdd S v) Q F s
/-- what J leans on: the set's object and what stood before -/
def Leans (S : Addr) (h0 : Heap) (J : Nat → Heap → Prop) : Prop :=
  ∀ i h h', J i h → (∀ o, h.get? S = some o → h'.get? S = some o) → (∀ b o, h0.get? b = some o → h'.get? b = some o) → J i h'
theorem set_turns {I : Addr} {fp wr : List Addr} {G : Array GenState → Array GenState → Prop} {n : Nat} {Pv : Nat → Value → Prop} {St : Nat → Shared → Prop} {R : Result → Shared → Prop}
    (W : WalksS P w A.in1 I fp wr G n Pv St) {S : Addr} (apart : S ∉ fp) {h0 : Heap} (S0 : h0.get? S = none) (w0 : ∀ b ∈ wr, h0.get? b = none) (hu : A.in1.units < cLine)
    {J : Nat → Heap → Prop} (lean : Leans S h0 J) (adds : ∀ i v, i < n → Pv i v → Adds P w S h0 J i v) :
    ∀ (k i : Nat) (s : Shared), n - i = k → i ≤ n → St i s → (∀ b o, h0.get? b = some o → s.heap.get? b = some o) → J i s.heap →
      (∀ s', Moved (S :: wr) G s s' → J n s'.heap → (∀ b o, h0.get? b = some o → s'.heap.get? b = some o) → R (.ok (.ret .none)) s') →
      codeAny (model P w) A (.builtin "set.update.loop" ⟨[.ref S, .ref I], []⟩) R s := by
  have nwr : S ∉ wr := fun h => apart (W.sub _ h)
  have more : ∀ b ∈ wr, b ∈ S :: wr := fun b hb => List.mem_cons_of_mem _ hb
  have stays : ∀ {s s' : Shared}, Moved wr G s s' → (∀ b o, h0.get? b = some o → s.heap.get? b = some o) → ∀ b o, h0.get? b = some o → s'.heap.get? b = some o := fun mv st b o e =>
    mv.heap b o (fun hb => by rw [w0 b hb] at e; cases e) (st b o e)
  intro k
  induction k with
  | zero =>
    intro i s hk hi st old ji fin
    obtain rfl : i = n := by omega
    refine codeAny_builtin F.entry_set_update_loop ?_
    rw [Around.under_plainId F.plain_set_update_loop _]
    refine wpAny_bind (W.done s _ _ st fun s' mv => ?_)
    exact wpAny_pure (fin s' (mv.mono more) (lean i _ _ ji (fun o e => mv.heap S o nwr e) (stays mv old)) (stays mv old))
  | succ k ih =>
    intro i s hk hi st old ji fin
    have lt : i < n := by omega
    refine codeAny_builtin F.entry_set_update_loop ?_
    rw [Around.under_plainId F.plain_set_update_loop _]
    refine wpAny_bind (W.item i s _ _ lt st fun v s' pv st' mv => ?_)
    have old' := stays mv old
    refine wpAny_bind (wpAny_holding (adds i v lt pv A.in1 _ s' _ hu (lean i _ _ ji (fun o e => mv.heap S o nwr e) old') old' fun r h' tk sb ji' le => ?_))
    have old2 : ∀ b o, h0.get? b = some o → h'.get? b = some o := fun b o e => (sb.2 b (fun z => by rw [z, S0] at e; cases e)).trans (old' b o e)
    refine wpAny_pure ⟨plainId_quiet F.plain_set_update_loop _, ih (i + 1) _ (by omega) lt (W.frame _ s' _ _ st' le fun b hb o e => (sb.2 b (fun z => apart (by rw [← z]; exact hb))).trans e) old2 ji' fun s2 mv2 jn old3 => ?_⟩
    exact fin s2 (Moved.trans W.gtrans ((mv.mono more).then_heap le fun b o hb e => (sb.2 b (fun z => hb (by rw [z]; exact List.mem_cons_self))).trans e) mv2) jn old3
set_option maxHeartbeats 4000000 in
theorem set_of_list {l : Addr} {items : Array Value} {Q : Value → Shared → Prop} (J : Nat → Heap → Prop) (calm : A.handled = none) (hl : s.heap.IsList l items) (hu : A.units + 8 < cLine)
    (lean : Leans s.heap.objs.size s.heap J) (adds : ∀ (i : Nat) v, items[i]? = some v → Adds P w s.heap.objs.size s.heap J i v)
    (start : ∀ h', h'.get? s.heap.objs.size = some { cls := .type "set", dict := none, data := .set #[] 0 (.fresh 0 0 (!w.params.followText "set-order")) } → (∀ b o, s.heap.get? b = some o → h'.get? b = some o) → J 0 h')
    (fin : ∀ h' tk, J items.size h' → (∀ b o, s.heap.get? b = some o → h'.get? b = some o) → Q (.ref s.heap.objs.size) { s with heap := h', toks := tk }) :
    wpAny (model P w) A (call (.type "set") [.ref l]) Q E s := by
  obtain ⟨c, tl, inMro⟩ := F.called_set.mro
  have isMade := F.called_set.made
  have isSub := F.called_set.sub
  refine wpAny_call (codeAny_of_tree ?_)
  show wpAny _ _ (callAny (.type "set") _) _ _ _
  refine wpAny_pure ⟨Code.quiet_builtin _ (by decide +kernel), codeAny_builtin F.entry_type_call ?_⟩
  rw [Around.under_plain (weight_type_call_type "set" [.ref l] []) rfl]
  have noType := F.called_set.notType
  have canMake := F.called_set.canCreate
  have checked := F.typeCall_set_1 (.ref l)
  repeat (any_goals (first | assumption | wp_step))
  generalize ef : (Obj.mk (.type "set") none (.set #[] 0 (.fresh 0 0 (!w.params.followText "set-order"))) #[]) = fresh
  refine codeAny_mono (code_set_led1 (.ref l) (E := E) (Q₁ := fun v s1 => v = .ref s.heap.objs.size ∧ s1 = { s with heap := s.heap.push fresh }) (by subst ef; exact ⟨rfl, rfl⟩)) fun r s1 got => ?_
  cases r with
  | error e => exact got
  | ok fl =>
    cases fl with
    | ret v =>
      obtain ⟨rfl, rfl⟩ := got
      have at_S : (s.heap.push fresh).get? s.heap.objs.size = some fresh := by subst ef; exact Heap.get?_push_size _ rfl
      have isSet : Shared.TypeIs { s with heap := s.heap.push fresh } (.ref s.heap.objs.size) "set" := ⟨_, at_S, by subst ef; rfl⟩
      have look := F.called_set.init.lookup
      have bound := F.called_set.init.bind (.ref s.heap.objs.size)
      repeat (any_goals (first | assumption | wp_step))
      refine codeAny_mono (codeAny_call_builtin (R := wants (fun r s2 => r = .none ∧ ∃ h' tk, s2 = { s with heap := h', toks := tk } ∧ J items.size h' ∧ (∀ b o, s.heap.get? b = some o → h'.get? b = some o)) E)
        F.called_set.init.plain F.entry_set_init (check_set_init_1 isSet ?_)) fun r2 s2 got2 => ?_
      · subst ef
        obtain ⟨ol, hol, hcl, nl, hdl⟩ := hl
        obtain ⟨ocls, odict, odata, oslots⟩ := ol
        simp only at hcl hdl
        subst hcl; subst hdl
        have there : (s.heap.push ⟨.type "set", none, .set #[] 0 (.fresh 0 0 (!w.params.followText "set-order")), #[]⟩).get? l = some { cls := .type "list", dict := odict, data := .seq items nl, slots := oslots } := Heap.get?_push_of_some _ hol
        have s1 := F.sub_list_set
        have s2 := F.sub_list_frozenset
        have ne : (Value.type "list" == Value.type "dict") = false := by decide
        have isL : (s.heap.push ⟨.type "set", none, .set #[] 0 (.fresh 0 0 (!w.params.followText "set-order")), #[]⟩).IsList l items := ⟨_, there, rfl, nl, rfl⟩
        unfold Builtin.«set.__init__» noKeywords Builtin.Frozenset.updateFrom
        generalize ePI : pyIter = PI
        wp_walk
        subst ePI
        refine wpAny_pyIter_list isL ?_
        refine wpAny_bind ?_
        refine wpAny_runValue ?_
        have calm3 : A.in1.in1.in1.handled = none := by simp [calm]
        have sz : (s.heap.push ⟨.type "set", none, .set #[] 0 (.fresh 0 0 (!w.params.followText "set-order")), #[]⟩).objs.size = s.heap.objs.size + 1 := Heap.size_push ..
        have lS := Heap.lt_size hol
        have nl1 : l ≠ (s.heap.push ⟨.type "set", none, .set #[] 0 (.fresh 0 0 (!w.params.followText "set-order")), #[]⟩).objs.size := by rw [sz]; exact Nat.ne_of_lt (Nat.lt_succ_of_lt lS)
        have free : ∀ b, s.heap.objs.size ≤ b → s.heap.get? b = none := fun b hb => by
          cases q : s.heap.get? b with
          | none => rfl
          | some o => exact absurd (Nat.lt_of_lt_of_le (Heap.lt_size q) hb) (Nat.lt_irrefl _)
        have apart : s.heap.objs.size ∉ [(s.heap.push ⟨.type "set", none, .set #[] 0 (.fresh 0 0 (!w.params.followText "set-order")), #[]⟩).objs.size, l] := by
          rw [sz]
          simp only [List.mem_cons, List.not_mem_nil, or_false, not_or]
          exact ⟨Nat.ne_of_lt (Nat.lt_succ_self _), Nat.ne_of_gt lS⟩
        have old1 : ∀ b o, s.heap.get? b = some o → ((s.heap.push ⟨.type "set", none, .set #[] 0 (.fresh 0 0 (!w.params.followText "set-order")), #[]⟩).push { cls := .type "list_iterator", data := .fields #[.ref l, .int 0 0] }).get? b = some o := fun b o e => Heap.get?_push_of_some _ (Heap.get?_push_of_some _ e)
        refine set_turns ((Walks.list calm3 _ l nl1 items).toS) apart (h0 := s.heap) (free _ (Nat.le_refl _)) (fun b hb => free b (by rw [List.mem_singleton.mp hb, sz]; exact Nat.le_succ _)) (by show A.units + 1 + 1 + 1 < cLine; omega) lean
          (fun i v _ pv => adds i v pv) (items.size - 0) 0 _ (by omega) (Nat.zero_le _) ⟨⟨_, Heap.get?_push_size _ rfl, rfl, rfl⟩, (isL.push _)⟩ old1 (start _ (Heap.get?_push_of_some _ at_S) old1) fun s3 mv jn old => ?_
        obtain ⟨h', g2, d', tk', os'⟩ := s3
        obtain rfl : g2 = s.gens := mv.gens
        obtain rfl : d' = s.drawn := mv.drawn
        obtain rfl : os' = s.os := mv.os
        show wpAny _ _ _ _ _ _
        refine wpAny_pure ?_
        show wpAny _ _ (ret Value.none) _ _ _
        exact wpAny_pure ⟨rfl, h', tk', rfl, jn, old⟩
      · cases r2 with
        | error e => exact got2
        | ok fl2 =>
          cases fl2 with
          | ret r =>
            obtain ⟨rfl, h', tk, rfl, jn, old⟩ := got2
            repeat (any_goals (first | assumption | wp_step))
            exact fin h' tk jn old
          | _ => exact got2.elim
    | _ => exact got.elim
end
end Gx

/-! set(xs), xs a list of ints -/
namespace Gx
open PySem L2 PySem.Spec PyProof.Rows
section
variable {P : Program} {w : World}
def JI (w : World) (S : Addr) (ns : List Int) (i : Nat) (h : Heap) : Prop := ∃ M n, SetR w h S M n ∧ (∀ k, M k = true ↔ k ∈ ns.take i) ∧ n ≤ i
theorem ji_lean {S : Addr} {h0 : Heap} {ns : List Int} : Leans S h0 (JI w S ns) := fun i h h' ⟨M, n, R, m, l⟩ k _ => ⟨M, n, R.at k, m, l⟩
theorem ji_adds {S : Addr} {h0 : Heap} {ns : List Int} {i : Nat} {k : Int} {t : Tok} (hk : ns[i]? = some k) (few : ns.length + 1 < scanBound) : Adds P w S h0 (JI w S ns) i (.int k t) := by
  intro B F s Q hu ji old fin
  obtain ⟨M, n, R, m, l⟩ := ji
  have hi := (List.getElem?_eq_some_iff.mp hk).1
  unfold setAdd
  refine wpAny_holding ?_
  refine wpAny_bind ((intKind P w).pyHash (k := k) (intKind_is _ _ _ _) ?_)
  have R1 : SetR w ({ s with toks := s.toks + 1 } : Shared).heap S M n := R
  refine setR_add_hashed (P := P) R1 (by omega) fun h' sb R2 => ?_
  refine fin _ h' (s.toks + 1) sb ⟨_, _, R2, fun j => ?_, ?_⟩ (Nat.le_succ _)
  · rw [List.take_succ, hk, Bool.or_eq_true, decide_eq_true_eq, List.mem_append, m j]
    simp
  · split <;> omega
theorem ji_start {S : Addr} {ns : List Int} {h : Heap} (e : h.get? S = some { cls := .type "set", dict := none, data := .set #[] 0 (.fresh 0 0 (!w.params.followText "set-order")) }) : JI w S ns 0 h := by
  refine ⟨fun _ => false, 0, ⟨_, #[], 0, _, e, ⟨rfl, rfl, rfl⟩, rfl, fun e h => (by cases h), List.nodup_nil, fun k => by simp, by decide, by rfl, rfl, by simp [SetTable.fresh, Ris], ?_⟩, fun k => by simp, Nat.le_refl 0⟩
  cases w.params.followText "set-order" with
  | true => exact .inl rfl
  | false => exact .inr rfl
end
section
variable {X : Cx}
def rSetOfI (K : PySem.W.Frag) (w : World) : List V → Hp → VK → Prop := fun xs H Q => ∃ (l : Addr) (ns : List Int), xs = [V.ref l] ∧ SqL K H l (ns.map V.int) ∧ ns.length < 4000 ∧
  ∀ (a : Addr) (M : Int → Bool) (n : Nat), H a = none → (∀ k, M k = true ↔ k ∈ ns) → n ≤ ns.length → Q (.ref a) (upd H a (SetO w a M n))
theorem cr_setOfI {j : Nat} (hc : X.calm = true) (hr : Room j X.A) : CallR X (.type "set") (rSetOfI X.K X.w) := by
  intro pins s σ H xs us Q I rel h
  obtain ⟨l, ns, rfl, sq, few, k⟩ := h
  rw [Vals.ref1 rel]
  obtain ⟨its, rv, pl, sz⟩ := I.list sq
  have len : its.toArray.size = ns.length := by rw [List.size_toArray, ← rv.length, List.length_map]
  have few' : ns.length + 1 < scanBound := by have : scanBound = 4096 := rfl; omega
  refine set_of_list (JI X.w s.heap.objs.size ns) (I.ok.hd hc) pl.isList (by have := hr.units; omega) ji_lean (fun i v hv => ?_) (fun h' e _ => ji_start e) fun h' tk jn old => ?_
  · rw [List.getElem?_toArray] at hv
    have hlt : i < ns.length := by
      have := (List.getElem?_eq_some_iff.mp hv).1
      rw [← rv.length, List.length_map] at this
      exact this
    obtain ⟨u, e1, r1⟩ := rv.get (i := i) (x := V.int ns[i]) (by rw [List.getElem?_map, List.getElem?_eq_getElem hlt] <;> rfl)
    rw [hv] at e1
    obtain rfl := Option.some.inj e1
    obtain ⟨t, rfl⟩ := r1
    exact ji_adds (List.getElem?_eq_getElem hlt) few'
  · obtain ⟨M, n, R, m, ln⟩ := jn
    rw [len, List.take_length] at m
    rw [len] at ln
    have new : H s.heap.objs.size = none := I.hok.fresh (Nat.le_refl _)
    exact ⟨.ref s.heap.objs.size, upd H s.heap.objs.size (SetO X.w s.heap.objs.size M n), I.laid (t' := tk) old (Nat.le_refl _) (setO_new R), rfl, k _ M n new m ln⟩
theorem g_setI {K : PySem.W.Frag} {w : World} {l : Addr} {ns : List Int} {H : Hp} {Q : VK} (h : SqL K H l (ns.map V.int)) (few : ns.length < 4000)
    (k : ∀ (a : Addr) (M : Int → Bool) (n : Nat) (H' : Hp), H a = none → Same H H' → H' a = some (SetO w a M n) → (∀ k, M k = true ↔ k ∈ ns) → n ≤ ns.length → Q (.ref a) H') : rSetOfI K w [V.ref l] H Q :=
  ⟨l, ns, rfl, h, few, fun a M n ha m ln => k a M n _ ha (same_new ha) upd_same m ln⟩
theorem g_sortedSet {w : World} {a : Addr} {M : Int → Bool} {n : Nat} {H : Hp} {Q : VK} (h : H a = some (SetO w a M n)) (few : n < 64)
    (k : ∀ (ns : List Int) (p : Addr) (H' : Hp), ns.Pairwise (· < ·) → (∀ k : Int, k ∈ ns ↔ M k = true) → ns.length = n → H p = none → Same H H' → H' p = some (.lst (ns.map V.int)) → Q (.ref p) H') : rSortedSet w [V.ref a] H Q :=
  ⟨a, M, n, rfl, h, few, fun ns p h1 h2 h3 h4 => k ns p _ h1 h2 h3 h4 (same_new h4) upd_same⟩
end
end Gx

/-! Cells found by trying numbers -/
namespace Gx
open PySem L2
theorem g_cutE {te : TE} {σ : L2.St} {H : Hp} {Q : VK} (P : V → Hp → Prop) (h : ∀ Q' : VK, (∀ v H', P v H' → Q' v H') → te σ H Q') (q : ∀ v H', P v H' → Q v H') : te σ H Q := h Q q
theorem g_cutT {tt : TT} {σ : L2.St} {H : Hp} {Q : Bool → Hp → Prop} (P : Bool → Hp → Prop) (h : ∀ Q' : Bool → Hp → Prop, (∀ b H', P b H' → Q' b H') → tt σ H Q') (q : ∀ b H', P b H' → Q b H') : tt σ H Q := h Q q
theorem dpAll_last {K : PySem.W.Frag} {H : Hp} {vs : List V} {ds : List PyData} {e : PyData} (h : DpAll K H vs ds) (he : ds.getLast? = some e) : ∃ v, vs.getLast? = some v ∧ Dp K H v e := by
  have l := dpAll_len h
  rw [List.getLast?_eq_getElem?] at he
  have hi := (List.getElem?_eq_some_iff.mp he).1
  have hv : vs[ds.length - 1]? = some (vs[ds.length - 1]'(by omega)) := List.getElem?_eq_getElem _
  obtain ⟨d, h1, h2⟩ := dpAll_get h hv
  rw [he] at h1
  obtain rfl := Option.some.inj h1
  refine ⟨_, ?_, h2⟩
  rw [List.getLast?_eq_getElem?]
  exact (congrArg (fun n => vs[n - 1]?) l).trans hv
theorem filter_ints (ns : List Int) (c : V → Bool) (d : Int → Bool) (h : ∀ n, c (.int n) = d n) : ((ns.map V.int).filter c).map (fun x => x) = (ns.filter d).map V.int := by
  induction ns with
  | nil => rfl
  | cons n ns ih =>
    rw [List.map_cons, List.filter_cons, List.filter_cons, h n]
    cases d n with
    | true => simp only [if_true, List.map_cons, ih]
    | false => simpa using ih
theorem eqV_int (a b : Int) : eqV (.int a) (.int b) = decide (a = b) := by
  show (a == b) = decide (a = b)
  by_cases h : a = b
  · subst h; simp
  · simp [h]
theorem inV_ints (n : Int) : ∀ ns : List Int, inV (.int n) (ns.map V.int) = decide (n ∈ ns)
  | [] => by simp [inV]
  | m :: ns => by
    have ih := inV_ints n ns
    unfold inV at ih ⊢
    rw [List.map_cons, List.any_cons, eqV_int, ih]
    by_cases h : m = n
    · subst h; simp
    · by_cases h2 : n ∈ ns <;> simp [h, h2, Ne.symm h, eq_comm]
theorem flat_ints (ns : List Int) : (ns.map V.int).all flatV = true := by
  rw [List.all_eq_true]
  intro x hx
  obtain ⟨n, _, rfl⟩ := List.mem_map.mp hx
  rfl
theorem g_inI {K : PySem.W.Frag} {H : Hp} {Q : VK} {p : Addr} {ns : List Int} {n : Int} (h : SqL K H p (ns.map V.int)) (q : Q (.bl (decide (n ∈ ns))) H) : rIn K false (.int n) (.ref p) H Q :=
  ⟨p, _, rfl, .inl h, rfl, flat_ints ns, by rw [inV_ints]; exact q⟩
theorem g_notInI {K : PySem.W.Frag} {H : Hp} {Q : VK} {p : Addr} {ns : List Int} {n : Int} (h : SqL K H p (ns.map V.int)) (q : Q (.bl (!decide (n ∈ ns))) H) : rIn K true (.int n) (.ref p) H Q :=
  ⟨p, _, rfl, .inl h, rfl, flat_ints ns, by rw [inV_ints]; exact q⟩
theorem eqv_ints (ns ms : List Int) : PyData.eqv (.list (ns.map PyData.int)) (.list (ms.map PyData.int)) = decide (ns = ms) := by
  by_cases h : ns = ms
  · rw [decide_eq_true h, eqv_yes (bare_ints _) (bare_ints _) (by rw [h])]
  · rw [decide_eq_false h, eqv_no (bare_ints _) (bare_ints _) (fun z => h (ints_inj.mp z))]
theorem g_neI {K : PySem.W.Frag} {H : Hp} {Q : VK} {p q : Addr} {ns ms : List Int} (h1 : SqL K H p (ns.map V.int)) (h2 : SqL K H q (ms.map V.int)) (k : Q (.bl (!decide (ns = ms))) H) : rNeD K (.ref p) (.ref q) H Q := by
  refine g_neD (dp_ints h1) (dp_ints h2) (shaped_ints _) (shaped_ints _) ?_
  rw [eqv_ints]
  exact k
theorem atI_neg1 {xs : List V} {v : V} (h : xs.getLast? = some v) : atI xs (-1) = some v := by
  have ne : xs ≠ [] := fun e => by rw [e] at h; cases h
  have e : xs = xs.dropLast ++ [v] := by
    have := List.dropLast_concat_getLast ne
    rw [List.getLast?_eq_some_getLast ne] at h
    rw [Option.some.inj h] at this
    exact this.symm
  rw [e]
  exact atI_last _ _
theorem atI_head {xs : List V} {v : V} (h : xs.head? = some v) : atI xs 0 = some v := by
  cases xs with
  | nil => cases h
  | cons x r => exact atI_nat (j := 0) h
theorem oV_last (ns : List Int) (h : ns ≠ []) : (ns.map V.int).getLast? = some (oV ns.getLast?) := by
  rw [List.getLast?_map, List.getLast?_eq_some_getLast h]
  rfl
theorem oV_head (ns : List Int) (h : ns ≠ []) : (ns.map V.int).head? = some (oV ns.head?) := by
  cases ns with
  | nil => exact absurd rfl h
  | cons n r => rfl
/-- the cell of a number -/
def cellAt (ns : List Int) (m : Int) : PyData := if m ∈ ns then pointD m else gapD (ns.filter fun n => decide (n < m)).getLast? (ns.filter fun n => decide (m < n)).head?
def sameLast (acc : List PyData) (d : PyData) : Bool := match acc.getLast? with
  | none => false
  | some e => PyData.eqv e d
def dueStep (ns : List Int) (acc : List PyData) (m : Int) : List PyData := if sameLast acc (cellAt ns m) = true then acc else acc ++ [cellAt ns m]
def dueOf (ns : List Int) (lo : Int) (k : Nat) : List PyData := (List.range k).foldl (fun acc (i : Nat) => dueStep ns acc (lo + (i : Int))) []
theorem due_succ (ns : List Int) (lo : Int) (k : Nat) : dueOf ns lo (k + 1) = dueStep ns (dueOf ns lo k) (lo + (k : Int)) := by
  unfold dueOf
  rw [List.range_succ, List.foldl_append]
  rfl
theorem eqv_nil (ds : List PyData) : PyData.eqv (.list ds) (.list []) = ds.isEmpty := by cases ds <;> simp [PyData.eqv, PyData.eqvAll]
/-! ### cells are small data -/
/-- numbers of at most eighty digits -/
def In80 (i : Int) : Prop := -100000000000000000000000000000000000000000000000000000000000000000000000000000000 ≤ i ∧ i ≤ 100000000000000000000000000000000000000000000000000000000000000000000000000000000
theorem fine_o {n : Nat} {o : Option Int} (h : ∀ i, o = some i → In80 i) : Fine n 1 (oD o) := by
  cases o with
  | none => exact fine_none
  | some i => exact fine_int (h i rfl).1 (h i rfl).2
theorem fine_gap {l r : Option Int} (hl : ∀ i, l = some i → In80 i) (hr : ∀ i, r = some i → In80 i) : Fine 1 4 (gapD l r) := by
  refine (fine_tuple (n := 0) (m := 1) (xs := [.str "gap", oD l, oD r]) fun x hx => ?_).mono (Nat.le_refl _) (by simp)
  simp only [List.mem_cons, List.not_mem_nil, or_false] at hx
  rcases hx with rfl | rfl | rfl
  · exact fine_str (by decide +kernel) (by decide +kernel)
  · exact fine_o hl
  · exact fine_o hr
theorem fine_point {y : Int} (h : In80 y) : Fine 1 4 (pointD y) := by
  refine (fine_tuple (n := 0) (m := 1) (xs := [.str "point", .int y]) fun x hx => ?_).mono (Nat.le_refl _) (by simp)
  simp only [List.mem_cons, List.not_mem_nil, or_false] at hx
  rcases hx with rfl | rfl
  · exact fine_str (by decide +kernel) (by decide +kernel)
  · exact fine_int h.1 h.2
theorem bare_gap (l r : Option Int) : bare (gapD l r) = true := by cases l <;> cases r <;> simp [gapD, oD, bare, bareAll]
theorem bare_point (y : Int) : bare (pointD y) = true := by simp [pointD, bare, bareAll]
theorem bare_cellAt (ns : List Int) (m : Int) : bare (cellAt ns m) = true := by
  unfold cellAt
  split
  · exact bare_point m
  · exact bare_gap _ _
theorem noLst_cellAt (ns : List Int) (m : Int) : noLst (cellAt ns m) = true := by
  unfold cellAt
  split
  · exact noLst_point m
  · exact noLst_gap _ _
theorem fine_cellAt {ns : List Int} (h : ∀ n ∈ ns, In80 n) {m : Int} (hm : In80 m) : Fine 1 4 (cellAt ns m) := by
  unfold cellAt
  split
  · exact fine_point hm
  · refine fine_gap (fun i e => h i ?_) (fun i e => h i ?_)
    · exact (List.mem_filter.mp (List.mem_of_getLast? e)).1
    · exact (List.mem_filter.mp (List.mem_of_head? e)).1
theorem due_all (P : PyData → Prop) {ns : List Int} {lo : Int} : ∀ (k : Nat), (∀ i : Nat, i < k → P (cellAt ns (lo + (i : Int)))) → ∀ d ∈ dueOf ns lo k, P d
  | 0, _, d, h => nomatch h
  | k + 1, hp, d, h => by
    rw [due_succ] at h
    unfold dueStep at h
    split at h
    · exact due_all P k (fun i hi => hp i (by omega)) d h
    · rcases List.mem_append.mp h with h | h
      · exact due_all P k (fun i hi => hp i (by omega)) d h
      · rw [List.mem_singleton.mp h]
        exact hp k (Nat.lt_succ_self k)
theorem due_len (ns : List Int) (lo : Int) : ∀ k : Nat, (dueOf ns lo k).length ≤ k
  | 0 => Nat.le_refl 0
  | k + 1 => by
    have ih := due_len ns lo k
    rw [due_succ]
    unfold dueStep
    split
    · omega
    · rw [List.length_append]
      exact Nat.succ_le_succ ih
def spDue (K : PySem.W.Frag) : Sp := fun vs H Q _ => ∃ (a : Addr) (ns : List Int) (lo hi : Int), vs = [.ref a, .int lo, .int hi] ∧ H a = some (.lst (ns.map V.int)) ∧ ns.length ≤ 500 ∧ (∀ n ∈ ns, In80 n) ∧ -1000 ≤ lo ∧ lo ≤ hi ∧ hi ≤ 1000 ∧
  ∀ (l : Addr) (acc : List V) (H' : Hp), H l = none → Same H H' → H' l = some (.lst acc) → DpAll K H' acc (dueOf ns lo (hi + 1 - lo).toNat) → Q (.ref l) H'
end Gx

/-! The cells found by trying all numbers are those that meet the range -/
namespace Gx
open PySem L2
def tryStep (f : Int → PyData) (acc : List PyData) (m : Int) : List PyData := if sameLast acc (f m) = true then acc else acc ++ [f m]
def tryN (f : Int → PyData) (acc : List PyData) (lo : Int) : Nat → List PyData
  | 0 => acc
  | n + 1 => tryStep f (tryN f acc lo n) (lo + (n : Int))
theorem tryN_due (ns : List Int) (lo : Int) : ∀ n, dueOf ns lo n = tryN (cellAt ns) [] lo n
  | 0 => rfl
  | n + 1 => by
    rw [due_succ, tryN_due ns lo n]
    rfl
theorem tryN_add (f : Int → PyData) (acc : List PyData) (lo : Int) (a : Nat) : ∀ b, tryN f acc lo (a + b) = tryN f (tryN f acc lo a) (lo + (a : Int)) b
  | 0 => rfl
  | b + 1 => by
    show tryStep f (tryN f acc lo (a + b)) (lo + ((a + b : Nat) : Int)) = tryStep f (tryN f (tryN f acc lo a) (lo + (a : Int)) b) (lo + (a : Int) + (b : Int))
    rw [tryN_add f acc lo a b, show lo + ((a + b : Nat) : Int) = lo + (a : Int) + (b : Int) by omega]
theorem tryN_congr {f g : Int → PyData} (acc : List PyData) (lo : Int) : ∀ n, (∀ i : Nat, i < n → f (lo + (i : Int)) = g (lo + (i : Int))) → tryN f acc lo n = tryN g acc lo n
  | 0, _ => rfl
  | n + 1, h => by
    show tryStep f (tryN f acc lo n) _ = tryStep g (tryN g acc lo n) _
    unfold tryStep
    rw [tryN_congr acc lo n fun i hi => h i (by omega), h n (by omega)]
theorem sameLast_add (acc : List PyData) (c d : PyData) : sameLast (acc ++ [c]) d = PyData.eqv c d := by
  unfold sameLast
  rw [List.getLast?_concat]
theorem tryN_const {f : Int → PyData} {c : PyData} {acc : List PyData} {lo : Int} (hb : bare c = true) (ha : sameLast acc c = false) : ∀ n, 0 < n → (∀ i : Nat, i < n → f (lo + (i : Int)) = c) → tryN f acc lo n = acc ++ [c]
  | 1, _, h => by
    show tryStep f acc (lo + ((0 : Nat) : Int)) = _
    unfold tryStep
    rw [h 0 (by omega), ha, if_neg Bool.false_ne_true]
  | n + 2, _, h => by
    show tryStep f (tryN f acc lo (n + 1)) (lo + ((n + 1 : Nat) : Int)) = _
    rw [tryN_const hb ha (n + 1) (by omega) fun i hi => h i (by omega)]
    unfold tryStep
    rw [h (n + 1) (by omega), sameLast_add, eqv_yes hb hb rfl, if_pos rfl]
/-- the cell of a number, left of it l, beyond it the points rs -/
def cellR (l : Option Int) : List Int → Int → PyData
  | [], _ => gapD l none
  | y :: ys, m => if m < y then gapD l (some y) else if m = y then pointD y else cellR (some y) ys m
def cellsR (lo hi : Int) (l : Option Int) : List Int → List PyData
  | [] => cellStep lo hi l none
  | y :: ys => cellStep lo hi l (some y) ++ cellsR lo hi (some y) ys
theorem fold_cellsR (lo hi : Int) : ∀ (ns : List Int) (l : Option Int) (acc : List PyData), ((rights ns).foldl (cellFold lo hi) (l, acc)).2 = acc ++ cellsR lo hi l ns
  | [], l, acc => rfl
  | y :: ys, l, acc => by
    show ((rights ys).foldl (cellFold lo hi) (some y, acc ++ cellStep lo hi l (some y))).2 = _
    rw [fold_cellsR lo hi ys (some y) _]
    show _ = acc ++ (cellStep lo hi l (some y) ++ cellsR lo hi (some y) ys)
    rw [List.append_assoc]
theorem bare_cellR : ∀ (rs : List Int) (l : Option Int) (m : Int), bare (cellR l rs m) = true
  | [], l, m => bare_gap l none
  | y :: ys, l, m => by
    unfold cellR
    split
    · exact bare_gap _ _
    · split
      · exact bare_point _
      · exact bare_cellR ys _ m
/-- beyond a point none of the cells is that point's -/
theorem cellR_ne : ∀ (rs : List Int) (l : Option Int) (m y : Int), y < m → PyData.eqv (pointD y) (cellR l rs m) = false
  | [], l, m, y, _ => (eqv_no (bare_point y) (bare_gap l none) (by simp [pointD, gapD]) : PyData.eqv (pointD y) (gapD l none) = false)
  | z :: zs, l, m, y, h => by
    unfold cellR
    split
    · exact eqv_no (bare_point y) (bare_gap _ _) (by simp [pointD, gapD])
    · split
      · rename_i h1 h2
        exact eqv_no (bare_point y) (bare_point z) (by simp [pointD]; omega)
      · exact cellR_ne zs _ m y h
theorem gap_point (l r : Option Int) (y : Int) : PyData.eqv (gapD l r) (pointD y) = false := eqv_no (bare_gap _ _) (bare_point y) (by simp [pointD, gapD])
theorem step_some (lo hi : Int) (l : Option Int) (y : Int) : cellStep lo hi l (some y) = (if gapIn l (some y) lo hi = true then [gapD l (some y)] else []) ++ (if lo ≤ y ∧ y ≤ hi then [pointD y] else []) := rfl
theorem step_none (lo hi : Int) (l : Option Int) : cellStep lo hi l none = (if gapIn l none lo hi = true then [gapD l none] else []) ++ [] := rfl
/-- beyond the range there are no cells -/
theorem cellsR_none {lo hi : Int} : ∀ (rs : List Int) (y : Int), hi ≤ y → (y :: rs).Pairwise (· < ·) → cellsR lo hi (some y) rs = []
  | [], y, h, _ => by
    have g : gapIn (some y) none lo hi = false := by
      unfold gapIn leastOf mostOf
      apply decide_eq_false
      simp only
      split <;> omega
    show cellStep lo hi (some y) none = []
    rw [step_none, g, if_neg Bool.false_ne_true]
    rfl
  | z :: zs, y, h, p => by
    have yz : y < z := (List.pairwise_cons.mp p).1 z List.mem_cons_self
    have g : gapIn (some y) (some z) lo hi = false := by
      unfold gapIn leastOf mostOf
      apply decide_eq_false
      simp only
      split <;> split <;> omega
    show cellStep lo hi (some y) (some z) ++ cellsR lo hi (some z) zs = []
    rw [cellsR_none zs z (by omega) (List.pairwise_cons.mp p).2]
    rw [step_some, g, if_neg Bool.false_ne_true, if_neg (by omega)]
    rfl
/-- numbers at or below a point don't matter behind it -/
theorem cellsR_lo {hi lo lo' : Int} : ∀ (rs : List Int) (y : Int), lo ≤ y + 1 → lo' ≤ y + 1 → (y :: rs).Pairwise (· < ·) → cellsR lo hi (some y) rs = cellsR lo' hi (some y) rs
  | [], y, h, h', _ => by
    have e : leastOf lo (some y) = leastOf lo' (some y) := by
      unfold leastOf
      simp only
      split <;> split <;> omega
    show cellStep lo hi (some y) none = cellStep lo' hi (some y) none
    unfold cellStep gapIn
    rw [e]
    rfl
  | z :: zs, y, h, h', p => by
    have yz : y < z := (List.pairwise_cons.mp p).1 z List.mem_cons_self
    have e : leastOf lo (some y) = leastOf lo' (some y) := by
      unfold leastOf
      simp only
      split <;> split <;> omega
    show cellStep lo hi (some y) (some z) ++ cellsR lo hi (some z) zs = cellStep lo' hi (some y) (some z) ++ cellsR lo' hi (some z) zs
    rw [cellsR_lo (lo := lo) (lo' := lo') zs z (by omega) (by omega) (List.pairwise_cons.mp p).2, step_some, step_some]
    unfold gapIn
    rw [e]
    have q : (lo ≤ z ∧ z ≤ hi) ↔ (lo' ≤ z ∧ z ≤ hi) := by omega
    simp only [q]
theorem try_cells : ∀ (rs : List Int) (l : Option Int) (acc : List PyData) (lo hi : Int), lo ≤ hi → (∀ x, l = some x → x < lo) → (∀ x, l = some x → ∀ y ∈ rs, x < y) → rs.Pairwise (· < ·) → sameLast acc (cellR l rs lo) = false →
    tryN (cellR l rs) acc lo (hi + 1 - lo).toNat = acc ++ cellsR lo hi l rs
  | [], l, acc, lo, hi, h, hl, _, _, ha => by
    rw [tryN_const (c := gapD l none) (bare_gap _ _) ha _ (by omega) fun _ _ => rfl]
    have g : gapIn l none lo hi = true := by
      unfold gapIn leastOf mostOf
      apply decide_eq_true
      cases l with
      | none => exact h
      | some x =>
        have := hl x rfl
        simp only
        split <;> omega
    show _ = acc ++ cellStep lo hi l none
    unfold cellStep
    rw [g, if_pos rfl]
    rfl
  | y :: ys, l, acc, lo, hi, h, hl, hy, p, ha => by
    have pys := (List.pairwise_cons.mp p).2
    have py := (List.pairwise_cons.mp p).1
    show _ = acc ++ (cellStep lo hi l (some y) ++ cellsR lo hi (some y) ys)
    rcases Int.lt_or_le hi y with c | c
    · -- all numbers below the first point
      have ha' : sameLast acc (gapD l (some y)) = false := by
        have : cellR l (y :: ys) lo = gapD l (some y) := by
          unfold cellR
          rw [if_pos (by omega)]
        rw [← this]
        exact ha
      rw [tryN_const (c := gapD l (some y)) (bare_gap _ _) ha' _ (by omega) fun i hi' => by
        unfold cellR
        rw [if_pos (by omega)]]
      have g : gapIn l (some y) lo hi = true := by
        unfold gapIn leastOf mostOf
        apply decide_eq_true
        cases l with
        | none => simp only; split <;> omega
        | some x =>
          have := hl x rfl
          simp only
          split <;> split <;> omega
      rw [cellsR_none ys y (by omega) p]
      rw [step_some, g, if_pos rfl, if_neg (by omega)]
      simp
    · rcases Int.lt_or_le y lo with c2 | c2
      · -- all numbers beyond it
        have e : tryN (cellR l (y :: ys)) acc lo (hi + 1 - lo).toNat = tryN (cellR (some y) ys) acc lo (hi + 1 - lo).toNat := tryN_congr _ _ _ fun i hi' => by
          show (if lo + (i : Int) < y then gapD l (some y) else if lo + (i : Int) = y then pointD y else cellR (some y) ys (lo + (i : Int))) = _
          rw [if_neg (by omega), if_neg (by omega)]
        have ha' : sameLast acc (cellR (some y) ys lo) = false := by
          have : cellR l (y :: ys) lo = cellR (some y) ys lo := by
            show (if lo < y then gapD l (some y) else if lo = y then pointD y else cellR (some y) ys lo) = _
            rw [if_neg (by omega), if_neg (by omega)]
          rw [← this]
          exact ha
        rw [e, try_cells ys (some y) acc lo hi h (fun x e => by cases e; exact c2) (fun x e z hz => by cases e; exact py z hz) pys ha']
        have g : gapIn l (some y) lo hi = false := by
          unfold gapIn leastOf mostOf
          apply decide_eq_false
          cases l with
          | none => simp only; split <;> omega
          | some x =>
            have := hl x rfl
            simp only
            split <;> split <;> omega
        rw [step_some, g, if_neg Bool.false_ne_true, if_neg (by omega)]
        rfl
      · -- below, at and beyond it
        have e0 : (hi + 1 - lo).toNat = (y - lo).toNat + (1 + (hi - y).toNat) := by omega
        rw [e0, tryN_add]
        have e1 : lo + ((y - lo).toNat : Int) = y := by omega
        rw [e1, tryN_add]
        -- the gap ahead of it
        have g : (if gapIn l (some y) lo hi = true then [gapD l (some y)] else []) = if lo < y then [gapD l (some y)] else [] := by
          have q : gapIn l (some y) lo hi = decide (lo < y) := by
            unfold gapIn leastOf mostOf
            cases l with
            | none =>
              simp only
              congr 1
              apply propext
              split <;> omega
            | some x =>
              have := hl x rfl
              simp only
              congr 1
              apply propext
              split <;> split <;> omega
          rw [q]
          by_cases z : lo < y <;> simp [z]
        have A1 : tryN (cellR l (y :: ys)) acc lo (y - lo).toNat = acc ++ (if lo < y then [gapD l (some y)] else []) := by
          by_cases z : lo < y
          · rw [if_pos z]
            refine tryN_const (bare_gap _ _) ?_ _ (by omega) fun i hi' => ?_
            · have : cellR l (y :: ys) lo = gapD l (some y) := by
                unfold cellR
                rw [if_pos z]
              rw [← this]
              exact ha
            · unfold cellR
              rw [if_pos (by omega)]
          · rw [if_neg z, List.append_nil, show (y - lo).toNat = 0 by omega]
            rfl
        have at_y : cellR l (y :: ys) y = pointD y := by
          unfold cellR
          rw [if_neg (by omega), if_pos rfl]
        have A2 : tryN (cellR l (y :: ys)) (acc ++ (if lo < y then [gapD l (some y)] else [])) y 1 = acc ++ (if lo < y then [gapD l (some y)] else []) ++ [pointD y] := by
          refine tryN_const (bare_point y) ?_ 1 (by omega) fun i hi' => ?_
          · by_cases z : lo < y
            · rw [if_pos z, sameLast_add]
              exact gap_point _ _ _
            · rw [if_neg z, List.append_nil]
              have : lo = y := by omega
              rw [this, at_y] at ha
              exact ha
          · have : i = 0 := by omega
            subst this
            show cellR l (y :: ys) (y + ((0 : Nat) : Int)) = _
            rw [show y + ((0 : Nat) : Int) = y by omega]
            exact at_y
        rw [A1, A2]
        have A3 : tryN (cellR l (y :: ys)) (acc ++ (if lo < y then [gapD l (some y)] else []) ++ [pointD y]) (y + ((1 : Nat) : Int)) (hi - y).toNat = acc ++ (if lo < y then [gapD l (some y)] else []) ++ [pointD y] ++ cellsR lo hi (some y) ys := by
          by_cases z : y < hi
          · have e3 : tryN (cellR l (y :: ys)) (acc ++ (if lo < y then [gapD l (some y)] else []) ++ [pointD y]) (y + ((1 : Nat) : Int)) (hi - y).toNat = tryN (cellR (some y) ys) (acc ++ (if lo < y then [gapD l (some y)] else []) ++ [pointD y]) (y + 1) (hi + 1 - (y + 1)).toNat := by
              rw [show (hi + 1 - (y + 1)).toNat = (hi - y).toNat by omega]
              refine tryN_congr _ _ _ fun i hi' => ?_
              show (if y + 1 + (i : Int) < y then gapD l (some y) else if y + 1 + (i : Int) = y then pointD y else cellR (some y) ys (y + 1 + (i : Int))) = _
              rw [if_neg (by omega), if_neg (by omega)]
              rfl
            rw [e3, try_cells ys (some y) (acc ++ (if lo < y then [gapD l (some y)] else []) ++ [pointD y]) (y + 1) hi (by omega) (fun x e => by cases e; omega) (fun x e z hz => by cases e; exact py z hz) pys (by rw [sameLast_add]; exact cellR_ne ys _ _ _ (by omega))]
            rw [cellsR_lo ys y (Int.le_refl _) (by omega : lo ≤ y + 1) p]
          · rw [show (hi - y).toNat = 0 by omega, cellsR_none ys y (by omega) p, List.append_nil]
            rfl
        rw [A3]
        rw [step_some, g, if_pos (by omega : lo ≤ y ∧ y ≤ hi)]
        simp only [List.append_assoc]
theorem filter_none {ns : List Int} {p : Int → Bool} (h : ∀ n ∈ ns, p n = false) : ns.filter p = [] := List.filter_eq_nil_iff.mpr fun n hn => by rw [h n hn]; exact Bool.false_ne_true
/-- the cell of a number, said by all points or by those beyond -/
theorem cellAt_R : ∀ (rs pre : List Int) (m : Int), (pre ++ rs).Pairwise (· < ·) → (∀ x ∈ pre, x < m) → cellAt (pre ++ rs) m = cellR pre.getLast? rs m
  | [], pre, m, p, h => by
    rw [List.append_nil]
    unfold cellAt cellR
    rw [if_neg (fun q => by have := h m q; omega), List.filter_eq_self.mpr fun n hn => decide_eq_true (h n hn), filter_none fun n hn => decide_eq_false (by have := h n hn; omega)]
    rfl
  | y :: ys, pre, m, p, h => by
    have pp := List.pairwise_append.mp p
    have py := List.pairwise_cons.mp pp.2.1
    show _ = (if m < y then gapD pre.getLast? (some y) else if m = y then pointD y else cellR (some y) ys m)
    by_cases c : m < y
    · rw [if_pos c]
      unfold cellAt
      have nm : ¬ m ∈ pre ++ y :: ys := fun q => by
        rcases List.mem_append.mp q with q | q
        · have := h m q
          omega
        · rcases List.mem_cons.mp q with q | q
          · omega
          · have := py.1 m q
            omega
      rw [if_neg nm, List.filter_append, List.filter_append, List.filter_eq_self.mpr fun n hn => decide_eq_true (h n hn), filter_none (ns := pre) fun n hn => decide_eq_false (by have := h n hn; omega)]
      have f1 : (y :: ys).filter (fun n => decide (n < m)) = [] := filter_none fun n hn => by
        apply decide_eq_false
        rcases List.mem_cons.mp hn with q | q
        · omega
        · have := py.1 n q
          omega
      rw [f1, List.append_nil, List.filter_cons, if_pos (decide_eq_true c)]
      rfl
    · rw [if_neg c]
      by_cases c2 : m = y
      · rw [if_pos c2]
        unfold cellAt
        rw [if_pos (by rw [c2]; exact List.mem_append_right _ List.mem_cons_self), c2]
      · rw [if_neg c2]
        have q := cellAt_R ys (pre ++ [y]) m (by rw [List.append_assoc]; exact p) (fun x hx => by
          rcases List.mem_append.mp hx with z | z
          · exact h x z
          · rw [List.mem_singleton.mp z]
            omega)
        rw [List.append_assoc, List.getLast?_concat] at q
        exact q
/-- THE LAW of cells_in: the cells found number by number are those of the line -/
theorem due_cells {ns : List Int} (p : ns.Pairwise (· < ·)) {lo hi : Int} (h : lo ≤ hi) : dueOf ns lo (hi + 1 - lo).toNat = cellsOf ns lo hi := by
  rw [tryN_due]
  have e : tryN (cellAt ns) [] lo (hi + 1 - lo).toNat = tryN (cellR none ns) [] lo (hi + 1 - lo).toNat := tryN_congr _ _ _ fun i _ => cellAt_R ns [] _ p (fun x hx => nomatch hx)
  rw [e, try_cells ns none [] lo hi h (fun x e => nomatch e) (fun x e => nomatch e) p rfl]
  unfold cellsOf
  rw [fold_cellsR]
end Gx

/-! Any list that a def changes, known to its callers by what stays true of it -/
namespace Gx
open PySem L2
/-- at f stands a list whose items are as G says -/
def HidP (G : List V → Prop) (f : Addr) (h : Heap) : Prop := ∃ (vs : List V) (its : List Value) (n : Nat), G vs ∧ vs.length ≤ sizeLine ∧ Vals vs its ∧ h.get? f = some { cls := .type "list", data := .seq its.toArray n }
def HidO (G : List V → Prop) (f : Addr) : HO := .ext (HidP G f)
section
variable {P : Program} {w : World} {K : PySem.W.Frag} {mg : Str → Option Value} {base : Heap} {H : Hp} {h : Heap} {f : Addr} {G : List V → Prop}
theorem hid_open (ok : HOk P w H h) (hf : H f = some (HidO G f)) : ∃ vs, G vs ∧ HOk P w (upd H f (.lst vs)) h := by
  have q : ObjOk P w H h f (HidO G f) := ok f _ hf
  obtain ⟨⟨vs, its, n, g, l, r, e⟩, _, _⟩ := q
  refine ⟨vs, g, ok.write (by rw [hf]; trivial) (Or.inl rfl) (fun _ _ _ q => q) ⟨_, e⟩ ?_⟩
  exact ⟨l, its, n, r, e⟩
theorem hid_close {vs : List V} (ok : HOk P w H h) (hf : H f = some (.lst vs)) (g : G vs) : HOk P w (upd H f (HidO G f)) h := by
  have q : ObjOk P w H h f (.lst vs) := ok f _ hf
  obtain ⟨l, its, n, r, e⟩ := q
  refine ok.write (by rw [hf]; trivial) (Or.inl rfl) (fun _ _ _ q => q) ⟨_, e⟩ ?_
  exact ⟨⟨vs, its, n, g, l, r, e⟩, ⟨_, e⟩, fun h1 h2 p1 k => by
    obtain ⟨vs, its, n, g, l, r, e⟩ := p1
    exact ⟨vs, its, n, g, l, r, k _ e⟩⟩
theorem hid_view {k : Nat} {fa : Addr} {fd : FuncData} {ps : List Str} {sp sp' : Sp} (F : FnOk P w K mg base CX0 k fa fd ps sp) (some_ : sp' = sp' → ∀ vs H Q E, sp' vs H Q E → vs.length = ps.length)
    (hs : ∀ vs H Q E, sp' vs H Q E → ∃ (f : Addr) (G G2 : List V → Prop), H f = some (HidO G f) ∧ ∀ xs, G xs → sp vs (upd H f (.lst xs)) (fun v H' => (∃ ys, G2 ys ∧ H' f = some (.lst ys)) ∧ Q v (upd H' f (HidO G2 f))) E) :
    FnOk P w K mg base CX0 k fa fd ps sp' := by
  refine ⟨some_ rfl, fun A outer s H args us vs Q E hr he hb hv q => ?_⟩
  obtain ⟨f, G, G2, hf, k⟩ := hs vs H Q E q
  obtain ⟨xs, g, ok1⟩ := hid_open he.hok hf
  have nf : ∀ b, H b = none → b ≠ f := fun b n e => by rw [e, hf] at n; cases n
  have mu : Mut (H f) := by rw [hf]; trivial
  have hof : ∃ o, s.heap.get? f = some o := by
    have q : ObjOk P w H s.heap f (HidO G f) := he.hok f _ hf
    exact q.2.1
  have he1 : Env0 P w K mg base A outer s (upd H f (.lst xs)) :=
    ⟨he.frames, he.mod, fun b o e => ⟨(he.bs b o e).1, by rw [upd_ne (nf b (he.bs b o e).2)]; exact (he.bs b o e).2⟩, he.bsz, he.funs, fun b hb => by rw [upd_ne (nf b (he.frf b hb))]; exact he.frf b hb, ok1, he.bare⟩
  refine codeAny_mono (F.run A outer s _ args us vs _ E hr he1 hb hv (k xs g)) fun r s' hq => ?_
  cases r with
  | error e => exact hq.elim
  | ok fl =>
    cases fl with
    | ret u =>
      obtain ⟨v, H', os, bare, un, hok, rv, ⟨ys, g', e'⟩, q'⟩ := hq
      refine ⟨v, upd H' f (HidO G2 f), os, bare, ?_, hid_close hok e' g', rv, q'⟩
      have u1 : Un (frs outer) [] H (upd H f (.lst xs)) s.heap s.heap := Un.write mu (Or.inl rfl) (fun _ _ _ q => q) hof
      have hof' : ∃ o, s'.heap.get? f = some o := by
        have q : ObjOk P w H' s'.heap f (.lst ys) := hok f _ e'
        obtain ⟨_, its, n, r, e⟩ := q
        exact ⟨_, e⟩
      have u2 : Un (frs outer) [] H' (upd H' f (HidO G2 f)) s'.heap s'.heap := Un.write (by rw [e']; trivial) (Or.inl rfl) (fun _ _ _ q => q) hof'
      exact (u1.trans un).trans u2
    | next => exact hq.elim
    | brk => exact hq.elim
    | cont => exact hq.elim
/-- a def that makes such a list -/
theorem hid_made {k : Nat} {fa : Addr} {fd : FuncData} {ps : List Str} {sp sp' : Sp} (F : FnOk P w K mg base CX0 k fa fd ps sp)
    (hs : ∀ vs H Q E, sp' vs H Q E → sp vs H (fun v H' => ∃ (f : Addr) (G : List V → Prop) (ys : List V), G ys ∧ H' f = some (.lst ys) ∧ Q v (upd H' f (HidO G f))) E) : FnOk P w K mg base CX0 k fa fd ps sp' := by
  refine ⟨fun vs H Q E q => F.len _ _ _ _ (hs vs H Q E q), fun A outer s H args us vs Q E hr he hb hv q => ?_⟩
  refine codeAny_mono (F.run A outer s _ args us vs _ E hr he hb hv (hs vs H Q E q)) fun r s' hq => ?_
  cases r with
  | error e => exact hq.elim
  | ok fl =>
    cases fl with
    | ret u =>
      obtain ⟨v, H', os, bare, un, hok, rv, f, G, ys, g, e', q'⟩ := hq
      have there : ∃ o, s'.heap.get? f = some o := by
        have q : ObjOk P w H' s'.heap f (.lst ys) := hok f _ e'
        obtain ⟨_, its, n, r, e⟩ := q
        exact ⟨_, e⟩
      exact ⟨v, upd H' f (HidO G f), os, bare, un.trans (Un.write (by rw [e']; trivial) (Or.inl rfl) (fun _ _ _ q => q) there), hid_close hok e' g, rv, q'⟩
    | next => exact hq.elim
    | brk => exact hq.elim
    | cont => exact hq.elim
end
/-! ### a flask of draws: two lists -/
/-- numbers from 0 on -/
def Nats (vs : List V) : Prop := ∃ ns : List Int, vs = ns.map V.int ∧ ∀ n ∈ ns, 0 ≤ n
/-- what is not hidden stays -/
def vis : HO → Bool
  | .ext _ => false
  | _ => true
def SmV (H H' : Hp) : Prop := ∀ a o, vis o = true → H a = some o → H' a = some o
theorem SmV.refl (H : Hp) : SmV H H := fun _ _ _ e => e
theorem SmV.trans {H1 H2 H3 : Hp} (a : SmV H1 H2) (b : SmV H2 H3) : SmV H1 H3 := fun p o v e => b p o v (a p o v e)
theorem Same.smv {H H' : Hp} (s : Same H H') : SmV H H' := fun a o _ e => s a o e
theorem SmV.lst {H H' : Hp} (s : SmV H H') {a : Addr} {xs : List V} (e : H a = some (.lst xs)) : H' a = some (.lst xs) := s a _ rfl e
theorem SmV.tup {H H' : Hp} (s : SmV H H') {a : Addr} {xs : List V} (e : H a = some (.tup xs)) : H' a = some (.tup xs) := s a _ rfl e
theorem SmV.sqL {K : PySem.W.Frag} {H H' : Hp} (s : SmV H H') {a : Addr} {xs : List V} (h : SqL K H a xs) : SqL K H' a xs := by
  rcases h with (h | ⟨o, h⟩) | h
  · exact .inl (.inl (s a _ rfl h))
  · exact .inl (.inr ⟨o, s a _ rfl h⟩)
  · exact .inr h
theorem SmV.sqT {K : PySem.W.Frag} {H H' : Hp} (s : SmV H H') {a : Addr} {xs : List V} (h : SqT K H a xs) : SqT K H' a xs := by
  rcases h with (h | ⟨o, h⟩) | h
  · exact .inl (.inl (s a _ rfl h))
  · exact .inl (.inr ⟨o, s a _ rfl h⟩)
  · exact .inr h
mutual
theorem dp_smv {K : PySem.W.Frag} {H H' : Hp} (s : SmV H H') : ∀ (d : PyData) (v : V), Dp K H v d → Dp K H' v d
  | .none, _, h => by cases h; exact .non
  | .bool c, _, h => by cases h; exact .bl c
  | .int i, _, h => by cases h; exact .int i
  | .str x, _, h => by cases h; exact .str x
  | .list ds, _, h => by
    cases h with
    | lst a b => exact .lst (s.sqL a) (dp_smvAll s ds _ b)
  | .dict _, _, h => by cases h
  | .tuple ds, _, h => by
    cases h with
    | tup a b => exact .tup (s.sqT a) (dp_smvAll s ds _ b)
theorem dp_smvAll {K : PySem.W.Frag} {H H' : Hp} (s : SmV H H') : ∀ (ds : List PyData) (vs : List V), DpAll K H vs ds → DpAll K H' vs ds
  | [], _, h => by cases h; exact .nil
  | d :: ds, _, h => by
    cases h with
    | cons a c => exact .cons (dp_smv s d _ a) (dp_smvAll s ds _ c)
end
abbrev flC : Int := 170141183460469231731687303715884105727
def FlaskG (q : Addr) (c : Nat) (vs : List V) : Prop := ∃ b n : Int, vs = [.ref q, .int b, .int n] ∧ 0 ≤ b ∧ b < flC ∧ 0 ≤ n ∧ n ≤ (c : Int)
/-- f is a flask that was asked at most c times -/
def Flask (c : Nat) (H : Hp) (f : Addr) : Prop := ∃ q, q ≠ f ∧ H f = some (HidO (FlaskG q c) f) ∧ H q = some (HidO Nats q)
theorem Flask.same {c : Nat} {H H' : Hp} {f : Addr} (h : Flask c H f) (s : Same H H') : Flask c H' f := by
  obtain ⟨q, n, h1, h2⟩ := h
  exact ⟨q, n, s _ _ h1, s _ _ h2⟩
/-- a flask with two open lists -/
def spDrip0 : Sp := fun vs H Q _ => ∃ (f q : Addr) (b n m : Int) (ns : List Int), vs = [.ref f, .int m] ∧ q ≠ f ∧ H f = some (.lst [.ref q, .int b, .int n]) ∧ H q = some (.lst (ns.map V.int)) ∧ (∀ n ∈ ns, 0 ≤ n) ∧
  0 ≤ b ∧ b < flC ∧ 0 ≤ n ∧ n ≤ 1000000 ∧ 0 < m ∧ m.natAbs < 2 ^ 1000 ∧
  ∀ (r b' n' : Int) (ns' : List Int) (H' : Hp), 0 ≤ r → r < m → 0 ≤ b' → b' < flC → 0 ≤ n' → n' ≤ n + 1 → (∀ n ∈ ns', 0 ≤ n) → (∀ a o, a ≠ f → a ≠ q → H a = some o → H' a = some o) → H' q = some (.lst (ns'.map V.int)) → H' f = some (.lst [.ref q, .int b', .int n']) → Q (.int r) H'
def spDrip : Sp := fun vs H Q _ => ∃ (f : Addr) (c : Nat) (m : Int), vs = [.ref f, .int m] ∧ Flask c H f ∧ c ≤ 1000000 ∧ 0 < m ∧ m.natAbs < 2 ^ 1000 ∧ ∀ (r : Int) (H' : Hp), 0 ≤ r → r < m → SmV H H' → Flask (c + 1) H' f → Q (.int r) H'
def spDrip1 : Sp := fun vs H Q _ => ∃ (f q : Addr) (b n m : Int), vs = [.ref f, .int m] ∧ q ≠ f ∧ H f = some (.lst [.ref q, .int b, .int n]) ∧ H q = some (HidO Nats q) ∧
  0 ≤ b ∧ b < flC ∧ 0 ≤ n ∧ n ≤ 1000000 ∧ 0 < m ∧ m.natAbs < 2 ^ 1000 ∧
  ∀ (r b' n' : Int) (H' : Hp), 0 ≤ r → r < m → 0 ≤ b' → b' < flC → 0 ≤ n' → n' ≤ n + 1 → (∀ a o, a ≠ f → H a = some o → H' a = some o) → H' f = some (.lst [.ref q, .int b', .int n']) → Q (.int r) H'
section
variable {P : Program} {w : World} {K : PySem.W.Frag} {mg : Str → Option Value} {base : Heap}
theorem drip_view {k : Nat} {fa : Addr} {fd : FuncData} {ps : List Str} (hl : ps.length = 2) (F : FnOk P w K mg base CX0 k fa fd ps spDrip0) : FnOk P w K mg base CX0 k fa fd ps spDrip := by
  have F1 : FnOk P w K mg base CX0 k fa fd ps spDrip1 := by
    refine hid_view F (fun _ vs H Q E h => ?_) fun vs H Q E h => ?_
    · obtain ⟨f, q, b, n, m, rfl, _⟩ := h
      exact hl.symm
    · obtain ⟨f, q, b, n, m, rfl, hn, hf, hq, b0, b1, n0, n1, m0, m1, k⟩ := h
      refine ⟨q, Nats, Nats, hq, fun xs g => ?_⟩
      obtain ⟨ns, rfl, pos⟩ := g
      refine ⟨f, q, b, n, m, ns, rfl, hn, by rw [upd_ne (Ne.symm hn)]; exact hf, upd_same, pos, b0, b1, n0, n1, m0, m1, fun r b' n' ns' H' r0 r1 c0 c1 d0 d1 pos' ke kq kf => ?_⟩
      refine ⟨⟨_, ⟨ns', rfl, pos'⟩, kq⟩, ?_⟩
      refine k r b' n' _ r0 r1 c0 c1 d0 d1 (fun a o na e => ?_) (by rw [upd_ne (Ne.symm hn)]; exact kf)
      by_cases ha : a = q
      · subst ha
        rw [upd_same]
        rw [hq] at e
        exact e
      · rw [upd_ne ha]
        exact ke a o na ha (by rw [upd_ne ha]; exact e)
  refine hid_view F1 (fun _ vs H Q E h => ?_) fun vs H Q E h => ?_
  · obtain ⟨f, c, m, rfl, _⟩ := h
    exact hl.symm
  · obtain ⟨f, c, m, rfl, ⟨q, hn, hf, hq⟩, c1, m0, m1, k⟩ := h
    refine ⟨f, FlaskG q c, FlaskG q (c + 1), hf, fun xs g => ?_⟩
    obtain ⟨b, n, rfl, b0, b1, n0, n1⟩ := g
    refine ⟨f, q, b, n, m, rfl, hn, upd_same, by rw [upd_ne hn]; exact hq, b0, b1, n0, by omega, m0, m1, fun r b' n' H' r0 r1 c0 c1 d0 d1 ke kf => ?_⟩
    refine ⟨⟨_, ⟨b', n', rfl, c0, c1, d0, by omega⟩, kf⟩, ?_⟩
    refine k r _ r0 r1 (fun a o vo e => ?_) ⟨q, hn, upd_same, ?_⟩
    · have na : a ≠ f := fun z => by
        subst z
        rw [hf] at e
        obtain rfl := Option.some.inj e
        cases vo
      rw [upd_ne na]
      exact ke a o na (by rw [upd_ne na]; exact e)
    · rw [upd_ne hn]
      exact ke q _ hn (by rw [upd_ne hn]; exact hq)
end
end Gx

/-! A comprehension over a range whose turns may change hidden things; texts -/
namespace Gx
open PySem L2
section
variable {σ : L2.St} {H H1 : Hp} {Q : VK} {K : PySem.W.Frag} {te tl : TE} {tt : TT} {g : TG} {vs : List Nat} {J : It} {n j : Nat}
theorem smv_new {H : Hp} {a : Addr} {o : HO} (h : H a = none) : SmV H (upd H a o) := Same.smv (same_new h)
theorem smv_mut {H H' : Hp} {a : Addr} {o : HO} (s : SmV H H') (h : H a = none) : SmV H (upd H' a o) := fun b u v e => by
  by_cases c : b = a
  · subst c
    rw [h] at e
    cases e
  · rw [upd_ne c]
    exact s b u v e
theorem lc_rngV {lo : Int} (hn : n ≤ 100000) (A : Nat → List V → Hp → Prop)
    (mono : ∀ i acc l D H H', H D = some (.lst l) → H1 D = none → SmV H1 H → But D H H' → A i acc H → A i acc H') (A0 : ∀ H, Same H1 H → A 0 [] H)
    (turn : ∀ i acc H' (Nx : V → Hp → Prop), i < n → SmV H1 H' → A i acc H' → acc.length = i → (∀ y H4, SmV H' H4 → A (i + 1) (acc ++ [y]) H4 → Nx y H4) →
      g (.int (lo + (i : Int))) (wipe σ vs) H' fun σ2 H2 => wipe σ2 vs = wipe σ vs ∧ te σ2 H2 Nx)
    (done : ∀ D acc H', H1 D = none → SmV H1 H' → H' D = some (.lst acc) → A n acc H' → acc.length = n → Q (.ref D) H') : LC g tYes te vs (Itr lo n) σ H1 Q := by
  intro D hD
  refine ⟨fun i m H => m = n - i ∧ i ≤ n ∧ ∃ acc, SmV H1 H ∧ H D = some (.lst acc) ∧ A i acc H ∧ acc.length = i, ⟨n, rfl, Nat.zero_le _, [], smv_new hD, upd_same, A0 _ (same_new hD), rfl⟩, ?_⟩
  rintro i m H ⟨rfl, hi, acc, s, e, a, hl⟩
  rcases Nat.lt_or_ge i n with lt | ge
  · right
    refine ⟨lt, fun H' => i + 1 ≤ n ∧ ∃ acc, SmV H1 H' ∧ H' D = some (.lst acc) ∧ A (i + 1) acc H' ∧ acc.length = i + 1, fun H' ⟨l1, q⟩ => ⟨n - (i + 1), by omega, rfl, l1, q⟩, fun x H' y => ?_⟩
    obtain ⟨rfl, rfl⟩ := y
    have t := turn i acc H' (fun y H4 => ∃ acc', H4 D = some (.lst acc') ∧ acc'.length < sizeLine ∧ (i + 1 ≤ n ∧ ∃ acc, SmV H1 (upd H4 D (.lst (acc' ++ [y]))) ∧ upd H4 D (.lst (acc' ++ [y])) D = some (.lst acc) ∧ A (i + 1) acc (upd H4 D (.lst (acc' ++ [y]))) ∧ acc.length = i + 1)) lt s a hl fun y H4 s4 a4 => ?_
    · exact t
    · have e4 := s4 _ _ rfl e
      have s14 := s.trans s4
      exact ⟨acc, e4, big_lt (by omega), lt, acc ++ [y], smv_mut s14 hD, upd_same, mono (i + 1) (acc ++ [y]) acc D H4 _ e4 hD s14 (fun b o nb z => by rw [upd_ne nb]; exact z) a4, by rw [List.length_append, hl]; rfl⟩
  · left
    have e0 : i = n := Nat.le_antisymm hi ge
    subst e0
    exact ⟨Nat.le_refl _, done D acc H hD s e a hl⟩
end
end Gx

/-! name, *rest = x; a text times 0 or 1 -/
namespace Gx
open PySem L2 PySem.Spec PyProof.Rows PySem.W
section
variable {X : Cx}
/-- the unpacking itself, one name ahead of the star -/
theorem star_list {a : Addr} {x : Value} {r : List Value} {n : Nat} {Q : List Value → Shared → Prop} {pr : Program} {wo : World} {A : Around} {E : Value → Shared → Prop} {s : Shared} (hd : A.handled = none)
    (hl : s.heap.IsList a (x :: r).toArray) (hz : r.length ≤ 16000) (done : ∀ (h2 : Heap) (tk : Nat), Heap.ExtBut s.heap.objs.size s.heap h2 → Q [x, .ref h2.objs.size] { s with toks := tk, heap := h2.push { cls := .type "list", data := .seq r.toArray } }) :
    wpAny (model pr wo) A (unpackItems (.ref a) 2 (some 1)) Q E s := by
  have ne : a ≠ s.heap.objs.size := by
    obtain ⟨o, ho, _⟩ := hl
    exact Nat.ne_of_lt (Heap.lt_size ho)
  have sz : (x :: r).toArray.size = r.length + 1 := by simp
  unfold unpackItems notIterableAtAll
  refine wpAny_bind (wpAny_bind (wpAny_specialOf hl.typeIs slot_list_iter.lookup (wpAny_pure ?_)))
  rw [if_neg (by simp)]
  refine wpAny_bind (wpAny_holding (wpAny_pyIter_list hl ?_))
  refine wpAny_bind (wpAny_holding (kun_draw ne 1 0 _ _ ⟨_, Heap.get?_push_size _ rfl, rfl, rfl⟩ (hl.push _) (by omega) fun h1 it1 sb1 => ?_))
  have hl1 : h1.IsList a (x :: r).toArray := (hl.push _).extBut sb1.extBut ne
  rw [Nat.zero_add] at it1
  have it2 := it1
  have hl2 := hl1
  obtain ⟨oi, hoi, _⟩ := it2
  obtain ⟨ol, hol, _⟩ := hl2
  rw [if_neg (by simp)]
  refine wpAny_bind (wpAny_holding (kun_collect (s := { s with heap := h1 }) (T := "list_iterator") (.inr (.inr (.inl rfl))) (Walks.list (A := A.in1) hd s.heap.objs.size a ne _) (fun j u st => st.1.typeIs) (k := 1) (by omega) ⟨it1, hl1⟩ (Heap.lt_size hoi) (Heap.lt_size hol) (fun h2 tk kp => ?_) (by rw [sz, sizeLine_eq]; omega)))
  show wpAny _ _ (if r.length < 0 then _ else _) _ _ _
  rw [if_neg (Nat.not_lt_zero _)]
  show wpAny _ _ (newList (r.take r.length) >>= fun d => pure ([x] ++ [d] ++ r.drop r.length)) _ _ _
  rw [List.take_length, List.drop_length]
  refine wpAny_bind (wpAny_newList (wpAny_pure ?_) (by rw [sizeLine_eq]; omega))
  exact done h2 tk fun b o nb e => kp b o nb (sb1.extBut b o nb (Heap.get?_push_of_some _ e))
theorem star_tuple {a : Addr} {x : Value} {r : List Value} {n : Nat} {Q : List Value → Shared → Prop} {pr : Program} {wo : World} {A : Around} {E : Value → Shared → Prop} {s : Shared} (hd : A.handled = none)
    (hl : IsTup s.heap a (x :: r).toArray) (hz : r.length ≤ 16000) (done : ∀ (h2 : Heap) (tk : Nat), Heap.ExtBut s.heap.objs.size s.heap h2 → Q [x, .ref h2.objs.size] { s with toks := tk, heap := h2.push { cls := .type "list", data := .seq r.toArray } }) :
    wpAny (model pr wo) A (unpackItems (.ref a) 2 (some 1)) Q E s := by
  have ne : a ≠ s.heap.objs.size := by
    obtain ⟨o, ho, _⟩ := hl
    exact Nat.ne_of_lt (Heap.lt_size ho)
  have sz : (x :: r).toArray.size = r.length + 1 := by simp
  unfold unpackItems notIterableAtAll
  refine wpAny_bind (wpAny_bind (wpAny_specialOf hl.typeIs slot_tuple_iter.lookup (wpAny_pure ?_)))
  rw [if_neg (by simp)]
  refine wpAny_bind (wpAny_holding (iter_tuple hl ?_))
  refine wpAny_bind (wpAny_holding (draw_tuple ne 1 0 _ _ ⟨_, Heap.get?_push_size _ rfl, rfl, rfl⟩ (hl.push _) (by omega) fun h1 it1 sb1 => ?_))
  have hl1 : IsTup h1 a (x :: r).toArray := (hl.push _).extBut sb1.extBut ne
  rw [Nat.zero_add] at it1
  have it2 := it1
  have hl2 := hl1
  obtain ⟨oi, hoi, _⟩ := it2
  obtain ⟨ol, hol, _⟩ := hl2
  rw [if_neg (by simp)]
  refine wpAny_bind (wpAny_holding (kun_collect (s := { s with heap := h1 }) (T := "tuple_iterator") (.inr (.inr (.inr rfl))) (Walks.tuple (A := A.in1) hd s.heap.objs.size a ne _) (fun j u st => st.1.typeIs) (k := 1) (by omega) ⟨it1, hl1⟩ (Heap.lt_size hoi) (Heap.lt_size hol) (fun h2 tk kp => ?_) (by rw [sz, sizeLine_eq]; omega)))
  show wpAny _ _ (if r.length < 0 then _ else _) _ _ _
  rw [if_neg (Nat.not_lt_zero _)]
  show wpAny _ _ (newList (r.take r.length) >>= fun d => pure ([x] ++ [d] ++ r.drop r.length)) _ _ _
  rw [List.take_length, List.drop_length]
  refine wpAny_bind (wpAny_newList (wpAny_pure ?_) (by rw [sizeLine_eq]; omega))
  exact done h2 tk fun b o nb e => kp b o nb (sb1.extBut b o nb (Heap.get?_push_of_some _ e))
/-- name, *rest = x : x a list or a tuple -/
def gStar (K : PySem.W.Frag) (t : TGs) : TG := fun v σ H Q => ∃ a x r, v = .ref a ∧ (SqL K H a (x :: r) ∨ SqT K H a (x :: r)) ∧ r.length ≤ 16000 ∧ ∀ p, H p = none → t [x, .ref p] σ (upd H p (.lst r)) Q
theorem pg_star {es : List Expr} {k : Nat} {t : TGs} {pos : Pos} (hc : X.calm = true) (h : PGs X es t) (hn : (assignEach es X.env).length = 2 := by rfl) (hst : (assignEach es X.env).findIdx? (·.1) = some 1 := by rfl) : PG X (.Tuple es k pos) (gStar X.K t) := by
  refine ⟨fun pins s σ H v u Q I r hw => ?_⟩
  obtain ⟨a, x, xs, rfl, hq, hl, go⟩ := hw
  cases r
  rw [PyProof.Rows.assign_Tuple]
  refine wpAny_bind (wpAny_standAt ?_)
  unfold unpack
  rw [hn, hst]
  have last : ∀ (y : Value) (ys : List Value), Vals (x :: xs) (y :: ys) → ∀ (h2 : Heap) (tk : Nat), Heap.ExtBut s.heap.objs.size s.heap h2 → wpAny (model X.prog X.w) X.A (assignInOrder ((assignEach es X.env).map (·.2)) [y, .ref h2.objs.size]) (fun _ s' => ∃ σ' H', Inv X pins σ' H' s' ∧ Q σ' H') X.xe
      { s with toks := tk, heap := h2.push { cls := .type "list", data := .seq ys.toArray } } := by
    intro y ys rv h2 tk he
    cases rv with
    | cons r1 rv =>
      have I1 : Inv X pins σ H { s with heap := h2, toks := tk } := I.kept (t' := tk) fun b o e => he b o (Nat.ne_of_lt (Heap.lt_size e)) e
      have np := I1.hok.fresh (Nat.le_refl _)
      have I2 : Inv X pins σ (upd H h2.objs.size (.lst xs)) { s with toks := tk, heap := h2.push { cls := .type "list", data := .seq ys.toArray } } :=
        I1.laid (t' := tk) (fun b u q => Heap.get?_push_of_some _ q) (Nat.le_refl _) ⟨Nat.le_trans hl (by decide), ys, _, rv, Heap.get?_push_size _ rfl⟩
      exact h.run pins _ σ _ [x, .ref h2.objs.size] [y, .ref h2.objs.size] Q I2 (.cons r1 (.cons rfl .nil)) (go _ np)
  rcases hq with hq | hq
  · obtain ⟨its, rv, pl, hz⟩ := I.list hq
    cases its with
    | nil => cases rv
    | cons y ys =>
      have hl' : s.heap.IsList a (y :: ys).toArray := by
        obtain ⟨o, m, e, c, d, q⟩ := pl
        exact ⟨o, e, c, m, q⟩
      have ly : ys.length ≤ 16000 := by
        have := rv.length
        simp at this
        omega
      exact wpAny_bind (wpAny_holding (star_list (n := 0) (I.ok.hd hc) hl' ly fun h2 tk he => last y ys rv h2 tk he))
  · obtain ⟨its, rv, ht, hz⟩ := I.tuple hq
    cases its with
    | nil => cases rv
    | cons y ys =>
      have ly : ys.length ≤ 16000 := by
        have := rv.length
        simp at this
        omega
      exact wpAny_bind (wpAny_holding (star_tuple (n := 0) (I.ok.hd hc) ht ly fun h2 tk he => last y ys rv h2 tk he))
theorem g_starT {K : PySem.W.Frag} {t : TGs} {a : Addr} {x : V} {r : List V} {σ : L2.St} {H : Hp} {Q : L2.St → Hp → Prop} (h : SqL K H a (x :: r) ∨ SqT K H a (x :: r)) (hl : r.length ≤ 16000) (k : ∀ p H', H p = none → Same H H' → H' p = some (.lst r) → t [x, .ref p] σ H' Q) : gStar K t (.ref a) σ H Q :=
  ⟨a, x, r, rfl, h, hl, fun p hp => k p _ hp (same_new hp) upd_same⟩
/-- a text, 0 or 1 times -/
def rRep1 : R2 := fun x y H Q => ∃ (a : Str) (b : Bool), x = .str a ∧ y = .int (if b = true then 1 else 0) ∧ Q (.str (if b = true then a else Str.empty)) H
theorem op_rep1 : OpR X (binaryOp .Mult) rRep1 := by
  intro pins s σ H x y v u Q I rx ry h
  obtain ⟨a, b, rfl, rfl, q⟩ := h
  obtain ⟨t, rfl⟩ := rx
  obtain ⟨t', rfl⟩ := ry
  cases b with
  | true => exact P.mul_str (by decide) (fun _ z => by cases z) (fun _ z => by cases z) ⟨.str a, H, I, ⟨t, rfl⟩, q⟩
  | false => exact P.mul_str_none (by decide) (by decide) ⟨.str Str.empty, H, I.tok _, ⟨_, rfl⟩, q⟩
end
end Gx

/-! Steps for texts; defs called by a keyword; the walk over enumerate -/
namespace Gx
open PySem L2 PySem.Spec PyProof.Rows
section
variable {X : Cx}
theorem pgs_star {e : Expr} {es : List Expr} {t : TG} {u : TGs} {p : Pos} (h1 : PG X e t) (h2 : PGs X es u) (hs : (assignEach (.Starred e p :: es) X.env).map (·.2) = assign e X.env :: (assignEach es X.env).map (·.2) := by rfl) : PGs X (.Starred e p :: es) (gCons t u) := by
  refine ⟨fun pins s σ H vs us Q I r h => ?_⟩
  obtain ⟨v, vr, rfl, h⟩ := h
  cases r with
  | cons r rr =>
    rw [hs]
    exact assignInOrder_cons (thn (h1.run pins s σ H _ _ _ I r h) fun _ s1 ⟨σ1, H1, I1, q1⟩ => h2.run pins s1 σ1 H1 _ _ Q I1 rr q1)
/-- a def called with keywords alone -/
structure CalK (P : Program) (w : World) (K : PySem.W.Frag) (mg : Str → Option Value) (base : Heap) (k : Nat) (x : Str) (ks : List Str) (gV : List V → List V → List V) (sp : Sp) : Prop where
  ex : ∃ (f : Addr) (fd : FuncData) (ps : List Str) (g : List Value → List Value → List Value), FnOk P w K mg base CX0 k f fd ps sp ∧ mg x = some (.ref f) ∧ PySem.W.keepIn K (.ref f) = true ∧ KBinds K fd ps ks g gV
def tCallK0 (sp : Sp) (gV : List V → List V → List V) (tk : TA) : TE := fun σ H Q => tk σ H fun zs H2 => sp (gV [] zs) H2 Q (fun _ _ _ => False)
theorem pe_cK {k j : Nat} {x : Str} {ks : List Str} {gV : List V → List V → List V} {sp : Sp} {kws : List Keyword} {tk : TA} {p pos : Pos} (c : CalK X.prog X.w X.K X.mg X.base k x ks gV sp) (hr : Room j X.A) (hk : k ≤ j) (hg : Gl X x) (hkw : PK X kws tk)
    (hdb : (x == ("__debug__" : Str)) = false := by decide) (hall : (backToKw pos (keywordEach kws X.env)).all (·.1.isSome) = true := by rfl) (hks : (backToKw pos (keywordEach kws X.env)).filterMap (·.1) = ks := by rfl)
    (hpl : ((backTo pos (starEach [] X.env)).any (·.1) || (backToKw pos (keywordEach kws X.env)).any (·.1.isNone)) = false := by rfl) : PE X (.Call (.Name x p) [] kws pos) (tCallK0 sp gV tk) := by
  obtain ⟨f, fd, ps, g, F, named, kept, kb⟩ := c.ex
  refine ⟨fun pins s σ H Q I h => wpAny_Call_Name_kw (ld_glob I hg named ?_ hdb)⟩
  refine PySem.W.callWith_KW0 (h₀ := X.base) I.ok.mod.kin kept hall (thn (hkw.run pos pins s σ H _ I h) fun ws s2 got => ?_) hpl
  obtain ⟨zs, H2, I2, rz, q2⟩ := got
  refine ⟨I2.kIn, ?_⟩
  rw [hks]
  exact run_fnk (us := []) (vs := []) F (hr.mono hk) kb pass0 I2 .nil rz q2
def soleV : List V → List V → List V
  | [], [x] => [x]
  | _, _ => []
def soleU : List Value → List Value → List Value
  | [], [x] => [x]
  | _, _ => []
theorem sole_rel {vs : List V} {us : List Value} {zs : List V} {ws : List Value} (r : Vals vs us) (rz : Vals zs ws) : Vals (soleV vs zs) (soleU us ws) := by
  cases r with
  | nil =>
    cases rz with
    | nil => exact .nil
    | cons z1 rz =>
      cases rz with
      | nil => exact .cons z1 .nil
      | cons _ _ => exact .nil
  | cons r1 r => exact .nil
theorem kbinds_sole {K : PySem.W.Frag} {fd : FuncData} {k : Str} (h : ∀ x : Value, bindArgs fd ⟨[], [(k, x)]⟩ = pure [(k, x)]) : KBinds K fd [k] [k] soleU soleV := by
  refine ⟨fun st us ws _ hl => ?_, sole_rel⟩
  match us, ws, hl with
  | [], [x], _ => exact .of_eq (h x)
  | [], [], hl => simp [soleU] at hl
  | [], _ :: _ :: _, hl => simp [soleU] at hl
  | _ :: _, _, hl => simp [soleU] at hl
end
section
variable {σ : L2.St} {H H1 : Hp} {Q : VK} {K : PySem.W.Frag} {te to ta : TE} {tk : TA} {R : It → Hp → Prop} {a : Addr} {xs : List V}
theorem g_callK0 {sp : Sp} {gV : List V → List V → List V} (q : tk σ H fun zs H2 => sp (gV [] zs) H2 Q (fun _ _ _ => False)) : tCallK0 sp gV tk σ H Q := q
theorem g_m1 {r : V → List V → Hp → VK → Prop} (q : to σ H fun x H1 => (∃ a, x = .str a) ∧ te σ H1 fun y H2 => r x [y] H2 Q) : tM1 r to te σ H Q := q
theorem g_isstr {z : Str} {P : Prop} (q : P) : (∃ a, V.str z = .str a) ∧ P := ⟨⟨z, rfl⟩, q⟩
theorem g_iStr (q : te σ H fun v H1 => ∃ x, v = .str x ∧ R (Its x) H1) : iStr te σ H R := q
theorem g_exS {z : Str} {R : Str → Prop} (q : R z) : ∃ x, V.str z = .str x ∧ R x := ⟨z, rfl, q⟩
theorem g_iEnum {t : TA} (q : t σ H fun vs H1 => ∃ a xs, vs = [.ref a] ∧ SqL K H1 a xs ∧ R (Ite K a) H1) : iEnum K t σ H R := q
theorem g_exEn {R : Addr → Prop} (h : SqL K H a xs) (q : R a) : ∃ b ys, [V.ref a] = [.ref b] ∧ SqL K H b ys ∧ R b := ⟨a, xs, rfl, h, q⟩
theorem src_str {x : Str} : Src (Its x) H1 x.cps.size (fun i v _ => ∃ c, x.cps[i]? = some c ∧ v = .str ⟨#[c]⟩) := fun i H s =>
  ⟨fun hi => ⟨hi, fun v H' y => by obtain ⟨rfl, q⟩ := y; exact ⟨Same.refl _, q⟩⟩, fun hi => hi⟩
theorem fw_enum {g : TG} {tb : TS} {D : Ends} (Pv : Nat → L2.St → Hp → Prop) (h0 : Pv 0 σ H) (hl : ∀ i σ H, i ≤ xs.length → Pv i σ H → SqL K H a xs)
    (hs : ∀ i x t σ H H', xs[i]? = some x → Pv i σ H → Same H H' → H' t = some (.tup [.int (i : Nat), x]) → g (.ref t) σ H' fun σ2 H2 => tb { D with nx := Pv (i + 1), ct := Pv (i + 1), bk := D.nx } σ2 H2) (hd : ∀ σ H, Pv xs.length σ H → D.nx σ H) : FW g tb D (Ite K a) σ H := by
  refine ⟨fun i m σ H => m = xs.length - i ∧ i ≤ xs.length ∧ Pv i σ H, ⟨_, rfl, Nat.zero_le _, h0⟩, ?_⟩
  rintro i m σ H ⟨rfl, hi, p⟩
  have q := hl i σ H hi p
  rcases Nat.lt_or_ge i xs.length with lt | ge
  · refine .inr ⟨⟨xs, xs[i], q, List.getElem?_eq_getElem lt⟩, Pv (i + 1), fun σ' H' p' => ⟨xs.length - (i + 1), by omega, rfl, lt, p'⟩, fun v H' y => ?_⟩
    obtain ⟨t, x, rfl, nt, rfl, at_⟩ := y
    exact hs i x t σ H _ (at_ xs q) p (same_new nt) upd_same
  · have e : i = xs.length := Nat.le_antisymm hi ge
    subst e
    exact .inl ⟨⟨xs, q, Nat.le_refl _⟩, hd σ H p⟩
theorem g_split {a b : Str} (hb : (b.length == 0) = false) (hl : a.length + 2 ≤ sizeLine) (k : ∀ p H', H p = none → Same H H' → H' p = some (.lst ((Txt.split a b).map V.str)) → Q (.ref p) H') :
    (∃ x y, V.str a = .str x ∧ [V.str b] = [.str y] ∧ (y.length == 0) = false ∧ x.length + 2 ≤ sizeLine ∧ rNewStrs (Txt.split x y) H Q) := ⟨a, b, rfl, rfl, hb, hl, fun p hp => k p _ hp (same_new hp) upd_same⟩
theorem g_join {s : Str} {p : Addr} {ys : List Str} (h : SqL K H p (ys.map V.str)) (hl : (ys.map (·.length)).sum + ys.length * s.length ≤ 16777216) (q : Q (.str (Txt.join s ys)) H) :
    (∃ a p', ∃ ys : List Str, V.str s = .str a ∧ [V.ref p] = [.ref p'] ∧ (SqL K H p' (ys.map V.str) ∨ SqT K H p' (ys.map V.str)) ∧ (ys.map (·.length)).sum + ys.length * a.length ≤ 16777216 ∧ Q (.str (Txt.join a ys)) H) := ⟨s, p, ys, rfl, rfl, .inl h, hl, q⟩
end
end Gx

/-! The texts of whole numbers -/
namespace Gx
open PySem TL SX
abbrev numS (n : Int) : Str := Str.ofString (toString n)
/-- the signs of a whole number -/
def numI (n : Int) : List Nat := if n < 0 then 45 :: numL n.natAbs else numL n.natAbs
theorem tl_neg (m : Nat) : tl (numS (Int.negSucc m)) = 45 :: numL (m + 1) := by
  have e : toString (Int.negSucc m) = "-" ++ Nat.repr (m + 1) := rfl
  rw [tl_ofString, e, String.toList_append, List.map_append, Nat.toList_repr]
  rfl
theorem tl_numS (n : Int) : tl (numS n) = numI n := by
  unfold numI
  cases n with
  | ofNat m =>
    rw [if_neg (show ¬ Int.ofNat m < 0 from Int.not_lt.mpr (Int.natCast_nonneg m))]
    exact tl_num m
  | negSucc m =>
    rw [if_pos (Int.negSucc_lt_zero m)]
    exact tl_neg m
theorem numS_S (n : Int) : numS n = S (numI n) := ext_tl (tl_numS n)
theorem numI_free {c : Nat} (h1 : c ≠ 45) (h2 : c < 48 ∨ 57 < c) (n : Int) : c ∉ numI n := by
  unfold numI
  split
  · intro h
    rcases List.mem_cons.mp h with e | h
    · exact h1 e
    · exact numL_free h2 h
  · exact numL_free h2
theorem numL_le {n : Nat} (h : n < 10 ^ 60) : (numL n).length ≤ 60 := numL_len (by decide) h
theorem numI_le {n : Int} (h : n.natAbs < 10 ^ 60) : (numI n).length ≤ 61 := by
  have := numL_le h
  unfold numI
  split
  · rw [List.length_cons]
    omega
  · omega
theorem numS_len {n : Int} (h : n.natAbs < 10 ^ 60) : (numS n).length ≤ 61 := by
  rw [len_tl, tl_numS]
  exact numI_le h
theorem numL_zero : ∀ {n : Nat}, (numL n).head? = some 48 → n = 0 := by
  intro n
  induction n using Nat.strongRecOn with
  | _ n ih =>
    intro h
    by_cases c : n < 10
    · rw [numL_lt c] at h
      have := Option.some.inj h
      omega
    · rw [numL_step (by omega), List.head?_append] at h
      cases q : (numL (n / 10)).head? with
      | none => exact absurd (List.head?_eq_none_iff.mp q) (numL_ne _)
      | some x =>
        rw [q] at h
        have e : x = 48 := Option.some.inj h
        subst e
        have := ih (n / 10) (by omega) q
        omega
theorem int_numS {n : Int} (h : n.natAbs < 10 ^ 60) : intText? (numS n) = some n := by
  have l := numS_len h
  cases n with
  | ofNat m => exact int_num (Nat.le_trans (numL_le h) (by decide))
  | negSucc m =>
    rw [intText_neg (tl_neg m) (numL_digits _) (numL_ne _) (by omega), numL_val]
    rfl
/-! ### joined texts -/
theorem mem_join {c : Nat} {sep : List Nat} : ∀ {ps : List (List Nat)}, c ∈ joinL sep ps → c ∈ sep ∨ ∃ p ∈ ps, c ∈ p
  | [], h => by cases h
  | [p], h => .inr ⟨p, List.mem_cons_self, h⟩
  | p :: q :: r, h => by
    have h : c ∈ p ++ (sep ++ joinL sep (q :: r)) := h
    rcases List.mem_append.mp h with h | h
    · exact .inr ⟨p, List.mem_cons_self, h⟩
    · rcases List.mem_append.mp h with h | h
      · exact .inl h
      · rcases mem_join h with h | ⟨z, hz, h⟩
        · exact .inl h
        · exact .inr ⟨z, List.mem_cons_of_mem _ hz, h⟩
theorem tl_Join (y : Str) (ps : List Str) : tl (Txt.join y ps) = joinL (tl y) (ps.map tl) := by
  rw [join_eq]
  exact tl_join y ps
theorem join_len (sep : List Nat) : ∀ ps : List (List Nat), (joinL sep ps).length ≤ (ps.map (·.length)).sum + ps.length * sep.length
  | [] => Nat.zero_le _
  | [p] => by
    show p.length ≤ (p.length + 0) + 1 * sep.length
    omega
  | p :: q :: r => by
    have ih := join_len sep (q :: r)
    have e : joinL sep (p :: q :: r) = p ++ (sep ++ joinL sep (q :: r)) := rfl
    rw [e, List.length_append, List.length_append, List.map_cons, List.sum_cons, List.length_cons (a := p), Nat.succ_mul]
    omega
end Gx

/-! Errors whose __init__ calls the __init__ of an own class above it -/
namespace Gx
open PySem L2 PySem.Spec PyProof.Rows
section
variable {X : Cx} {e : Expr} {es : List Expr} {ta : TA} {x : Str} {LE : Addr} {mc : Value} {p1 p2 pos : Pos}
theorem pe_above {pl : Sem Bool} (hg : Gl X x) (hm : X.mg x = some (.ref LE)) (ga : PySem.W.specialIn X.K (.ref LE) "__getattribute__" = some (some (.builtin "type.__getattribute__"))) (rd : PySem.W.readsIn X.K LE mc = true)
    (fc : PySem.W.findCls X.K (.ref LE) mc "__init__" = some (.val (.builtin "ValueError.__init__"))) (ha : PA X (e :: es) ta) (hdb : (x == ("__debug__" : Str)) = false := by decide)
    (hc : eval (.Call (.Attribute (.Name x p1) "__init__" p2) (e :: es) [] pos) X.env = (do
      let cls ← eval (.Name x p1) X.env
      standAt p2.atName
      let (fn, fs1) ← holding [cls] (getMethod cls "__init__" pl)
      callWith pos fn fs1 (backTo pos (starEach (e :: es) X.env)) (backToKw pos (keywordEach [] X.env))) := by rfl)
    (he : starEach (e :: es) X.env = (false, eval e X.env) :: starEach es X.env := by rfl) (hpl : (backTo pos (starEach es X.env)).any (·.1) = false := by rfl) : PE X (.Call (.Attribute (.Name x p1) "__init__" p2) (e :: es) [] pos) (tVeI X.K ta) := by
  refine ⟨fun pins s σ H Q I h => ?_⟩
  refine PySem.W.methodCall_KW (ld_glob I hg hm ?_ hdb) hc
  refine PySem.W.method_cls I.kIn ga (PySem.W.cls_value I.kIn rd fc (by decide +kernel) ?_)
  show wpAny _ _ (callWith pos (Value.builtin "ValueError.__init__") [] (backTo pos (starEach (e :: es) X.env)) []) _ _ _
  refine PyProof.Rows.callWith_method1 (thn (ha.run pos pins _ σ H _ (I.tok _) h) fun us s1 got => ?_) he hpl
  obtain ⟨vs, H1, I1, r1, a, C, ws, rfl, hl, T, ea, q⟩ := got
  cases r1 with
  | @cons _ u0 _ ur ra rw' =>
    obtain rfl : u0 = Value.ref a := ra
    have few : ur.length ≤ sizeLine := by
      rw [← Paired.length rw', sizeLine_eq]
      omega
    exact oinit_ok T I1 ea few fun s' J => ⟨.non, H1, J, rfl, q⟩
theorem g_veI {K : PySem.W.Frag} {σ : L2.St} {H : Hp} {Q : VK} (q : ta σ H fun vs H1 => ∃ (a C : Addr) (ws : List V), vs = .ref a :: ws ∧ ws.length ≤ 1000 ∧ OexC K C ∧ H1 a = some (exo a C none) ∧ Q .non H1) : tVeI K ta σ H Q := q
theorem g_ost {K : PySem.W.Frag} {f : Str} {to te : TE} {D : Ends} {σ : L2.St} {H : Hp} (q : te σ H fun y H1 => to σ H1 fun x H2 => ∃ a C : Addr, x = .ref a ∧ OexC K C ∧ PySem.W.findIn K (.ref C) f = some none ∧
  ((H2 a = some (exo a C none) ∧ ∀ dx, H2 dx = none → dx ≠ a → D.nx σ (upd (upd H2 dx (exd dx [(f, y)])) a (exo a C (some dx)))) ∨
    ∃ (dx : Addr) (fs : List (Str × V)), H2 a = some (exo a C (some dx)) ∧ H2 dx = some (exd dx fs) ∧ fs.length ≤ 900 ∧ D.nx σ (upd H2 dx (exd dx ((f, y) :: fs))))) : tOst K f to te D σ H := q
end
end Gx

/-! The whole number that a text writes, if it writes one -/
namespace Gx
open PySem TL SX
def digs (a : List Nat) : List Nat := if a.take 1 = [45] then a.drop 1 else a
def isDig (c : Nat) : Bool := decide (48 ≤ c) && decide (c ≤ 57)
def goodI (a : List Nat) : Bool := (decide (1 ≤ (digs a).length) && decide ((digs a).length ≤ 60) && (digs a).all isDig) && !(decide ((digs a).head? = some 48) && !decide (a = [48]))
def valI (a : List Nat) : Int := if a.take 1 = [45] then -((NumText.digitsVal (a.drop 1) : Nat) : Int) else ((NumText.digitsVal a : Nat) : Int)
def readI (a : List Nat) : Option Int := if goodI a = true then some (valI a) else none
theorem all_dig {a : List Nat} (h : a.all isDig = true) : NumText.AllDigits a := by
  intro c hc
  have z := List.all_eq_true.mp h c hc
  unfold isDig at z
  rw [Bool.and_eq_true, decide_eq_true_eq, decide_eq_true_eq] at z
  exact z
theorem int_good {a : List Nat} (h1 : 1 ≤ (digs a).length) (h2 : (digs a).length ≤ 60) (h3 : (digs a).all isDig = true) : intText? (S a) = some (valI a) ∧ a.length ≤ 61 := by
  by_cases c : a.take 1 = [45]
  · have e : digs a = a.drop 1 := if_pos c
    rw [e] at h1 h2 h3
    cases a with
    | nil => cases c
    | cons x r =>
      have hx : x = 45 := (List.cons.inj c).1
      subst hx
      have hr : r ≠ [] := fun z => by
        rw [z] at h1
        cases h1
      have l2 : r.length ≤ 60 := h2
      refine ⟨?_, by rw [List.length_cons]; omega⟩
      have q := intText_neg (x := S (45 :: r)) (cs := r) rfl (all_dig h3) hr (by rw [S_len, List.length_cons]; omega)
      rw [q]
      unfold valI
      rw [if_pos c]
      rfl
  · have e : digs a = a := if_neg c
    rw [e] at h1 h2 h3
    refine ⟨?_, by omega⟩
    have q := intText_digits (x := S a) (all_dig h3) (fun z => by
      have z2 : a = [] := z
      rw [z2] at h1
      cases h1) (by rw [S_len]; omega)
    rw [q]
    unfold valI
    rw [if_neg c]
end Gx

/-! A table of the module: a word that it lacks -/
namespace Gx
open PySem L2
theorem table_lacks {K : PySem.W.Frag} {d : Addr} {es : Array DictEntry} {n : Nat} (hl : K.lookup d = some ⟨.type "dict", none, .dict es n, #[]⟩) {ks : List (Str × Tok)} (hk : es.toList.map (·.key) = ks.map fun k => Value.str k.1 k.2) {z : Str} (hz : ∀ k ∈ ks, k.1 ≠ z) :
    PySem.W.nsIn K d z = some none := by
  unfold PySem.W.nsIn
  rw [hl]
  dsimp only
  have key : ∀ e ∈ es.toList, ∃ k ∈ ks, e.key = .str k.1 k.2 := fun e he => by
    have m : e.key ∈ es.toList.map (·.key) := List.mem_map.mpr ⟨e, he, rfl⟩
    rw [hk] at m
    obtain ⟨k, hm, q⟩ := List.mem_map.mp m
    exact ⟨k, hm, q.symm⟩
  have f : es.toList.find? (·.key.isStr z) = none := List.find?_eq_none.mpr fun e he => by
    obtain ⟨k, hm, q⟩ := key e he
    rw [q]
    have ne := hz k hm
    intro y
    have y2 : (k.1 == z) = true := y
    exact ne (eq_of_beq y2)
  have r : es.toList.any (·.refKey) = false := by
    rw [List.any_eq_false]
    intro e he y
    obtain ⟨k, hm, q⟩ := key e he
    unfold DictEntry.refKey at y
    rw [q] at y
    cases y
  rw [f, r]
  rfl
end Gx

/-! Requests, their texts: what needs no law's text -/
namespace Gk
open PySem L2 Gx SX TL
/-- numbers below 10 ** 60 -/
def In60 (n : Int) : Prop := n.natAbs < 1000000000000000000000000000000000000000000000000000000000000
/-- a request: its name, its numbers -/
abbrev Req := Str × List Int
def reqV (r : Req) : List V := .str r.1 :: r.2.map V.int
def reqD (r : Req) : PyData := .tuple (.str r.1 :: r.2.map PyData.int)
/-- a request that is no last one -/
def Open (r : Req) : Prop := (∀ n ∈ r.2, In60 n) ∧ (((r.1 = "read" ∨ r.1 = "read_values") ∧ ∃ a b, r.2 = [a, b] ∧ a ≤ b) ∨ (r.1 = "put" ∧ ∃ a b, r.2 = [a, b]) ∨ (r.1 = "erase" ∧ ∃ a, r.2 = [a]))
def Last (r : Req) : Prop := (r.1 = "end" ∨ r.1 = "abort") ∧ r.2 = []
section
variable {P : Program} {w : World} {K : PySem.W.Frag} {mg : Str → Option Value} {base : Heap} {aL aN aC : Addr} {eN eC : Array DictEntry} {mN mC : Nat}
theorem cut_to1 (a : List Nat) : cutS (S a) none (some 1) = S (a.take 1) := by
  unfold cutS
  rw [HT.sIx_none, show (1 : Int) = ((1 : Nat) : Int) from rfl, HT.sIx_nat, S_len]
  show S ((a.drop 0).take (min 1 a.length - 0)) = S (a.take 1)
  rw [List.drop_zero, Nat.sub_zero]
  congr 1
  cases a with
  | nil => rfl
  | cons x r =>
    have : min 1 (x :: r).length = 1 := by
      rw [List.length_cons]
      omega
    rw [this]
theorem cut_from1 (a : List Nat) : cutS (S a) (some 1) none = S (a.drop 1) := by
  unfold cutS
  rw [HT.sIx_none, show (1 : Int) = ((1 : Nat) : Int) from rfl, HT.sIx_nat, S_len]
  show S ((a.drop (min 1 a.length)).take (a.length - min 1 a.length)) = S (a.drop 1)
  congr 1
  cases a with
  | nil => rfl
  | cons x r =>
    have : min 1 (x :: r).length = 1 := by
      rw [List.length_cons]
      omega
    rw [this]
    exact List.take_of_length_le (by rw [List.length_drop]; exact Nat.le_refl _)
theorem atI_headN {xs : List Nat} {v : Nat} (h : xs.head? = some v) : atI xs 0 = some v := by
  cases xs with
  | nil => cases h
  | cons x r => exact (atI_nat (j := 0) rfl).trans h
theorem all_true {acc : List V} (h : ∀ (i : Nat) y, acc[i]? = some y → y = .bl true) : acc = (List.replicate acc.length true).map V.bl := by
  apply List.ext_getElem?
  intro i
  rw [List.getElem?_map, List.getElem?_replicate]
  rcases Nat.lt_or_ge i acc.length with c | c
  · rw [if_pos c, List.getElem?_eq_getElem c, h i _ (List.getElem?_eq_getElem c)]
    rfl
  · rw [if_neg (by omega), List.getElem?_eq_none c]
    rfl
theorem map_of {acc : List V} {ns : List Int} {f : Int → V} (hl : acc.length = ns.length) (h : ∀ (i : Nat) y, acc[i]? = some y → ∀ n, ns[i]? = some n → y = f n) : acc = ns.map f := by
  apply List.ext_getElem?
  intro i
  rw [List.getElem?_map]
  rcases Nat.lt_or_ge i acc.length with c | c
  · have c2 : i < ns.length := by omega
    rw [List.getElem?_eq_getElem c, List.getElem?_eq_getElem c2, h i _ (List.getElem?_eq_getElem c) _ (List.getElem?_eq_getElem c2)]
    rfl
  · rw [List.getElem?_eq_none c, List.getElem?_eq_none (by omega)]
    rfl
theorem str_at {ns : List Int} {i : Nat} {x : V} (h : ((ns.map numS).map V.str)[i]? = some x) : ∃ n, ns[i]? = some n ∧ x = .str (numS n) := by
  rw [List.getElem?_map, List.getElem?_map] at h
  cases e : ns[i]? with
  | none =>
    rw [e] at h
    cases h
  | some n =>
    rw [e] at h
    exact ⟨n, rfl, (Option.some.inj h).symm⟩
theorem int_at {ns : List Int} {i : Nat} {x : V} (h : (ns.map V.int)[i]? = some x) : ∃ n, ns[i]? = some n ∧ x = .int n := by
  rw [List.getElem?_map] at h
  cases e : ns[i]? with
  | none =>
    rw [e] at h
    cases h
  | some n =>
    rw [e] at h
    exact ⟨n, rfl, (Option.some.inj h).symm⟩
theorem inV_non (ns : List Int) : inV .non (ns.map V.int) = false := by
  induction ns with
  | nil => rfl
  | cons n r ih =>
    show (eqV (.int n) .non || inV .non (r.map V.int)) = false
    rw [ih]
    rfl
def wordT (x : Str) : Str := if x = "read_values" then "values" else x
/-- the text of a request -/
def reqT (r : Req) : Str := Txt.join " " (wordT r.1 :: r.2.map numS)
theorem sum_nums : ∀ ns : List Int, (∀ n ∈ ns, In60 n) → ((ns.map numS).map (·.length)).sum ≤ 61 * ns.length
  | [], _ => Nat.zero_le _
  | n :: r, h => by
    have ih := sum_nums r fun x hx => h x (List.mem_cons_of_mem _ hx)
    have h1 := numS_len (h n List.mem_cons_self)
    rw [List.map_cons, List.map_cons, List.sum_cons, List.length_cons]
    omega
/-- a request as it may be written -/
def Wri (r : Req) : Prop := (∀ n ∈ r.2, In60 n) ∧ r.2.length ≤ 2 ∧ (wordT r.1).length ≤ 10
theorem log_60 {n : Int} (h : In60 n) : n.natAbs.log2 < 1920 := Nat.lt_trans (PySem.Flt.log2_lt_of (k := 200) (by decide) (Nat.lt_trans h (by decide))) (by decide)
def scriptT (rs : List Req) : Str := Txt.join "; " (rs.map reqT)
theorem ints_back {H : Hp} : ∀ (ns : List Int) (ys : List V), DpAll K H ys (ns.map PyData.int) → ys = ns.map V.int
  | [], _, h => by
    cases h
    rfl
  | n :: r, _, h => by
    cases h with
    | cons a b =>
      cases a
      rw [ints_back r _ b]
      rfl
theorem rq_back {H : Hp} {v : V} {r : Req} (h : Dp K H v (reqD r)) : ∃ t, v = .ref t ∧ SqT K H t (reqV r) := by
  cases h with
  | tup a b =>
    cases b with
    | cons c d =>
      cases c
      rw [ints_back _ _ d] at a
      exact ⟨_, rfl, a⟩
theorem rq_all {H : Hp} : ∀ (rs : List Req) (vs : List V), DpAll K H vs (rs.map reqD) → vs.length = rs.length ∧ ∀ (i : Nat) x, vs[i]? = some x → ∃ r t, rs[i]? = some r ∧ x = .ref t ∧ SqT K H t (reqV r)
  | [], _, h => by
    cases h
    exact ⟨rfl, fun i x hx => by simp at hx⟩
  | r :: rs, _, h => by
    cases h with
    | cons a b =>
      obtain ⟨l, k⟩ := rq_all rs _ b
      refine ⟨by rw [List.length_cons, List.length_cons, l], fun i x hx => ?_⟩
      cases i with
      | zero =>
        obtain rfl := Option.some.inj hx
        obtain ⟨t, e, ht⟩ := rq_back a
        exact ⟨r, t, rfl, e, ht⟩
      | succ i => exact k i x hx
theorem rq_dp {H : Hp} {t : Addr} {r : Req} (h : SqT K H t (reqV r)) : Dp K H (.ref t) (reqD r) := .tup h (.cons (.str _) (dpAll_ints _))
/-- a list of requests -/
abbrev RqL (K : PySem.W.Frag) (H : Hp) (l : Addr) (rs : List Req) : Prop := Dp K H (.ref l) (.list (rs.map reqD))
theorem rq_list {H : Hp} {l : Addr} {rs : List Req} (h : RqL K H l rs) : ∃ vs, SqL K H l vs ∧ vs.length = rs.length ∧ ∀ (i : Nat) x, vs[i]? = some x → ∃ r t, rs[i]? = some r ∧ x = .ref t ∧ SqT K H t (reqV r) := by
  cases h with
  | lst a b =>
    obtain ⟨h1, h2⟩ := rq_all _ _ b
    exact ⟨_, a, h1, h2⟩
theorem len_reqT {r : Req} (h : Wri r) : (reqT r).length ≤ 140 := by
  obtain ⟨hb, hl, hw⟩ := h
  have h1 := join_len (tl " ") ((wordT r.1 :: r.2.map numS).map tl)
  have h2 := sum_nums _ hb
  have h3 : (((wordT r.1 :: r.2.map numS).map tl).map (·.length)) = (wordT r.1 :: r.2.map numS).map (·.length) := by
    rw [List.map_map]
    refine List.map_congr_left fun x _ => ?_
    exact (len_tl x).symm
  have h5 : ((wordT r.1 :: r.2.map numS).map tl).length = r.2.length + 1 := by simp
  have h6 : ((wordT r.1 :: r.2.map numS).map (·.length)).sum = (wordT r.1).length + ((r.2.map numS).map (·.length)).sum := by rw [List.map_cons, List.sum_cons]
  have h4 : (tl " ").length = 1 := rfl
  rw [h3, h4, h5, h6] at h1
  rw [len_tl, reqT, tl_Join]
  omega
theorem sum_req : ∀ rs : List Req, (∀ r ∈ rs, Wri r) → ((rs.map reqT).map (·.length)).sum ≤ 140 * rs.length
  | [], _ => Nat.zero_le _
  | n :: r, h => by
    have ih := sum_req r fun x hx => h x (List.mem_cons_of_mem _ hx)
    have h1 := len_reqT (h n List.mem_cons_self)
    rw [List.map_cons, List.map_cons, List.sum_cons, List.length_cons]
    omega
theorem len_script {rs : List Req} (h : ∀ r ∈ rs, Wri r) (hl : rs.length ≤ 8) : (scriptT rs).length ≤ 2000 := by
  have h1 := join_len (tl "; ") ((rs.map reqT).map tl)
  have h2 := sum_req _ h
  have h3 : (((rs.map reqT).map tl).map (·.length)) = (rs.map reqT).map (·.length) := by
    rw [List.map_map]
    refine List.map_congr_left fun x _ => ?_
    exact (len_tl x).symm
  have h4 : (tl "; ").length = 2 := rfl
  rw [h3, h4, List.length_map, List.length_map] at h1
  rw [len_tl, scriptT, tl_Join]
  omega
theorem strs_of {acc : List V} {rs : List Req} {f : Req → V} (hl : acc.length = rs.length) (h : ∀ (i : Nat) y, acc[i]? = some y → ∀ n, rs[i]? = some n → y = f n) : acc = rs.map f := by
  apply List.ext_getElem?
  intro i
  rw [List.getElem?_map]
  rcases Nat.lt_or_ge i acc.length with c | c
  · have c2 : i < rs.length := by omega
    rw [List.getElem?_eq_getElem c, List.getElem?_eq_getElem c2, h i _ (List.getElem?_eq_getElem c) _ (List.getElem?_eq_getElem c2)]
    rfl
  · rw [List.getElem?_eq_none c, List.getElem?_eq_none (by omega)]
    rfl
/-- the module's tables of words -/
structure Words (K : PySem.W.Frag) (w : World) (mg : Str → Option Value) (aL aN aC : Addr) (eN eC : Array DictEntry) (mN mC : Nat) : Prop where
  gl : ∃ u, mg "LAST" = some u ∧ RelV (.ref aL) u
  hl : ∀ H, SqT K H aL [.str "end", .str "abort"]
  gn : ∃ u, mg "NAMES" = some u ∧ RelV (.ref aN) u
  kn : KDict K w aN eN mN
  n1 : ∃ t, PySem.W.nsIn K aN "read" = some (some (.str "read" t))
  n2 : ∃ t, PySem.W.nsIn K aN "values" = some (some (.str "read_values" t))
  n3 : ∃ t, PySem.W.nsIn K aN "put" = some (some (.str "put" t))
  n4 : ∃ t, PySem.W.nsIn K aN "erase" = some (some (.str "erase" t))
  gc : ∃ u, mg "COUNTS" = some u ∧ RelV (.ref aC) u
  kc : KDict K w aC eC mC
  c1 : ∃ t, PySem.W.nsIn K aC "read" = some (some (.int 2 t))
  c2 : ∃ t, PySem.W.nsIn K aC "values" = some (some (.int 2 t))
  c3 : ∃ t, PySem.W.nsIn K aC "put" = some (some (.int 2 t))
  c4 : ∃ t, PySem.W.nsIn K aC "erase" = some (some (.int 1 t))
/-- what holds of a request that is no last one -/
structure OpenF (K : PySem.W.Frag) (aN aC : Addr) (r : Req) : Prop where
  nums : ∀ n ∈ r.2, In60 n
  few : r.2.length ≤ 2
  short : (wordT r.1).length ≤ 10
  f32 : 32 ∉ tl (wordT r.1)
  f59 : 59 ∉ tl (wordT r.1)
  last : inV (.str (wordT r.1)) [V.str "end", V.str "abort"] = false
  lastN : inV (.str r.1) [V.str "end", V.str "abort"] = false
  name : ∃ t, PySem.W.nsIn K aN (wordT r.1) = some (some (.str r.1 t))
  count : ∃ t, PySem.W.nsIn K aC (wordT r.1) = some (some (.int r.2.length t))
  rng : inV (.str (wordT r.1)) [V.str "read", V.str "values"] = true → ∃ a b, r.2 = [a, b] ∧ a ≤ b
theorem wf_read : (wordT "read").length ≤ 10 ∧ 32 ∉ tl (wordT "read") ∧ 59 ∉ tl (wordT "read") ∧ inV (.str (wordT "read")) [V.str "end", V.str "abort"] = false ∧ inV (.str "read") [V.str "end", V.str "abort"] = false := by decide +kernel
theorem wf_values : (wordT "read_values").length ≤ 10 ∧ 32 ∉ tl (wordT "read_values") ∧ 59 ∉ tl (wordT "read_values") ∧ inV (.str (wordT "read_values")) [V.str "end", V.str "abort"] = false ∧ inV (.str "read_values") [V.str "end", V.str "abort"] = false := by decide +kernel
theorem wf_put : (wordT "put").length ≤ 10 ∧ 32 ∉ tl (wordT "put") ∧ 59 ∉ tl (wordT "put") ∧ inV (.str (wordT "put")) [V.str "end", V.str "abort"] = false ∧ inV (.str "put") [V.str "end", V.str "abort"] = false ∧ inV (.str (wordT "put")) [V.str "read", V.str "values"] = false := by decide +kernel
theorem wf_erase : (wordT "erase").length ≤ 10 ∧ 32 ∉ tl (wordT "erase") ∧ 59 ∉ tl (wordT "erase") ∧ inV (.str (wordT "erase")) [V.str "end", V.str "abort"] = false ∧ inV (.str "erase") [V.str "end", V.str "abort"] = false ∧ inV (.str (wordT "erase")) [V.str "read", V.str "values"] = false := by decide +kernel
theorem openF (W : Words K w mg aL aN aC eN eC mN mC) {r : Req} (h : Open r) : OpenF K aN aC r := by
  obtain ⟨x, ns⟩ := r
  obtain ⟨hb, h⟩ := h
  rcases h with ⟨h | h, a, b, e, le⟩ | ⟨h, a, b, e⟩ | ⟨h, a, e⟩ <;> (simp only at h e hb; subst h e)
  · obtain ⟨a1, a2, a3, a4, a5⟩ := wf_read
    exact ⟨hb, Nat.le_refl 2, a1, a2, a3, a4, a5, W.n1, W.c1, fun _ => ⟨a, b, rfl, le⟩⟩
  · obtain ⟨a1, a2, a3, a4, a5⟩ := wf_values
    exact ⟨hb, Nat.le_refl 2, a1, a2, a3, a4, a5, W.n2, W.c2, fun _ => ⟨a, b, rfl, le⟩⟩
  · obtain ⟨a1, a2, a3, a4, a5, a6⟩ := wf_put
    exact ⟨hb, Nat.le_refl 2, a1, a2, a3, a4, a5, W.n3, W.c3, fun z => absurd (a6.symm.trans z) Bool.false_ne_true⟩
  · obtain ⟨a1, a2, a3, a4, a5, a6⟩ := wf_erase
    exact ⟨hb, Nat.le_succ 1, a1, a2, a3, a4, a5, W.n4, W.c4, fun z => absurd (a6.symm.trans z) Bool.false_ne_true⟩
structure LastF (r : Req) : Prop where
  none : r.2 = []
  word : wordT r.1 = r.1
  short : (wordT r.1).length ≤ 10
  f32 : 32 ∉ tl (wordT r.1)
  f59 : 59 ∉ tl (wordT r.1)
  last : inV (.str (wordT r.1)) [V.str "end", V.str "abort"] = true
  lastN : inV (.str r.1) [V.str "end", V.str "abort"] = true
theorem wl_end : wordT "end" = "end" ∧ (wordT "end").length ≤ 10 ∧ 32 ∉ tl (wordT "end") ∧ 59 ∉ tl (wordT "end") ∧ inV (.str (wordT "end")) [V.str "end", V.str "abort"] = true ∧ inV (.str "end") [V.str "end", V.str "abort"] = true := by decide +kernel
theorem wl_abort : wordT "abort" = "abort" ∧ (wordT "abort").length ≤ 10 ∧ 32 ∉ tl (wordT "abort") ∧ 59 ∉ tl (wordT "abort") ∧ inV (.str (wordT "abort")) [V.str "end", V.str "abort"] = true ∧ inV (.str "abort") [V.str "end", V.str "abort"] = true := by decide +kernel
theorem lastF {r : Req} (h : Last r) : LastF r := by
  obtain ⟨x, ns⟩ := r
  obtain ⟨h | h, e⟩ := h <;> (simp only at h e; subst h e)
  · obtain ⟨a1, a2, a3, a4, a5, a6⟩ := wl_end
    exact ⟨rfl, a1, a2, a3, a4, a5, a6⟩
  · obtain ⟨a1, a2, a3, a4, a5, a6⟩ := wl_abort
    exact ⟨rfl, a1, a2, a3, a4, a5, a6⟩
theorem split_req {r : Req} (h : 32 ∉ tl (wordT r.1)) : Txt.split (reqT r) " " = wordT r.1 :: r.2.map numS := by
  refine split_join (s := 32) (S := []) (by decide +kernel) (by decide +kernel) (by simp) fun p hp => ?_
  rcases List.mem_cons.mp hp with rfl | hp
  · exact h
  · obtain ⟨n, _, rfl⟩ := List.mem_map.mp hp
    rw [tl_numS]
    exact numI_free (by decide) (by decide) n
theorem free_req {r : Req} (h : 59 ∉ tl (wordT r.1)) : 59 ∉ tl (reqT r) := by
  intro z
  rw [reqT, tl_Join] at z
  rcases mem_join z with z | ⟨p, hp, z⟩
  · exact absurd z (by decide +kernel)
  · obtain ⟨q, hq, rfl⟩ := List.mem_map.mp hp
    rcases List.mem_cons.mp hq with rfl | hq
    · exact h z
    · obtain ⟨n, _, rfl⟩ := List.mem_map.mp hq
      rw [tl_numS] at z
      exact numI_free (by decide) (by decide) n z
/-- a script: open requests, then a last one -/
structure Scr (rs : List Req) : Prop where
  ex : ∃ os l, rs = os ++ [l] ∧ (∀ r ∈ os, Open r) ∧ Last l ∧ os.length ≤ 7
theorem Scr.len {rs : List Req} (h : Scr rs) : rs.length ≤ 8 ∧ 0 < rs.length := by
  obtain ⟨os, l, rfl, _, _, h⟩ := h.ex
  rw [List.length_append]
  simp only [List.length_cons, List.length_nil]
  omega
theorem Scr.at_ {rs : List Req} (h : Scr rs) {i : Nat} {r : Req} (hi : rs[i]? = some r) : (i + 1 < rs.length ∧ Open r) ∨ (i + 1 = rs.length ∧ Last r) := by
  obtain ⟨os, l, rfl, ho, hl, h⟩ := h.ex
  rw [List.length_append]
  simp only [List.length_cons, List.length_nil]
  rcases Nat.lt_or_ge i os.length with c | c
  · rw [List.getElem?_append_left c] at hi
    exact .inl ⟨by omega, ho r (List.mem_of_getElem? hi)⟩
  · rw [List.getElem?_append_right c] at hi
    have lt : i - os.length < 1 := by
      rcases Nat.lt_or_ge (i - os.length) 1 with z | z
      · exact z
      · rw [List.getElem?_eq_none (by simpa using z)] at hi
        cases hi
    have e0 : i - os.length = 0 := by omega
    rw [e0] at hi
    obtain rfl := Option.some.inj hi
    exact .inr ⟨by omega, hl⟩
theorem wri (W : Words K w mg aL aN aC eN eC mN mC) {r : Req} (h : Open r ∨ Last r) : Wri r ∧ 59 ∉ tl (wordT r.1) := by
  rcases h with h | h
  · have o := openF W h
    exact ⟨⟨o.nums, o.few, o.short⟩, o.f59⟩
  · have o := lastF h
    exact ⟨⟨by rw [o.none]; exact nofun, by rw [o.none]; exact Nat.zero_le _, o.short⟩, o.f59⟩
theorem Scr.all {rs : List Req} (h : Scr rs) : ∀ r ∈ rs, Open r ∨ Last r := fun r hr => by
  obtain ⟨i, hi, e⟩ := List.getElem_of_mem hr
  rcases h.at_ (List.getElem?_eq_some_iff.mpr ⟨hi, e⟩) with ⟨_, q⟩ | ⟨_, q⟩
  · exact .inl q
  · exact .inr q
theorem noLst_req (r : Req) : noLst (reqD r) = true := by
  have : noLstAll (r.2.map PyData.int) = true := noLstAll_iff.mpr fun d hd => by
    obtain ⟨n, _, rfl⟩ := List.mem_map.mp hd
    rfl
  simp [reqD, noLst, noLstAll, this]
theorem noLst_reqs (rs : List Req) : noLstAll (rs.map reqD) = true := noLstAll_iff.mpr fun d hd => by
  obtain ⟨n, _, rfl⟩ := List.mem_map.mp hd
  exact noLst_req n
theorem split_script (W : Words K w mg aL aN aC eN eC mN mC) {rs : List Req} (h : Scr rs) : Txt.split (scriptT rs) "; " = rs.map reqT := by
  have hl := h.len.2
  refine split_join (s := 59) (S := [32]) (by decide +kernel) (by decide +kernel) (fun z => ?_) fun p hp => ?_
  · rw [List.map_eq_nil_iff] at z
    rw [z] at hl
    cases hl
  · obtain ⟨r, hr, rfl⟩ := List.mem_map.mp hp
    exact free_req (wri W (h.all r hr)).2
theorem join_flat (sep p : List Nat) : ∀ ps : List (List Nat), joinL sep (p :: ps) = p ++ (ps.map fun q => sep ++ q).flatten := by
  intro ps
  induction ps generalizing p with
  | nil => simp [joinL]
  | cons q r ih =>
    have e : joinL sep (p :: q :: r) = p ++ (sep ++ joinL sep (q :: r)) := rfl
    rw [e, ih q]
    simp
theorem join_snoc (sep p : List Nat) : ∀ ps : List (List Nat), ps ≠ [] → joinL sep (ps ++ [p]) = joinL sep ps ++ (sep ++ p)
  | [], h => absurd rfl h
  | q :: r, _ => by
    rw [List.cons_append, join_flat, join_flat, List.map_append, List.flatten_append]
    simp
/-- the numbers of a request behind its word -/
def argsT (ns : List Int) : Str := S ((ns.map fun n => 32 :: numI n).flatten)
theorem tl_argsT (ns : List Int) : tl (argsT ns) = (ns.map fun n => 32 :: numI n).flatten := rfl
theorem args_next {ns : List Int} {j : Nat} {n : Int} (F : Str) (h : ns[j]? = some n) : F ++ argsT (ns.take j) ++ " " ++ numS n = F ++ argsT (ns.take (j + 1)) := by
  refine ext_tl ?_
  have e : tl " " = [32] := by decide +kernel
  rw [tl_append, tl_append, tl_append, tl_append, tl_argsT, tl_argsT, tl_numS, e, List.take_succ, h]
  simp
theorem args_all (x : Str) (ns : List Int) : wordT x ++ argsT ns = reqT (x, ns) := by
  refine ext_tl ?_
  have e : tl " " = [32] := by decide +kernel
  have e2 : (wordT x :: ns.map numS).map tl = tl (wordT x) :: ns.map numI := by simp [tl_numS]
  rw [tl_append, tl_argsT, reqT, tl_Join, e, e2, join_flat]
  simp
  rfl
theorem script_next {rs : List Req} {i : Nat} {r : Req} (h : rs[i]? = some r) : scriptT (rs.take i) ++ (if i = 0 then Str.empty else "; ") ++ reqT r = scriptT (rs.take (i + 1)) := by
  refine ext_tl ?_
  have lt := (List.getElem?_eq_some_iff.mp h).1
  have e : tl "; " = [59, 32] := by decide +kernel
  rw [tl_append, tl_append, scriptT, scriptT, tl_Join, tl_Join, e, List.take_succ, h]
  cases i with
  | zero =>
    rw [if_pos rfl]
    rfl
  | succ i =>
    rw [if_neg (by omega), e]
    show _ = joinL [59, 32] (((rs.take (i + 1) ++ [r]).map reqT).map tl)
    rw [List.map_append, List.map_append]
    have ne : ((rs.take (i + 1)).map reqT).map tl ≠ [] := by
      cases rs with
      | nil => simp at lt
      | cons a b => simp
    exact ((join_snoc [59, 32] (tl (reqT r)) _ ne).trans (List.append_assoc _ _ _).symm).symm
theorem script_empty {rs : List Req} {i : Nat} (hi : i ≤ rs.length) (hw : ∀ r ∈ rs, tl (wordT r.1) ≠ []) : decide (V.str (scriptT (rs.take i)) = V.str "") = decide (i = 0) := by
  cases i with
  | zero => rfl
  | succ i =>
    rw [decide_eq_false (show ¬ i + 1 = 0 by omega)]
    refine decide_eq_false fun z => ?_
    have z2 := congrArg tl (V.str.inj z)
    cases rs with
    | nil => simp at hi
    | cons a b =>
      rw [List.take_succ_cons, scriptT, tl_Join, List.map_cons, List.map_cons, join_flat] at z2
      have z3 : tl (reqT a) = [] := (List.append_eq_nil_iff.mp (z2.trans (by decide +kernel))).1
      rw [reqT, tl_Join, List.map_cons, join_flat] at z3
      exact hw a List.mem_cons_self (List.append_eq_nil_iff.mp z3).1
theorem len_args : ∀ ns : List Int, (∀ n ∈ ns, In60 n) → (argsT ns).length ≤ 62 * ns.length
  | [], _ => Nat.zero_le _
  | n :: r, h => by
    have ih := len_args r fun x hx => h x (List.mem_cons_of_mem _ hx)
    have h1 := numI_le (h n List.mem_cons_self)
    rw [argsT, S_len] at ih ⊢
    rw [List.map_cons, List.flatten_cons, List.length_append, List.length_cons, List.length_cons]
    omega
theorem cut_tail (x : V) (ys : List V) : cutV (x :: ys) (some 1) none = ys := by
  unfold cutV
  rw [HT.sIx_none, show (1 : Int) = ((1 : Nat) : Int) from rfl, HT.sIx_nat]
  have e : min 1 (x :: ys).length = 1 := by
    rw [List.length_cons]
    omega
  rw [e]
  show ys.take (ys.length + 1 - 1) = ys
  rw [Nat.add_sub_cancel, List.take_length]
theorem g_slTl {K : PySem.W.Frag} {a : Addr} {x : V} {ys : List V} {H : Hp} {Q : VK} (h : SqT K H a (x :: ys)) (k : ∀ p H', H p = none → Same H H' → H' p = some (.tup ys) → Q (.ref p) H') : rSlT K (.ref a) (some 1) none H Q := by
  refine ⟨a, x :: ys, rfl, h, fun z => ?_, fun p hp => ?_⟩
  · have z1 := z.1
    rw [show (1 : Int) = ((1 : Nat) : Int) from rfl, HT.sIx_nat, List.length_cons] at z1
    omega
  · rw [cut_tail]
    exact k p _ hp (same_new hp) upd_same
theorem args_nil (F : Str) : F ++ argsT [] = F := by
  refine ext_tl ?_
  rw [tl_append, tl_argsT]
  simp
/-- what a word of a request is made of -/
structure WordF (r : Req) : Prop where
  nums : ∀ n ∈ r.2, In60 n
  few : r.2.length ≤ 2
  low : (tl (wordT r.1)).all (· < 128) = true
  ne : tl (wordT r.1) ≠ []
  short : (wordT r.1).length ≤ 10
  rep : (PySem.reprText r.1).length ≤ 100
  ok : PyData.strOk r.1 = true
theorem wd_read : (tl (wordT "read")).all (· < 128) = true ∧ tl (wordT "read") ≠ [] ∧ (wordT "read").length ≤ 10 ∧ (PySem.reprText "read").length ≤ 100 ∧ PyData.strOk "read" = true := by decide +kernel
theorem wd_values : (tl (wordT "read_values")).all (· < 128) = true ∧ tl (wordT "read_values") ≠ [] ∧ (wordT "read_values").length ≤ 10 ∧ (PySem.reprText "read_values").length ≤ 100 ∧ PyData.strOk "read_values" = true := by decide +kernel
theorem wd_put : (tl (wordT "put")).all (· < 128) = true ∧ tl (wordT "put") ≠ [] ∧ (wordT "put").length ≤ 10 ∧ (PySem.reprText "put").length ≤ 100 ∧ PyData.strOk "put" = true := by decide +kernel
theorem wd_erase : (tl (wordT "erase")).all (· < 128) = true ∧ tl (wordT "erase") ≠ [] ∧ (wordT "erase").length ≤ 10 ∧ (PySem.reprText "erase").length ≤ 100 ∧ PyData.strOk "erase" = true := by decide +kernel
theorem wd_end : (tl (wordT "end")).all (· < 128) = true ∧ tl (wordT "end") ≠ [] ∧ (wordT "end").length ≤ 10 ∧ (PySem.reprText "end").length ≤ 100 ∧ PyData.strOk "end" = true := by decide +kernel
theorem wd_abort : (tl (wordT "abort")).all (· < 128) = true ∧ tl (wordT "abort") ≠ [] ∧ (wordT "abort").length ≤ 10 ∧ (PySem.reprText "abort").length ≤ 100 ∧ PyData.strOk "abort" = true := by decide +kernel
theorem wordF {r : Req} (h : Open r ∨ Last r) : WordF r := by
  obtain ⟨x, ns⟩ := r
  rcases h with ⟨hb, ⟨h | h, a, b, e, le⟩ | ⟨h, a, b, e⟩ | ⟨h, a, e⟩⟩ | ⟨h | h, e⟩ <;> (simp only at h e; subst h e)
  · exact ⟨hb, Nat.le_refl 2, wd_read.1, wd_read.2.1, wd_read.2.2.1, wd_read.2.2.2.1, wd_read.2.2.2.2⟩
  · exact ⟨hb, Nat.le_refl 2, wd_values.1, wd_values.2.1, wd_values.2.2.1, wd_values.2.2.2.1, wd_values.2.2.2.2⟩
  · exact ⟨hb, Nat.le_refl 2, wd_put.1, wd_put.2.1, wd_put.2.2.1, wd_put.2.2.2.1, wd_put.2.2.2.2⟩
  · exact ⟨hb, Nat.le_succ 1, wd_erase.1, wd_erase.2.1, wd_erase.2.2.1, wd_erase.2.2.2.1, wd_erase.2.2.2.2⟩
  · exact ⟨nofun, Nat.zero_le 2, wd_end.1, wd_end.2.1, wd_end.2.2.1, wd_end.2.2.2.1, wd_end.2.2.2.2⟩
  · exact ⟨nofun, Nat.zero_le 2, wd_abort.1, wd_abort.2.1, wd_abort.2.2.1, wd_abort.2.2.2.1, wd_abort.2.2.2.2⟩
theorem numI_low (n : Int) : ∀ c ∈ numI n, c < 128 := by
  intro c hc
  unfold numI at hc
  split at hc
  · rcases List.mem_cons.mp hc with rfl | h
    · decide
    · have := numL_digits _ c h
      omega
  · have := numL_digits _ c hc
    omega
theorem req_low {r : Req} (h : WordF r) : ∀ c ∈ tl (reqT r), c < 128 := by
  intro c hc
  rw [reqT, tl_Join] at hc
  rcases mem_join hc with hc | ⟨p, hp, hc⟩
  · have e : tl " " = [32] := by decide +kernel
    rw [e, List.mem_singleton] at hc
    omega
  · obtain ⟨q, hq, rfl⟩ := List.mem_map.mp hp
    rcases List.mem_cons.mp hq with rfl | hq
    · exact of_decide_eq_true (List.all_eq_true.mp h.low c hc)
    · obtain ⟨n, _, rfl⟩ := List.mem_map.mp hq
      rw [tl_numS] at hc
      exact numI_low n c hc
theorem script_low {rs : List Req} (h : ∀ r ∈ rs, WordF r) : ∀ c ∈ tl (scriptT rs), c < 128 := by
  intro c hc
  rw [scriptT, tl_Join] at hc
  rcases mem_join hc with hc | ⟨p, hp, hc⟩
  · have e : tl "; " = [59, 32] := by decide +kernel
    rw [e] at hc
    simp at hc
    omega
  · obtain ⟨q, hq, rfl⟩ := List.mem_map.mp hp
    obtain ⟨r, hr, rfl⟩ := List.mem_map.mp hq
    exact req_low (h r hr) c hc
theorem fine_req {r : Req} (h : WordF r) : Fine 1 4 (reqD r) := by
  have f := h.few
  refine (fine_tuple (n := 0) (m := 1) fun x hx => ?_).mono (Nat.le_refl _) ?_
  · rcases List.mem_cons.mp hx with rfl | hx
    · exact fine_str h.rep h.ok
    · obtain ⟨n, hn, rfl⟩ := List.mem_map.mp hx
      have b : n.natAbs < 1000000000000000000000000000000000000000000000000000000000000 := h.nums n hn
      exact fine_int (by omega) (by omega)
  · rw [List.length_cons, List.length_map]
    omega
theorem fine_reqs {rs : List Req} (h : ∀ r ∈ rs, WordF r) (hl : rs.length ≤ 8) : Fine 2 33 (.list (rs.map reqD)) := by
  refine (fine_list (m := 4) fun x hx => ?_).mono (Nat.le_refl _) ?_
  · obtain ⟨r, hr, rfl⟩ := List.mem_map.mp hx
    exact fine_req (h r hr)
  · rw [List.length_map]
    omega
/-- two texts in a list may be shown -/
theorem two_texts {p q : Str} (hp : p.length ≤ 2000) (hq : q.length ≤ 2000) (lp : ∀ c ∈ tl p, c < 128) (lq : ∀ c ∈ tl q, c < 128) :
    SeqAt.shaped (.list [.str p, .str q]) = true ∧ (PyData.list [.str p, .str q]).showable = true ∧ (PyData.list [.str p, .str q]).shown.length ≤ sizeLine := by
  have ok : ∀ x : Str, (∀ c ∈ tl x, c < 128) → PyData.strOk x = true := fun x h => by
    unfold PyData.strOk
    rw [← Array.all_toList, List.all_eq_true]
    intro c hc
    have := h c hc
    exact decide_eq_true (by omega)
  have len : ∀ x : Str, (∀ c ∈ tl x, c < 128) → x.length ≤ 2000 → (PySem.reprText x).length ≤ 20002 := fun x h l => by
    have := PySem.StrLaws.reprText_len x fun c hc => Nat.lt_trans (h c hc) (by decide)
    omega
  refine ⟨?_, by simp [PyData.showable, PyData.showableAll], ?_⟩
  · simp [SeqAt.shaped, PyData.canLay0, PyData.canLayAll0, PyData.depth, PyData.depthAll, ok p lp, ok q lq]
  · have h := listText_le (PyData.shownAll [.str p, .str q])
    have a := len p lp hp
    have b := len q lq hq
    have e : piled (PyData.shownAll [.str p, .str q]) ≤ (PySem.reprText p).length + (PySem.reprText q).length + 100 := by
      simp [PyData.shownAll, PyData.shown, piled]
      omega
    rw [sizeLine_eq]
    show (listText (PyData.shownAll [.str p, .str q])).length ≤ _
    omega
theorem WordF.wri {r : Req} (h : WordF r) : Wri r := ⟨h.nums, h.few, h.short⟩
end
end Gk

/-! The request that any text writes, if it writes one -/
namespace Gk
open PySem L2 Gx SX TL
theorem spl_lens (sep : List Nat) : ∀ (l : List Nat) (k : Nat) (acc : List Nat), (∀ p ∈ spl sep k acc l, p.length ≤ acc.length + l.length) ∧ (spl sep k acc l).length ≤ l.length + 1 ∧ spl sep k acc l ≠ []
  | [], k, acc => by
    rw [spl_nil]
    refine ⟨fun p hp => ?_, Nat.le_refl _, by simp⟩
    rw [List.mem_singleton.mp hp]
    exact Nat.le_refl _
  | c :: r, 0, acc => by
    cases h : pre sep (c :: r) with
    | true =>
      rw [spl_hit h]
      obtain ⟨h1, h2, h3⟩ := spl_lens sep r (sep.length - 1) []
      refine ⟨fun p hp => ?_, ?_, by simp⟩
      · rcases List.mem_cons.mp hp with rfl | hp
        · omega
        · have := h1 p hp
          rw [List.length_cons]
          rw [List.length_nil] at this
          omega
      · rw [List.length_cons, List.length_cons]
        omega
    | false =>
      rw [spl_miss h]
      obtain ⟨h1, h2, h3⟩ := spl_lens sep r 0 (acc ++ [c])
      refine ⟨fun p hp => ?_, ?_, h3⟩
      · have := h1 p hp
        rw [List.length_append] at this
        rw [List.length_cons]
        simp only [List.length_cons, List.length_nil] at this
        omega
      · rw [List.length_cons]
        omega
  | c :: r, k + 1, acc => by
    have e : spl sep (k + 1) acc (c :: r) = spl sep k acc r := rfl
    rw [e]
    obtain ⟨h1, h2, h3⟩ := spl_lens sep r k acc
    refine ⟨fun p hp => ?_, ?_, h3⟩
    · have := h1 p hp
      rw [List.length_cons]
      omega
    · rw [List.length_cons]
      omega
/-- a word of a request: its name, how many numbers -/
def nameOf (x : Str) : Option (Str × Nat) := if x = "read" then some ("read", 2) else if x = "values" then some ("read_values", 2) else if x = "put" then some ("put", 2) else if x = "erase" then some ("erase", 1) else none
def allI (as : List (List Nat)) : Option (List Int) := if (as.any fun a => (readI a).isNone) = true then none else some (as.filterMap readI)
def inOrder : List Int → Bool
  | a :: b :: _ => decide (a ≤ b)
  | _ => true
def reqOf (w : Str) (rest : List (List Nat)) : Option Req :=
  if w = "end" ∨ w = "abort" then (if rest = [] then some (w, []) else none)
  else match nameOf w, allI rest with
    | some (nm, c), some ns => if ns.length = c ∧ (w = "read" ∨ w = "values" → inOrder ns = true) then some (nm, ns) else none
    | _, _ => none
def reqI (a : List Nat) : Option Req := match spl [32] 0 [] a with
  | [] => none
  | w :: rest => reqOf (S w) rest
end Gk

/-! Lists of texts as data; a text among two -/
namespace Gx
open PySem L2
section
variable {K : PySem.W.Frag} {H : Hp}
theorem shaped_strs : ∀ (xs : List Str), (∀ x ∈ xs, PyData.strOk x = true) → SeqAt.shaped (.list (xs.map PyData.str)) = true := fun xs h => by
  unfold SeqAt.shaped
  have h1 : PyData.canLayAll0 (xs.map PyData.str) = true := by
    induction xs with
    | nil => simp [PyData.canLayAll0]
    | cons n ns ih =>
      have h2 := ih fun x hx => h x (List.mem_cons_of_mem _ hx)
      have h3 := h n List.mem_cons_self
      simp [PyData.canLayAll0, PyData.canLay0, h2, h3]
  have h2 : PyData.depthAll (xs.map PyData.str) ≤ 0 := depthAll_le fun x hx => by
    obtain ⟨n, _, rfl⟩ := List.mem_map.mp hx
    simp [PyData.depth]
  have h3 : PyData.depthAll (xs.map PyData.str) + 1 ≤ 64 := by omega
  simp [PyData.canLay0, PyData.depth, h1, h3]
theorem dpAll_strs : ∀ (xs : List Str), DpAll K H (xs.map V.str) (xs.map PyData.str)
  | [] => .nil
  | x :: r => .cons (.str x) (dpAll_strs r)
theorem bare_strs (xs : List Str) : bare (.list (xs.map PyData.str)) = true := by
  simp only [bare]
  exact bareAll_iff.mpr fun x hx => by
    obtain ⟨n, _, rfl⟩ := List.mem_map.mp hx
    simp [bare]
theorem dp_strs {p : Addr} {xs : List Str} (h : SqL K H p (xs.map V.str)) : Dp K H (.ref p) (.list (xs.map PyData.str)) := .lst h (dpAll_strs xs)
theorem strs_inj {ns ms : List Str} : PyData.list (ns.map PyData.str) = PyData.list (ms.map PyData.str) ↔ ns = ms := by
  constructor
  · intro h
    injection h with h
    induction ns generalizing ms with
    | nil => cases ms with
      | nil => rfl
      | cons m ms => simp at h
    | cons n ns ih => cases ms with
      | nil => simp at h
      | cons m ms =>
        simp only [List.map_cons, List.cons.injEq, PyData.str.injEq] at h
        rw [h.1, ih h.2]
  · intro h
    rw [h]
theorem eqv_strs (ns ms : List Str) : PyData.eqv (.list (ns.map PyData.str)) (.list (ms.map PyData.str)) = decide (ns = ms) := by
  by_cases h : ns = ms
  · rw [decide_eq_true h, eqv_yes (bare_strs _) (bare_strs _) (by rw [h])]
  · rw [decide_eq_false h, eqv_no (bare_strs _) (bare_strs _) (fun z => h (strs_inj.mp z))]
theorem g_eqS {Q : VK} {p q : Addr} {ns ms : List Str} (h1 : SqL K H p (ns.map V.str)) (h2 : SqL K H q (ms.map V.str)) (o1 : ∀ x ∈ ns, PyData.strOk x = true) (o2 : ∀ x ∈ ms, PyData.strOk x = true) (k : Q (.bl (decide (ns = ms))) H) : rEqD K (.ref p) (.ref q) H Q := by
  refine g_eqD (dp_strs h1) (dp_strs h2) (shaped_strs _ o1) (shaped_strs _ o2) ?_
  rw [eqv_strs]
  exact k
theorem strOk_low {x : Str} (h : ∀ c ∈ TL.tl x, c < 128) : PyData.strOk x = true := by
  unfold PyData.strOk
  rw [← Array.all_toList, List.all_eq_true]
  intro c hc
  have := h c hc
  exact decide_eq_true (by omega)
theorem inV_two (x a b : Str) : inV (.str x) [V.str a, V.str b] = decide (x = a ∨ x = b) := by
  have e : inV (.str x) [V.str a, V.str b] = ((a == x) || ((b == x) || false)) := rfl
  rw [e]
  by_cases h1 : x = a
  · subst h1
    simp
  · by_cases h2 : x = b
    · subst h2
      simp
    · have e1 : (a == x) = false := by simpa using fun z => h1 z.symm
      have e2 : (b == x) = false := by simpa using fun z => h2 z.symm
      rw [e1, e2]
      simp [h1, h2]
end
end Gx
namespace Gk
open PySem L2 Gx SX TL
theorem spl_mem (sep : List Nat) : ∀ (l : List Nat) (k : Nat) (acc : List Nat), ∀ p ∈ spl sep k acc l, ∀ c ∈ p, c ∈ acc ∨ c ∈ l
  | [], k, acc => by
    rw [spl_nil]
    intro p hp c hc
    rw [List.mem_singleton.mp hp] at hc
    exact .inl hc
  | c :: r, 0, acc => by
    intro p hp y hy
    cases h : pre sep (c :: r) with
    | true =>
      rw [spl_hit h] at hp
      rcases List.mem_cons.mp hp with rfl | hp
      · exact .inl hy
      · rcases spl_mem sep r _ [] p hp y hy with z | z
        · cases z
        · exact .inr (List.mem_cons_of_mem _ z)
    | false =>
      rw [spl_miss h] at hp
      rcases spl_mem sep r 0 (acc ++ [c]) p hp y hy with z | z
      · rcases List.mem_append.mp z with z | z
        · exact .inl z
        · rw [List.mem_singleton.mp z]
          exact .inr List.mem_cons_self
      · exact .inr (List.mem_cons_of_mem _ z)
  | c :: r, k + 1, acc => by
    have e : spl sep (k + 1) acc (c :: r) = spl sep k acc r := rfl
    rw [e]
    intro p hp y hy
    rcases spl_mem sep r k acc p hp y hy with z | z
    · exact .inl z
    · exact .inr (List.mem_cons_of_mem _ z)
/-- all signs below 128 -/
def Low (a : List Nat) : Prop := ∀ c ∈ a, c < 128
theorem low_spl {sep a : List Nat} (h : Low a) : ∀ p ∈ spl sep 0 [] a, Low p := fun p hp c hc => by
  rcases spl_mem sep a 0 [] p hp c hc with z | z
  · cases z
  · exact h c z
theorem ok_S {a : List Nat} (h : Low a) : PyData.strOk (S a) = true := strOk_low fun c hc => h c hc
/-- what the tables say of a word of a request -/
structure NameF (K : PySem.W.Frag) (aN aC : Addr) (z nm : Str) (c : Nat) : Prop where
  name : ∃ t, PySem.W.nsIn K aN z = some (some (.str nm t))
  count : ∃ t, PySem.W.nsIn K aC z = some (some (.int c t))
  two : (z = "read" ∨ z = "values") → c = 2
  le : c ≤ 2
theorem nameF {K : PySem.W.Frag} {w : World} {mg : Str → Option Value} {aL aN aC : Addr} {eN eC : Array DictEntry} {mN mC : Nat} (W : Words K w mg aL aN aC eN eC mN mC) {z nm : Str} {c : Nat} (h : nameOf z = some (nm, c)) : NameF K aN aC z nm c := by
  unfold nameOf at h
  split at h
  · rename_i e
    obtain ⟨rfl, rfl⟩ := Prod.mk.inj (Option.some.inj h)
    subst e
    exact ⟨W.n1, W.c1, fun _ => rfl, Nat.le_refl 2⟩
  split at h
  · rename_i e
    obtain ⟨rfl, rfl⟩ := Prod.mk.inj (Option.some.inj h)
    subst e
    exact ⟨W.n2, W.c2, fun _ => rfl, Nat.le_refl 2⟩
  split at h
  · rename_i e
    obtain ⟨rfl, rfl⟩ := Prod.mk.inj (Option.some.inj h)
    subst e
    refine ⟨W.n3, W.c3, fun z => ?_, Nat.le_refl 2⟩
    rcases z with z | z <;> exact absurd z (by decide +kernel)
  split at h
  · rename_i e
    obtain ⟨rfl, rfl⟩ := Prod.mk.inj (Option.some.inj h)
    subst e
    refine ⟨W.n4, W.c4, fun z => ?_, Nat.le_succ 1⟩
    rcases z with z | z <;> exact absurd z (by decide +kernel)
  · cases h
end Gk

/-! Errors: defs that raise and are called, by place and by keyword; what is asked of a caught error; raising one with a place -/
namespace Gx
open PySem L2 PySem.Spec PyProof.Rows
/-- what an own class of errors says, so that a caught one may be asked -/
structure ErrC (K : PySem.W.Frag) (D : Addr) : Prop where
  cl : (PySem.W.clsIn K D).isSome = true
  hg : PySem.W.findIn K (.ref D) "__getattribute__" = some (some (.builtin "BaseException.__getattribute__"))
  hk : PySem.W.findIn K (.ref D) "__getattr__" = some none
  hs : PySem.W.subIn K (.ref D) (.type "BaseException") = some true
  hd : PySem.W.hasDictIn K D = true
  ha : PySem.W.findIn K (.ref D) "__class__" = some (some (.builtin "object.__class__"))
  hn : PySem.W.specialIn K (.builtin "object.__class__") "__get__" = some (some (.builtin "getset_descriptor.__get__"))
  ht : PySem.W.takesIn K (.builtin "object.__class__") = some true
  hm : PySem.W.mroIn K D (.type "object") = some true
/-- isinstance(e, c), e a caught error that has its dict -/
def rIsD (K : PySem.W.Frag) (a : Addr) (cls : Value) (d : Option Addr) : List V → Hp → VK → Prop := fun xs H Q => ∃ (D dd : Addr) (fs : List (Str × V)) (c : V) (b : Bool), xs = [.ref a, c] ∧ cls = .ref D ∧ d = some dd ∧ H dd = some (.xd fs) ∧ ErrC K D ∧
  ((∃ u, ClsV c u ∧ PySem.W.kitOne K (.ref D) u = some b) ∨ ∃ tp cs us, c = .ref tp ∧ H tp = some (.tup cs) ∧ Paired ClsV cs us ∧ PySem.W.kitAny K (.ref D) us = some b) ∧ Q (.bl b) H
theorem err_inst {X : Cx} {pins : List (Addr × Obj)} {σ : L2.St} {H : Hp} {s : Shared} {a D dd : Addr} {oe : Obj} {pn : List (Addr × Obj)} {fs : List (Str × V)} (I : Inv (X.suite a ((a, oe) :: pn)) pins σ H s) (hz : Zc (.ref D) (some dd) oe) (hf : ∃ vs, oe.data = .fields vs) (ed : H dd = some (.xd fs)) :
    ∃ (od : Obj) (mA : Str → Option Value), PySem.W.InstAt s.heap a oe D (some od) ∧ (∀ name, PySem.W.lookIn name od = some (mA name)) ∧ ∀ f, RelO (fs.lookup f) (mA f) := by
  obtain ⟨ha, _⟩ := I.pin (a, oe) (List.mem_append_left _ List.mem_cons_self)
  obtain ⟨vs, hd⟩ := hf
  have hx : ObjOk X.prog X.w H s.heap dd (.xd fs) := I.hok dd _ ed
  obtain ⟨mA, hns, hr⟩ := hx
  obtain ⟨od, ho, hl⟩ := lookIn_ns hns
  exact ⟨od, mA, ⟨ha, hz.1, by unfold PySem.W.notCls; rw [hd] <;> rfl, by rw [hz.2]; exact ho⟩, hl, hr⟩
theorem call_isD {X : Cx} {a : Addr} {oe : Obj} {cls : Value} {d : Option Addr} {pn : List (Addr × Obj)} (hz : Zc cls d oe) (hf : ∃ vs, oe.data = .fields vs) : CallR (X.suite a ((a, oe) :: pn)) (.builtin "isinstance") (rIsD X.K a cls d) := by
  intro pins s σ H xs us Q I r h
  obtain ⟨D, dd, fs, c, b, rfl, rfl, rfl, ed, C, hc, q⟩ := h
  obtain ⟨u1, u2, rfl, r1, r2⟩ := vals2 r
  cases (show u1 = Value.ref a from r1)
  obtain ⟨od, mA, J, _, _⟩ := err_inst I hz hf ed
  have Z := PySem.W.kitx_exc (x := a) (ox := oe) (od := some od) C.cl C.hg C.hk C.hs C.ha C.hn C.ht C.hm
  rcases hc with ⟨u, k, e⟩ | ⟨tp, cs, ws, rfl, hT, k, e⟩
  · have e2 := k.eq r2
    subst e2
    exact PySem.W.kia_one Z I.kIn J e (fun z => nomatch z) fun tk => ⟨.bl b, H, I.tok tk, rfl, q⟩
  · cases (show u2 = Value.ref tp from r2)
    obtain ⟨_, its, rv, o, h1, h2, n, h3⟩ := (show ObjOk X.prog X.w H s.heap tp (.tup cs) from I.hok tp _ hT)
    have e3 := ClsV.all k rv
    subst e3
    obtain ⟨oc, od', dt, sl⟩ := o
    simp only at h2 h3
    subst h2 h3
    exact PySem.W.kia_tup Z I.kIn J h1 e (fun z => nomatch z) fun tk => ⟨.bl b, H, I.tok tk, rfl, q⟩
/-- e.f, e a caught error -/
def tErr (K : PySem.W.Frag) (a : Addr) (cls : Value) (d : Option Addr) (f : Str) (te : TE) : TE := fun σ H Q => te σ H fun x H1 => x = .ref a ∧ ∃ (D dd : Addr) (fs : List (Str × V)) (v : V), cls = .ref D ∧ d = some dd ∧ H1 dd = some (.xd fs) ∧ fs.lookup f = some v ∧ ErrC K D ∧ PySem.W.findIn K (.ref D) f = some none ∧ Q v H1
theorem pe_err {X : Cx} {a : Addr} {oe : Obj} {cls : Value} {d : Option Addr} {pn : List (Addr × Obj)} {e : Expr} {te : TE} {f : Str} {pos : Pos} (hz : Zc cls d oe) (hf : ∃ vs, oe.data = .fields vs) (he : PE (X.suite a ((a, oe) :: pn)) e te)
    (hb : attributeBase e f X.env (eval e X.env) = eval e X.env := by rfl) : PE (X.suite a ((a, oe) :: pn)) (.Attribute e f pos) (tErr X.K a cls d f te) := by
  refine ⟨fun pins s σ H Q I h => ?_⟩
  refine attr_of hb (thn (he.run pins s σ H _ I h) fun u s1 hh => ?_)
  obtain ⟨x, H1, I1, rx, ex, D, dd, fs, v, ec, edd, ed, hl, C, no, q⟩ := hh
  subst ex
  obtain rfl : u = Value.ref a := rx
  subst ec
  subst edd
  obtain ⟨od, mA, J, lk, hr⟩ := err_inst I1 hz hf ed
  obtain ⟨u, hu, ru⟩ := RelO.some_of (v := v) (o := mA f) (by rw [← hl]; exact hr f)
  exact PySem.HandSPX.exc_get I1.kIn J C.hg C.hk C.hs (PySem.W.findObj_own C.hd no rfl (by rw [lk, hu])) (handed_of ru) ⟨v, H1, I1.tok _, ru, q⟩
section
variable {X : Cx} {e : Expr} {es : List Expr} {x : Str} {ta : TA} {p pos : Pos}
/-- a def that may raise, called by its name -/
structure CalX (P : Program) (w : World) (K : PySem.W.Frag) (mg : Str → Option Value) (base : Heap) (k : Nat) (x : Str) (sp : Sp) : Prop where
  ex : ∃ (f : Addr) (fd : FuncData) (ps : List Str), FnOk P w K mg base (L2.CX P w) k f fd ps sp ∧ mg x = some (.ref f) ∧ PySem.W.keepIn K (.ref f) = true ∧ Binds K fd ps []
theorem pe_cX {k j : Nat} {sp : Sp} {E : L2.St → XK} (c : CalX X.prog X.w X.K X.mg X.base k x sp) (hr : Room j X.A) (hk : k ≤ j) (hg : Gl X x) (hx : ∀ σ, PassesAt (L2.CX X.prog X.w) X σ (E σ)) (ha : PA X (e :: es) ta)
    (hdb : (x == ("__debug__" : Str)) = false := by decide) (he : starEach (e :: es) X.env = (false, eval e X.env) :: starEach es X.env := by rfl) (hpl : (backTo pos (starEach es X.env)).any (·.1) = false := by rfl) : PE X (.Call (.Name x p) (e :: es) [] pos) (tCallS sp E ta) := by
  obtain ⟨f, fd, ps, F, named, kept, b⟩ := c.ex
  exact pe_callS F (hr.mono hk) hg named kept b hx ha hdb he hpl
/-- .. with keywords alone -/
structure CalKX (P : Program) (w : World) (K : PySem.W.Frag) (mg : Str → Option Value) (base : Heap) (k : Nat) (x : Str) (ks : List Str) (gV : List V → List V → List V) (sp : Sp) : Prop where
  ex : ∃ (f : Addr) (fd : FuncData) (ps : List Str) (g : List Value → List Value → List Value), FnOk P w K mg base (L2.CX P w) k f fd ps sp ∧ mg x = some (.ref f) ∧ PySem.W.keepIn K (.ref f) = true ∧ KBinds K fd ps ks g gV
theorem run_fnkS {pins : List (Addr × Obj)} {σ : L2.St} {H : Hp} {s : Shared} {Q : VK} {us ws : List Value} {vs zs : List V} {CX : CXT} {k : Nat} {f : Addr} {fd : FuncData} {ps ks : List Str} {sp : Sp} {g : List Value → List Value → List Value} {gV : List V → List V → List V} {E : L2.St → XK}
    (F : FnOk X.prog X.w X.K X.mg X.base CX k f fd ps sp) (hr : Room k X.A) (hb : KBinds X.K fd ps ks g gV) (hx : PassesAt CX X σ (E σ))
    (I : Inv X pins σ H s) (r : Vals vs us) (rz : Vals zs ws) (h : sp (gV vs zs) H Q (E σ)) : wpAny (model X.prog X.w) X.A (call (.ref f) us (ks.zip ws)) (EP X pins σ Q) X.xe s := by
  have r2 := hb.rel r rz
  have hl : (g us ws).length = ps.length := by rw [← r2.length]; exact F.len _ _ _ _ h
  refine wpAny_call (codeAny_mono (F.run X.A X.stack s H ⟨us, ks.zip ws⟩ (g us ws) (gV vs zs) Q (E σ) hr I.env0 (hb.to s us ws I.kIn hl) r2 h) fun r s' hq => ?_)
  cases r with
  | error e => exact hx pins H s e s' I hq
  | ok fl =>
    cases fl with
    | ret u => exact I.after hq
    | next => exact False.elim hq
    | brk => exact False.elim hq
    | cont => exact False.elim hq
def tCallKX (sp : Sp) (gV : List V → List V → List V) (E : L2.St → XK) (tk : TA) : TE := fun σ H Q => tk σ H fun zs H2 => sp (gV [] zs) H2 Q (E σ)
theorem pe_cKX {k j : Nat} {ks : List Str} {gV : List V → List V → List V} {sp : Sp} {kws : List Keyword} {tk : TA} {E : L2.St → XK} (c : CalKX X.prog X.w X.K X.mg X.base k x ks gV sp) (hr : Room j X.A) (hk : k ≤ j) (hg : Gl X x) (hx : ∀ σ, PassesAt (L2.CX X.prog X.w) X σ (E σ)) (hkw : PK X kws tk)
    (hdb : (x == ("__debug__" : Str)) = false := by decide) (hall : (backToKw pos (keywordEach kws X.env)).all (·.1.isSome) = true := by rfl) (hks : (backToKw pos (keywordEach kws X.env)).filterMap (·.1) = ks := by rfl)
    (hpl : ((backTo pos (starEach [] X.env)).any (·.1) || (backToKw pos (keywordEach kws X.env)).any (·.1.isNone)) = false := by rfl) : PE X (.Call (.Name x p) [] kws pos) (tCallKX sp gV E tk) := by
  obtain ⟨f, fd, ps, g, F, named, kept, kb⟩ := c.ex
  refine ⟨fun pins s σ H Q I h => wpAny_Call_Name_kw (ld_glob I hg named ?_ hdb)⟩
  refine PySem.W.callWith_KW0 (h₀ := X.base) I.ok.mod.kin kept hall (thn (hkw.run pos pins s σ H _ I h) fun ws s2 got => ?_) hpl
  obtain ⟨zs, H2, I2, rz, q2⟩ := got
  refine ⟨I2.kIn, ?_⟩
  rw [hks]
  exact run_fnkS (us := []) (vs := []) F (hr.mono hk) kb (hx σ) I2 .nil rz q2
end
/-- membership in a tuple of data -/
def rInDT (K : PySem.W.Frag) : R2 := fun x y H Q => ∃ d ds, Dp K H x d ∧ Dp K H y (.tuple ds) ∧ SeqAt.shaped d = true ∧ SeqAt.shaped (.tuple ds) = true ∧ d.depth ≤ 60 ∧ Q (.bl (ds.any fun z => PyData.eqv z d)) H
theorem op_inDT {X : Cx} (hu : X.A.units + 64 < cLine) : OpR X (compareOp .In) (rInDT X.K) := by
  intro pins s σ H x y v u Q I rx ry h
  obtain ⟨d, ds, hd, he, sd, se, dd, q⟩ := h
  obtain ⟨as, r1⟩ := Dp.reads I d x v hd rx
  obtain ⟨bs, r2⟩ := Dp.reads I (.tuple ds) y u he ry
  exact SeqAt.in_tuple_reads r2 r1 (SeqAt.canLay_of_shaped se) (SeqAt.canLay_of_shaped sd) (by omega) ⟨.bl _, H, I, rfl, q⟩
section
variable {σ : L2.St} {H : Hp} {Q : VK} {K : PySem.W.Frag} {ta tk : TA} {te : TE} {D : Ends}
theorem g_cX {sp : Sp} {E : L2.St → XK} (q : ta σ H fun vs H1 => sp vs H1 Q (E σ)) : tCallS sp E ta σ H Q := q
theorem g_cKX {sp : Sp} {gV : List V → List V → List V} {E : L2.St → XK} (q : tk σ H fun zs H2 => sp (gV [] zs) H2 Q (E σ)) : tCallKX sp gV E tk σ H Q := q
theorem g_err {a : Addr} {cls : Value} {d : Option Addr} {f : Str} (q : te σ H fun x H1 => x = .ref a ∧ ∃ (D dd : Addr) (fs : List (Str × V)) (v : V), cls = .ref D ∧ d = some dd ∧ H1 dd = some (.xd fs) ∧ fs.lookup f = some v ∧ ErrC K D ∧ PySem.W.findIn K (.ref D) f = some none ∧ Q v H1) : tErr K a cls d f te σ H Q := q
end
end Gx

/-! Membership in a dict; steps for dicts, for walks over texts as lists of signs -/
namespace Gx
open PySem L2 PySem.Spec PyProof.Rows SX TL
section
variable {X : Cx}
def rDIn (neg : Bool) : R2 := fun y x H Q => ∃ a o, x = .ref a ∧ DGet H a y o ∧ Q (.bl (if neg = true then !o.isSome else o.isSome)) H
theorem op_in_dict (hu : X.A.units + 1 < cLine) : OpR X (compareOp .In) (rDIn false) := by
  intro pins s σ H y x v u Q I ry rx h
  obtain ⟨a, ov, rfl, g, q⟩ := h
  cases rx
  exact d_in hu I g ry fun s3 I3 => ⟨.bl ov.isSome, H, I3, rfl, q⟩
theorem op_notIn_dict (hu : X.A.units + 1 < cLine) : OpR X (compareOp .NotIn) (rDIn true) := by
  intro pins s σ H y x v u Q I ry rx h
  obtain ⟨a, ov, rfl, g, q⟩ := h
  cases rx
  exact d_notIn hu I g ry fun s3 I3 => ⟨.bl (!ov.isSome), H, I3, rfl, q⟩
end
section
variable {σ : L2.St} {H : Hp} {Q : VK} {K : PySem.W.Frag} {J : It} {n : Nat} {te td ty : TE}
theorem src_strL {a : List Nat} {H1 : Hp} : Src (Its (S a)) H1 (a.map fun c => V.str (S [c])).length (fun i v _ => (a.map fun c => V.str (S [c]))[i]? = some v) := by
  have e : (a.map fun c => V.str (S [c])).length = (S a).cps.size := by rw [List.length_map]; exact (S_len a).symm
  rw [e]
  intro i H s
  refine ⟨fun hi => ⟨hi, fun v H' y => ?_⟩, fun hi => hi⟩
  obtain ⟨rfl, c, hc, rfl⟩ := y
  refine ⟨Same.refl _, ?_⟩
  have h2 : a[i]? = some c := by simpa [S] using hc
  show (a.map fun c => V.str (S [c]))[i]? = some _
  rw [List.getElem?_map, h2]
  rfl
theorem starts_minus (a : List Nat) : Txt.startswith (S a) "-" = decide (a.take 1 = [45]) := by
  unfold Txt.startswith Builtin.Str.subAt
  have e1 : (Str.ofString "-").length = 1 := rfl
  have e2 : (Str.ofString "-").cps = #[45] := by decide +kernel
  rw [e1, e2, S_len]
  cases a with
  | nil => rfl
  | cons c r =>
    have e3 : (S (c :: r)).cps.extract 0 (0 + 1) = #[c] := by
      apply Array.ext'
      simp [S]
    rw [e3]
    have l : decide (0 + 1 ≤ (c :: r).length) = true := decide_eq_true (by rw [List.length_cons]; omega)
    rw [l, Bool.true_and]
    by_cases h : c = 45
    · subst h
      rfl
    · rw [decide_eq_false (show ¬ List.take 1 (c :: r) = [45] from fun z => h (List.cons.inj z).1)]
      have : ¬ #[c] = #[45] := fun z => h (by simpa using z)
      simpa using this
theorem g_neS {p q : Addr} {ns ms : List Str} (h1 : SqL K H p (ns.map V.str)) (h2 : SqL K H q (ms.map V.str)) (o1 : ∀ x ∈ ns, PyData.strOk x = true) (o2 : ∀ x ∈ ms, PyData.strOk x = true) (k : Q (.bl (!decide (ns = ms))) H) : rNeD K (.ref p) (.ref q) H Q := by
  refine g_neD (dp_strs h1) (dp_strs h2) (shaped_strs _ o1) (shaped_strs _ o2) ?_
  rw [eqv_strs]
  exact k
theorem g_disp {trs : List (TE × TE)} (q : ∀ p, H p = none → tPairs trs σ (upd H p (.dK [])) fun ps H2 => H2 p = some (.dK []) ∧ ∃ kvs : List (Key × V), ps = kvs.map (fun kv => (kV kv.1, kv.2)) ∧ kvs.length ≤ 15 ∧ Q (.ref p) (upd H2 p (.dK (mergeK [] kvs)))) : tDisp trs σ H Q := q
theorem g_dget (q : td σ H fun x H1 => ty σ H1 fun y H2 => ∃ a v, x = .ref a ∧ DGet H2 a y (some v) ∧ Q v H2) : tDGet td ty σ H Q := q
end
end Gx

/-! The script that any text writes, or the place where it fails -/
namespace Gk
open PySem L2 Gx SX TL
def isLast (r : Req) : Bool := decide (r.1 = "end" ∨ r.1 = "abort")
/-- requests read so far, whether the last one closed: the place of the first wrong one, or the script -/
def walkR : Nat → Bool → List Req → List (List Nat) → Except Nat (List Req)
  | i, c, rs, [] => if c = true then .ok rs else .error i
  | i, c, rs, p :: ps => match reqI p with
    | none => .error i
    | some r => if c = true ∨ i = 8 then .error i else walkR (i + 1) (isLast r) (rs ++ [r]) ps
theorem walkR_none {i : Nat} {c : Bool} {rs : List Req} {p : List Nat} {ps : List (List Nat)} (h : reqI p = none) : walkR i c rs (p :: ps) = .error i := by
  unfold walkR
  rw [h]
theorem walkR_some {i : Nat} {c : Bool} {rs : List Req} {p : List Nat} {ps : List (List Nat)} {r : Req} (h : reqI p = some r) : walkR i c rs (p :: ps) = if c = true ∨ i = 8 then .error i else walkR (i + 1) (isLast r) (rs ++ [r]) ps := by
  rw [walkR, h]
theorem walkR_nil {i : Nat} {c : Bool} {rs : List Req} : walkR i c rs [] = if c = true then .ok rs else .error i := rfl
def readS (a : List Nat) : Except Nat (List Req) := walkR 0 false [] (spl [59, 32] 0 [] a)
/-- a request that was read -/
def ReadR (r : Req) : Prop := ∃ p, reqI p = some r
end Gk

/-! What was read is what stands there -/
namespace Gk
open PySem L2 Gx SX TL
theorem pre_split {sep l : List Nat} (h : pre sep l = true) : l = sep ++ l.drop sep.length := by
  have e : l.take sep.length = sep := eq_of_beq h
  calc l = l.take sep.length ++ l.drop sep.length := (List.take_append_drop _ _).symm
    _ = _ := by rw [e]
theorem join_cons (sep p : List Nat) {ps : List (List Nat)} (h : ps ≠ []) : joinL sep (p :: ps) = p ++ (sep ++ joinL sep ps) := by
  cases ps with
  | nil => exact absurd rfl h
  | cons q r => rfl
theorem join_spl {sep : List Nat} (hs : sep ≠ []) : ∀ (l : List Nat) (k : Nat) (acc : List Nat), joinL sep (spl sep k acc l) = acc ++ l.drop k
  | [], k, acc => by
    rw [spl_nil, List.drop_nil, List.append_nil]
    rfl
  | c :: r, 0, acc => by
    cases h : pre sep (c :: r) with
    | true =>
      rw [spl_hit h, join_cons sep acc (spl_lens sep r _ []).2.2, join_spl hs r (sep.length - 1) [], List.nil_append, List.drop_zero]
      have e := pre_split h
      have l1 : 0 < sep.length := List.length_pos_iff.mpr hs
      have e2 : (c :: r).drop sep.length = r.drop (sep.length - 1) := by
        obtain ⟨m, hm⟩ : ∃ m, sep.length = m + 1 := ⟨sep.length - 1, by omega⟩
        rw [hm]
        rfl
      rw [← e2, ← e]
    | false =>
      rw [spl_miss h, join_spl hs r 0 (acc ++ [c]), List.drop_zero, List.drop_zero, List.append_assoc]
      rfl
  | c :: r, k + 1, acc => by
    have e : spl sep (k + 1) acc (c :: r) = spl sep k acc r := rfl
    rw [e, join_spl hs r k acc]
    rfl
theorem join_spl0 {sep : List Nat} (hs : sep ≠ []) (a : List Nat) : joinL sep (spl sep 0 [] a) = a := by
  rw [join_spl hs a 0 []]
  rfl
theorem digs_back {cs : List Nat} (hd : NumText.AllDigits cs) (h0 : cs ≠ []) (h1 : cs = [48] ∨ cs.head? ≠ some 48) : numL (NumText.digitsVal cs) = cs := by
  have key : Nat.toDigits 10 (NumText.digitsVal cs) = cs.map Char.ofNat := by
    cases cs with
    | nil => exact absurd rfl h0
    | cons c r =>
      refine NumText.toDigits_digitsVal r.length (c :: r) rfl hd ?_
      rcases h1 with h1 | h1
      · obtain ⟨rfl, rfl⟩ := List.cons.inj h1
        exact .inl rfl
      · refine .inr ⟨c, r, rfl, ?_⟩
        have := hd c List.mem_cons_self
        have : c ≠ 48 := fun z => h1 (by rw [z]; rfl)
        omega
  unfold numL
  rw [key, List.map_map]
  have : ∀ c ∈ cs, (Char.toNat ∘ Char.ofNat) c = c := fun c hc => by
    have := hd c hc
    show (Char.ofNat c).toNat = c
    have v : c.isValidChar := .inl (by omega)
    simp [Char.ofNat, v, Char.toNat, Char.ofNatAux]
  rw [List.map_congr_left this]
  exact List.map_id' cs
theorem val_lt {cs : List Nat} (hd : NumText.AllDigits cs) : NumText.digitsVal cs < 10 ^ cs.length := by
  have key : ∀ (cs : List Nat) (m : Nat), NumText.AllDigits cs → cs.foldl (fun acc c => acc * 10 + (c - 48)) m < (m + 1) * 10 ^ cs.length := by
    intro cs
    induction cs with
    | nil =>
      intro m _
      simp
    | cons c r ih =>
      intro m h
      have hc := h c List.mem_cons_self
      have h2 := ih (m * 10 + (c - 48)) fun x hx => h x (List.mem_cons_of_mem _ hx)
      rw [List.foldl_cons, List.length_cons, Nat.pow_succ]
      refine Nat.lt_of_lt_of_le h2 ?_
      have e : (m + 1) * (10 ^ r.length * 10) = (m * 10 + 10) * 10 ^ r.length := by
        rw [Nat.mul_comm (10 ^ r.length) 10, ← Nat.mul_assoc, Nat.add_mul m 1 10]
      rw [e]
      exact Nat.mul_le_mul_right _ (by omega)
  have h := key cs 0 hd
  unfold NumText.digitsVal
  simpa using h
/-- a good text of a number is the number's own text -/
theorem num_back {a : List Nat} (h : goodI a = true) : numI (valI a) = a ∧ In60 (valI a) := by
  unfold goodI at h
  rw [Bool.and_eq_true, Bool.and_eq_true, Bool.and_eq_true, decide_eq_true_eq, decide_eq_true_eq] at h
  obtain ⟨⟨⟨h1, h2⟩, h3⟩, h4⟩ := h
  have hd := all_dig h3
  have ne : digs a ≠ [] := fun z => by
    rw [z] at h1
    cases h1
  have lt : NumText.digitsVal (digs a) < 10 ^ 60 := Nat.lt_of_lt_of_le (val_lt hd) (Nat.pow_le_pow_right (by decide) h2)
  have h5 : (digs a).head? = some 48 → a = [48] := fun z => by
    rw [z] at h4
    simpa using h4
  by_cases c : a.take 1 = [45]
  · have e : digs a = a.drop 1 := if_pos c
    have ea : a = 45 :: digs a := by
      rw [e]
      cases a with
      | nil => cases c
      | cons x r =>
        have hx : x = 45 := (List.cons.inj c).1
        subst hx
        rfl
    have nz : (digs a).head? ≠ some 48 := fun z => by
      have := h5 z
      rw [this] at c
      exact absurd c (by decide)
    have ev : valI a = -((NumText.digitsVal (digs a) : Nat) : Int) := by
      unfold valI
      rw [if_pos c, e]
    have pos : 0 < NumText.digitsVal (digs a) := by
      cases q : digs a with
      | nil => exact absurd q ne
      | cons x r =>
        rw [q] at nz hd
        have := hd x List.mem_cons_self
        have : x ≠ 48 := fun z => nz (by rw [z]; rfl)
        exact NumText.digitsVal_pos (by omega)
    refine ⟨?_, ?_⟩
    · unfold numI
      rw [ev, if_pos (by omega)]
      have e2 : (-((NumText.digitsVal (digs a) : Nat) : Int)).natAbs = NumText.digitsVal (digs a) := by omega
      rw [e2, digs_back hd ne (.inr nz)]
      exact ea.symm
    · unfold In60
      rw [ev]
      have e2 : (-((NumText.digitsVal (digs a) : Nat) : Int)).natAbs = NumText.digitsVal (digs a) := by omega
      rw [e2]
      exact Nat.lt_of_lt_of_le lt (by decide)
  · have e : digs a = a := if_neg c
    rw [e] at hd ne lt h5
    have ev : valI a = ((NumText.digitsVal a : Nat) : Int) := by
      unfold valI
      rw [if_neg c]
    refine ⟨?_, ?_⟩
    · unfold numI
      rw [ev, if_neg (by omega)]
      show numL (NumText.digitsVal a) = a
      refine digs_back hd ne ?_
      by_cases z : a.head? = some 48
      · exact .inl (h5 z)
      · exact .inr z
    · unfold In60
      rw [ev]
      show NumText.digitsVal a < _
      exact Nat.lt_of_lt_of_le lt (by decide)
theorem read_back {a : List Nat} {n : Int} (h : readI a = some n) : numS n = S a ∧ In60 n := by
  unfold readI at h
  split at h
  · rename_i g
    obtain rfl := Option.some.inj h
    obtain ⟨h1, h2⟩ := num_back g
    exact ⟨by rw [numS_S, h1], h2⟩
  · cases h
theorem reads_back : ∀ {as : List (List Nat)} {ns : List Int}, as.map readI = ns.map some → ns.map numS = as.map S ∧ ∀ n ∈ ns, In60 n
  | [], [], _ => ⟨rfl, nofun⟩
  | [], _ :: _, h => by cases h
  | _ :: _, [], h => by cases h
  | a :: as, n :: ns, h => by
    obtain ⟨h1, h2⟩ := List.cons.inj h
    obtain ⟨e1, b1⟩ := read_back h1
    obtain ⟨e2, b2⟩ := reads_back h2
    refine ⟨by rw [List.map_cons, List.map_cons, e1, e2], fun x hx => ?_⟩
    rcases List.mem_cons.mp hx with rfl | hx
    · exact b1
    · exact b2 x hx
theorem allI_back {as : List (List Nat)} {ns : List Int} (h : allI as = some ns) : as.map readI = ns.map some := by
  unfold allI at h
  split at h
  · cases h
  · rename_i g
    obtain rfl := Option.some.inj h
    have key : ∀ as : List (List Nat), (as.any fun a => (readI a).isNone) = false → as.map readI = (as.filterMap readI).map some := by
      intro as
      induction as with
      | nil => intro _; rfl
      | cons a r ih =>
        intro h
        rw [List.any_cons, Bool.or_eq_false_iff] at h
        cases q : readI a with
        | none =>
          rw [q] at h
          exact absurd h.1 (by decide)
        | some n => rw [List.map_cons, List.filterMap_cons, q, ih h.2]; rfl
    exact key as (by simpa using g)
/-- a request that was read: one as it may be written, its text what was read -/
structure Back (p : List Nat) (r : Req) : Prop where
  ok : Open r ∨ Last r
  text : reqT r = S p
  last : isLast r = decide (S p = "end" ∨ S p = "abort")
theorem S_tl (x : Str) : S (tl x) = x := rfl
theorem join_S (ps : List (List Nat)) : Txt.join " " (ps.map S) = S (joinL [32] ps) := by
  refine ext_tl ?_
  rw [tl_Join, List.map_map]
  have e : tl " " = [32] := by decide +kernel
  have e2 : ps.map (tl ∘ S) = ps := List.map_id'' (fun _ => rfl) ps
  rw [e, e2]
theorem join_S2 (ps : List (List Nat)) : Txt.join "; " (ps.map S) = S (joinL [59, 32] ps) := by
  refine ext_tl ?_
  rw [tl_Join, List.map_map]
  have e : tl "; " = [59, 32] := by decide +kernel
  have e2 : ps.map (tl ∘ S) = ps := List.map_id'' (fun _ => rfl) ps
  rw [e, e2]
theorem word_back {z nm : Str} {c : Nat} (h : nameOf z = some (nm, c)) : wordT nm = z ∧ isLast (nm, ([] : List Int)) = false ∧ ¬ (z = "end" ∨ z = "abort") ∧ ((nm = "read" ∨ nm = "read_values") ∧ c = 2 ∧ (z = "read" ∨ z = "values") ∨ nm = "put" ∧ c = 2 ∨ nm = "erase" ∧ c = 1) := by
  unfold nameOf at h
  split at h
  · rename_i e
    obtain ⟨rfl, rfl⟩ := Prod.mk.inj (Option.some.inj h)
    subst e
    exact ⟨by decide +kernel, by decide +kernel, by decide +kernel, .inl ⟨.inl rfl, rfl, .inl rfl⟩⟩
  split at h
  · rename_i e
    obtain ⟨rfl, rfl⟩ := Prod.mk.inj (Option.some.inj h)
    subst e
    exact ⟨by decide +kernel, by decide +kernel, by decide +kernel, .inl ⟨.inr rfl, rfl, .inr rfl⟩⟩
  split at h
  · rename_i e
    obtain ⟨rfl, rfl⟩ := Prod.mk.inj (Option.some.inj h)
    subst e
    exact ⟨by decide +kernel, by decide +kernel, by decide +kernel, .inr (.inl ⟨rfl, rfl⟩)⟩
  split at h
  · rename_i e
    obtain ⟨rfl, rfl⟩ := Prod.mk.inj (Option.some.inj h)
    subst e
    exact ⟨by decide +kernel, by decide +kernel, by decide +kernel, .inr (.inr ⟨rfl, rfl⟩)⟩
  · cases h
theorem last_word {z : Str} (h : z = "end" ∨ z = "abort") : wordT z = z := by
  rcases h with rfl | rfl <;> decide +kernel
theorem spl_free : ∀ (l acc : List Nat), (∀ c ∈ l, c ≠ 32) → spl [32] 0 acc l = [acc ++ l]
  | [], acc, _ => by rw [spl_nil, List.append_nil]
  | c :: r, acc, h => by
    have h1 : pre [32] (c :: r) = false := by
      have := h c List.mem_cons_self
      show ((c :: r).take 1 == [32]) = false
      simp [this]
    rw [spl_miss h1, spl_free r (acc ++ [c]) fun x hx => h x (List.mem_cons_of_mem _ hx), List.append_assoc]
    rfl
theorem last_split {p : List Nat} (h : S p = "end" ∨ S p = "abort") : spl [32] 0 [] p = [p] := by
  rcases h with h | h
  · have e : p = tl "end" := congrArg tl h
    rw [spl_free p [] (by rw [e]; decide +kernel)]
    rfl
  · have e : p = tl "abort" := congrArg tl h
    rw [spl_free p [] (by rw [e]; decide +kernel)]
    rfl
theorem req_back {p : List Nat} {r : Req} (h : reqI p = some r) : Back p r := by
  have hj := join_spl0 (sep := [32]) (by simp) p
  unfold reqI at h
  cases q : spl [32] 0 [] p with
  | nil => exact absurd q (spl_lens [32] p 0 []).2.2
  | cons x rest =>
    rw [q] at h hj
    simp only at h
    unfold reqOf at h
    split at h
    · rename_i c1
      split at h
      · rename_i rn
        subst rn
        obtain rfl := Option.some.inj h
        have ep : x = p := hj
        subst ep
        refine ⟨.inr ⟨c1, rfl⟩, ?_, rfl⟩
        show Txt.join " " [wordT (S x)] = S x
        rw [last_word c1]
        exact (join_S [x]).trans (by rfl)
      · cases h
    · rename_i c1
      split at h
      · rename_i nm c ns qn qa
        split at h
        · rename_i ho
          obtain rfl := Option.some.inj h
          obtain ⟨w1, w2, w3, w4⟩ := word_back qn
          obtain ⟨t1, t2⟩ := reads_back (allI_back qa)
          have nl : ¬ (S p = "end" ∨ S p = "abort") := fun z => by
            rw [last_split z] at q
            have := (List.cons.inj q).1
            exact c1 (this ▸ z)
          refine ⟨.inl ⟨t2, ?_⟩, ?_, ?_⟩
          · obtain ⟨hl, hord⟩ := ho
            rcases w4 with ⟨wn, rfl, wz⟩ | ⟨wn, rfl⟩ | ⟨wn, rfl⟩
            · match ns, hl with
              | [a, b], _ => exact .inl ⟨wn, a, b, rfl, of_decide_eq_true (hord wz)⟩
            · match ns, hl with
              | [a, b], _ => exact .inr (.inl ⟨wn, a, b, rfl⟩)
            · match ns, hl with
              | [a], _ => exact .inr (.inr ⟨wn, a, rfl⟩)
          · show Txt.join " " (wordT nm :: ns.map numS) = S p
            rw [w1, t1, ← List.map_cons (f := S), join_S, hj]
          · rw [decide_eq_false nl]
            exact w2
        · cases h
      · cases h
theorem walk_back : ∀ (ps : List (List Nat)) (i : Nat) (c : Bool) (rs rs' : List Req), i ≤ 8 → walkR i c rs ps = .ok rs' → ∃ more, rs' = rs ++ more ∧ more.map reqT = ps.map S ∧ (∀ r ∈ more, Open r ∨ Last r) ∧ i + more.length ≤ 8
  | [], i, c, rs, rs', hi, h => by
    rw [walkR_nil] at h
    split at h
    · cases h
      exact ⟨[], (List.append_nil _).symm, rfl, nofun, hi⟩
    · cases h
  | p :: ps, i, c, rs, rs', hi, h => by
    cases q : reqI p with
    | none =>
      rw [walkR_none q] at h
      cases h
    | some r =>
      rw [walkR_some q] at h
      split at h
      · cases h
      · rename_i n8
        have hi2 : i + 1 ≤ 8 := by
          have : i ≠ 8 := fun z => n8 (.inr z)
          omega
        obtain ⟨more, e1, e2, e3, e4⟩ := walk_back ps (i + 1) _ _ _ hi2 h
        have b := req_back q
        refine ⟨r :: more, by rw [e1, List.append_assoc]; rfl, by rw [List.map_cons, List.map_cons, e2, b.text], fun x hx => ?_, by rw [List.length_cons]; omega⟩
        rcases List.mem_cons.mp hx with rfl | hx
        · exact b.ok
        · exact e3 x hx
theorem readS_back {a : List Nat} {rs : List Req} (h : readS a = .ok rs) : scriptT rs = S a ∧ (∀ r ∈ rs, Open r ∨ Last r) ∧ rs.length ≤ 8 := by
  obtain ⟨more, e1, e2, e3, e4⟩ := walk_back _ _ _ _ _ (Nat.zero_le _) h
  rw [List.nil_append] at e1
  subst e1
  refine ⟨?_, e3, by omega⟩
  show Txt.join "; " (rs.map reqT) = S a
  rw [e2, join_S2, join_spl0 (by simp)]
end Gk

/-! A text many times; slices up to and from a place; the sizes of parts -/
namespace Gx
open PySem L2 PySem.Spec PyProof.Rows SX TL
def repS (a : Str) (n : Int) : Str := ⟨(List.replicate n.toNat a.cps).foldl (· ++ ·) #[]⟩
def rRepC : R2 := fun x y H Q => ∃ (a : Str) (n : Int), x = .str a ∧ y = .int n ∧ 2 ≤ n ∧ n ≤ 1000 ∧ 1 ≤ a.length ∧ a.length ≤ 100 ∧ Q (.str (repS a n)) H
theorem op_repC {X : Cx} : OpR X (binaryOp .Mult) rRepC := by
  intro pins s σ H x y v u Q I rx ry h
  obtain ⟨a, n, rfl, rfl, n2, n3, a1, a2, q⟩ := h
  obtain ⟨t, rfl⟩ := rx
  obtain ⟨t', rfl⟩ := ry
  have l1 : a.length * n.toNat ≤ 100000 := Nat.le_trans (Nat.mul_le_mul a2 (show n.toNat ≤ 1000 by omega)) (by decide)
  have z : (n == 1 || a.length == 0) = false := by
    rw [Bool.or_eq_false_iff]
    exact ⟨by simpa using (by omega : n ≠ 1), by simpa using (by omega : a.length ≠ 0)⟩
  have tl1 : Builtin.Str.tooLong (a.length * n.toNat) = false := decide_eq_false (by rw [sizeLine_eq]; omega)
  have tl2 : (repS a n).cps.size ≤ sizeLine := by
    have e : (repS a n).cps.size = n.toNat * a.cps.size := by
      have key : ∀ (k : Nat) (acc : Array Nat), ((List.replicate k a.cps).foldl (· ++ ·) acc).size = acc.size + k * a.cps.size := by
        intro k
        induction k with
        | zero => intro acc; simp
        | succ k ih =>
          intro acc
          rw [List.replicate_succ, List.foldl_cons, ih, Array.size_append, Nat.succ_mul]
          omega
      unfold repS
      rw [key]
      simp
    rw [e, Nat.mul_comm, sizeLine_eq]
    exact Nat.le_trans l1 (by decide)
  refine P.mul_str ?_ (fun _ _ => ?_) (fun _ _ => tl1) ?_
  · rw [decide_eq_false (by omega), decide_eq_false (by omega)]
    rfl
  · have : (a.length : Int) ≤ (2 ^ 63 - 1) / n := by
      rw [Int.le_ediv_iff_mul_le (by omega)]
      have h1 : (a.length : Int) * n ≤ 100 * 1000 := Int.mul_le_mul (by omega) n3 (by omega) (by decide)
      omega
    omega
  · rw [if_neg (by omega), if_neg (by rw [z]; exact Bool.false_ne_true)]
    exact ⟨tl2, .str (repS a n), H, I.tok _, ⟨_, rfl⟩, q⟩
theorem cutV_to (xs : List V) (k : Nat) : cutV xs none (some (k : Int)) = xs.take k := by
  unfold cutV
  rw [HT.sIx_none, HT.sIx_nat]
  show (xs.drop 0).take (min k xs.length - 0) = xs.take k
  rw [List.drop_zero, Nat.sub_zero]
  rcases Nat.lt_or_ge k xs.length with h | h
  · rw [Nat.min_eq_left (by omega)]
  · rw [Nat.min_eq_right h, List.take_length, List.take_of_length_le h]
theorem cutV_from (xs : List V) (k : Nat) : cutV xs (some (k : Int)) none = xs.drop k := by
  unfold cutV
  rw [HT.sIx_none, HT.sIx_nat]
  show (xs.drop (min k xs.length)).take (xs.length - min k xs.length) = xs.drop k
  rw [List.take_of_length_le (by rw [List.length_drop]; exact Nat.le_refl _)]
  rcases Nat.lt_or_ge k xs.length with h | h
  · rw [Nat.min_eq_left (by omega)]
  · rw [Nat.min_eq_right h, List.drop_length, List.drop_of_length_le h]
theorem cutS_to (a : List Nat) (k : Nat) : cutS (S a) none (some (k : Int)) = S (a.take k) := by
  unfold cutS
  rw [HT.sIx_none, HT.sIx_nat, S_len]
  show S ((a.drop 0).take (min k a.length - 0)) = S (a.take k)
  rw [List.drop_zero, Nat.sub_zero]
  congr 1
  rcases Nat.lt_or_ge k a.length with h | h
  · rw [Nat.min_eq_left (by omega)]
  · rw [Nat.min_eq_right h, List.take_length, List.take_of_length_le h]
theorem cutS_from (a : List Nat) (k : Nat) : cutS (S a) (some (k : Int)) none = S (a.drop k) := by
  unfold cutS
  rw [HT.sIx_none, HT.sIx_nat, S_len]
  show S ((a.drop (min k a.length)).take (a.length - min k a.length)) = S (a.drop k)
  congr 1
  rw [List.take_of_length_le (by rw [List.length_drop]; exact Nat.le_refl _)]
  rcases Nat.lt_or_ge k a.length with h | h
  · rw [Nat.min_eq_left (by omega)]
  · rw [Nat.min_eq_right h, List.drop_length, List.drop_of_length_le h]
end Gx
namespace Gk
open PySem L2 Gx SX TL
/-- the size of parts that are joined by two signs -/
def sizeP (ps : List (List Nat)) : Nat := (ps.map (·.length)).sum + 2 * ps.length
theorem sizeP_join : ∀ ps : List (List Nat), ps ≠ [] → (joinL [59, 32] ps).length + 2 = sizeP ps
  | [], h => absurd rfl h
  | [p], _ => by
    show p.length + 2 = (p.length + 0) + 2
    omega
  | p :: q :: r, _ => by
    have ih := sizeP_join (q :: r) (by simp)
    have e : joinL [59, 32] (p :: q :: r) = p ++ ([59, 32] ++ joinL [59, 32] (q :: r)) := rfl
    rw [e, List.length_append, List.length_append]
    unfold sizeP at ih ⊢
    rw [List.map_cons, List.sum_cons, List.length_cons (a := p)]
    simp only [List.length_cons, List.length_nil] at ih ⊢
    omega
theorem sizeP_spl (a : List Nat) : sizeP (spl [59, 32] 0 [] a) = a.length + 2 := by
  rw [← sizeP_join _ (spl_lens [59, 32] a 0 []).2.2, join_spl0 (by simp)]
theorem join_le (ps : List (List Nat)) : (joinL [59, 32] ps).length ≤ sizeP ps := by
  cases ps with
  | nil => exact Nat.zero_le _
  | cons p r =>
    have := sizeP_join (p :: r) (by simp)
    omega
theorem sizeP_append (ps qs : List (List Nat)) : sizeP (ps ++ qs) = sizeP ps + sizeP qs := by
  unfold sizeP
  rw [List.map_append, List.sum_append, List.length_append]
  omega
theorem sizeP_cut (ps : List (List Nat)) (k : Nat) : sizeP (ps.take k) + sizeP (ps.drop k) = sizeP ps := by
  rw [← sizeP_append, List.take_append_drop]
theorem sizeP_one (o : List Nat) : sizeP [o] = o.length + 2 := by
  show (o.length + 0) + 2 * 1 = _
  omega
theorem sizeP_set {ps : List (List Nat)} {k : Nat} {o : List Nat} (h : k < ps.length) : sizeP (ps.set k o) ≤ sizeP ps + o.length := by
  rw [List.set_eq_take_append_cons_drop, if_pos h]
  have h1 := sizeP_cut ps k
  have h2 : sizeP (o :: ps.drop (k + 1)) = o.length + 2 + sizeP (ps.drop (k + 1)) := by
    rw [← sizeP_one, ← sizeP_append]
    rfl
  have h3 : ps.drop k = ps[k] :: ps.drop (k + 1) := List.drop_eq_getElem_cons h
  have h4 : sizeP (ps.drop k) = ps[k].length + 2 + sizeP (ps.drop (k + 1)) := by
    rw [h3, ← sizeP_one, ← sizeP_append]
    rfl
  rw [sizeP_append, h2]
  omega
theorem low_join {ps : List (List Nat)} (h : ∀ p ∈ ps, Low p) : Low (joinL [59, 32] ps) := fun c hc => by
  rcases mem_join hc with z | ⟨p, hp, z⟩
  · simp at z
    omega
  · exact h p hp c z
theorem size_few (ps : List (List Nat)) : ps.length ≤ sizeP ps := by
  unfold sizeP
  omega
theorem size_mem {ps : List (List Nat)} {p : List Nat} (h : p ∈ ps) : p.length ≤ sizeP ps := by
  obtain ⟨a, b, rfl⟩ := List.append_of_mem h
  have e : a ++ p :: b = a ++ ([p] ++ b) := rfl
  rw [e, sizeP_append, sizeP_append, sizeP_one]
  omega
theorem sum_S (ps : List (List Nat)) : ((ps.map S).map (·.length)).sum + (ps.map S).length * (Str.ofString "; ").length ≤ sizeP ps := by
  have e : (ps.map S).map (·.length) = ps.map (·.length) := by
    rw [List.map_map]
    exact List.map_congr_left fun p _ => S_len p
  have e2 : (Str.ofString "; ").length = 2 := rfl
  rw [e, e2, List.length_map]
  unfold sizeP
  omega
end Gk
namespace Gx
open PySem L2 SX TL
theorem g_seqJ {t u : TS} {D : Ends} {σ : L2.St} {H : Hp} (Mid : L2.St → Hp → Prop) (h1 : ∀ N : L2.St → Hp → Prop, (∀ σ' H', Mid σ' H' → N σ' H') → t { D with nx := N } σ H) (h2 : ∀ σ' H', Mid σ' H' → u D σ' H') : tSeq t u D σ H := h1 _ h2
theorem flask_mut {c : Nat} {H : Hp} {f p : Addr} {xs ys : List V} (h : Flask c H f) (e : H p = some (.lst xs)) : Flask c (upd H p (.lst ys)) f := by
  obtain ⟨q, n, h1, h2⟩ := h
  refine ⟨q, n, ?_, ?_⟩
  · rw [upd_ne (fun z => by rw [z, e] at h1; cases h1)]
    exact h1
  · rw [upd_ne (fun z => by rw [z, e] at h2; cases h2)]
    exact h2
theorem S_app (a b : List Nat) : S a ++ S b = S (a ++ b) := ext_tl (by rw [tl_append])
theorem S_self (x : Str) : x = S (tl x) := rfl
theorem len_S (a : List Nat) : (S a).length = a.length := S_len a
end Gx

/-! A comprehension whose turns make new lists, each with what is true of it -/
namespace Gx
open PySem L2 SX TL
section
variable {J : It} {n : Nat} {g : TG} {te : TE} {vs : List Nat} {σ : L2.St} {H1 : Hp} {Q : VK}
theorem lc_refs {item : Nat → V → Hp → Prop} (src : Src J H1 n item) (hn : n ≤ 100000) (PP : Nat → Addr → Hp → Prop)
    (mono : ∀ i l D H H' xs, H D = some (.lst xs) → l ≠ D → But D H H' → PP i l H → PP i l H')
    (turn : ∀ i x H' (Nx : V → Hp → Prop), i < n → Same H1 H' → item i x H' → (∀ l H4, Same H' H4 → H' l = none → PP i l H4 → Nx (.ref l) H4) → g x (wipe σ vs) H' fun σ2 H2 => wipe σ2 vs = wipe σ vs ∧ te σ2 H2 Nx)
    (done : ∀ (D : Addr) (ls : List Addr) (H' : Hp), H1 D = none → Same H1 H' → H' D = some (.lst (ls.map V.ref)) → ls.length = n → (∀ (i : Nat) l, ls[i]? = some l → PP i l H') → Q (.ref D) H') : LC g tYes te vs J σ H1 Q := by
  intro D hD
  refine ⟨fun i m H => m = n - i ∧ i ≤ n ∧ ∃ ls : List Addr, Same H1 H ∧ H D = some (.lst (ls.map V.ref)) ∧ ls.length = i ∧ (∀ l ∈ ls, l ≠ D) ∧ ∀ (k : Nat) l, ls[k]? = some l → PP k l H, ⟨n, rfl, Nat.zero_le _, [], same_new hD, upd_same, rfl, nofun, fun k l z => by simp at z⟩, ?_⟩
  rintro i m H ⟨rfl, hi, ls, s, e, hl, nd, pp⟩
  rcases Nat.lt_or_ge i n with lt | ge
  · right
    obtain ⟨go, yl⟩ := (src i H s).1 lt
    refine ⟨go, fun H' => i + 1 ≤ n ∧ ∃ ls : List Addr, Same H1 H' ∧ H' D = some (.lst (ls.map V.ref)) ∧ ls.length = i + 1 ∧ (∀ l ∈ ls, l ≠ D) ∧ ∀ (k : Nat) l, ls[k]? = some l → PP k l H', fun H' ⟨l1, q⟩ => ⟨n - (i + 1), by omega, rfl, l1, q⟩, fun x H' y => ?_⟩
    obtain ⟨s2, it⟩ := yl x H' y
    have s12 := s.trans s2
    have t := turn i x H' (fun y H4 => ∃ acc', H4 D = some (.lst acc') ∧ acc'.length < sizeLine ∧ (i + 1 ≤ n ∧ ∃ ls : List Addr, Same H1 (upd H4 D (.lst (acc' ++ [y]))) ∧ upd H4 D (.lst (acc' ++ [y])) D = some (.lst (ls.map V.ref)) ∧ ls.length = i + 1 ∧ (∀ l ∈ ls, l ≠ D) ∧ ∀ (k : Nat) l, ls[k]? = some l → PP k l (upd H4 D (.lst (acc' ++ [y]))))) lt s12 it fun l H4 s4 nl p4 => ?_
    · exact t
    · have e2 := s2 _ _ e
      have e4 := s4 _ _ e2
      have s14 := s12.trans s4
      have lD : l ≠ D := fun z => by
        rw [z, e2] at nl
        cases nl
      have bu : But D H4 (upd H4 D (.lst (ls.map V.ref ++ [V.ref l]))) := fun b o nb z => by rw [upd_ne nb]; exact z
      have b24 : But D H H4 := fun b o nb z => s4 b o (s2 b o z)
      refine ⟨ls.map V.ref, e4, big_lt (by rw [List.length_map]; omega), lt, ls ++ [l], same_mut s14 hD, ?_, by rw [List.length_append, hl]; rfl, fun x hx => ?_, fun k x hx => ?_⟩
      · rw [upd_same, List.map_append]
        rfl
      · rcases List.mem_append.mp hx with z | z
        · exact nd x z
        · rw [List.mem_singleton.mp z]
          exact lD
      · rcases Nat.lt_or_ge k ls.length with c | c
        · rw [List.getElem?_append_left c] at hx
          have nx := nd x (List.mem_of_getElem? hx)
          exact mono k x D H4 _ _ e4 nx bu (mono k x D H H4 _ e nx b24 (pp k x hx))
        · rw [List.getElem?_append_right c] at hx
          have k0 : k - ls.length = 0 := by
            rcases Nat.lt_or_ge (k - ls.length) 1 with z | z
            · omega
            · rw [List.getElem?_eq_none (by simpa using z)] at hx
              cases hx
          rw [k0] at hx
          obtain rfl := Option.some.inj hx
          have ki : k = i := by omega
          rw [ki]
          exact mono i l D H4 _ _ e4 lD bu p4
  · left
    have e0 : i = n := Nat.le_antisymm hi ge
    subst e0
    exact ⟨(src i H s).2 ge, done D ls H hD s e hl pp⟩
/-- data that is a list without lists in it, at a place that is not the changed one -/
theorem dp_butL {K : PySem.W.Frag} {l D : Addr} {ds : List PyData} {H H' : Hp} {xs : List V} (e : H D = some (.lst xs)) (nd : l ≠ D) (b : But D H H') (n : noLstAll ds = true) (h : ∃ acc, H l = some (.lst acc) ∧ DpAll K H acc ds) : ∃ acc, H' l = some (.lst acc) ∧ DpAll K H' acc ds := by
  obtain ⟨acc, ea, da⟩ := h
  exact ⟨acc, b _ _ nd ea, dp_butAll e b ds acc n da⟩
theorem dpAll_take {K : PySem.W.Frag} {H : Hp} : ∀ {vs : List V} {ds : List PyData} (k : Nat), DpAll K H vs ds → DpAll K H (vs.take k) (ds.take k)
  | _, _, 0, _ => .nil
  | _, _, k + 1, .nil => .nil
  | _, _, k + 1, .cons a b => .cons a (dpAll_take k b)
end
end Gx

/-! Dicts of whole numbers by whole numbers: sorted keys, items as a list, what repr shows, == -/
namespace Gx
open PySem L2 PySem.Spec PyProof.Rows
/-- a table: keys and values, in the sequence of the dict -/
abbrev Tab := List (Int × Int)
def tabK (t : Tab) : List (Key × V) := t.map fun p => (.inl p.1, .int p.2)
def tabD (t : Tab) : PyData := .dict (t.map fun p => (.int p.1, .int p.2))
def keysT (t : Tab) : List Int := t.map (·.1)
def getT (t : Tab) (k : Int) : Option Int := (t.find? fun p => decide (p.1 = k)).map (·.2)
def putT (t : Tab) (k v : Int) : Tab := if (t.any fun p => decide (p.1 = k)) = true then t.map (fun p => if p.1 = k then (p.1, v) else p) else t ++ [(k, v)]
theorem tab_val (k : Int) : ∀ t : Tab, valV (tabK t) (.inl k) = (getT t k).map V.int
  | [] => rfl
  | p :: r => by
    have ih := tab_val k r
    by_cases h : p.1 = k
    · have e1 : valV (tabK (p :: r)) (.inl k) = some (.int p.2) := valV_pos (show (Sum.inl p.1 : Key) = .inl k by rw [h])
      have e2 : getT (p :: r) k = some p.2 := by simp [getT, h]
      rw [e1, e2]
      rfl
    · have e1 : valV (tabK (p :: r)) (.inl k) = valV (tabK r) (.inl k) := valV_neg (fun z => h (Sum.inl.inj z))
      have e2 : getT (p :: r) k = getT r k := by simp [getT, h]
      rw [e1, e2, ih]
theorem tab_put (t : Tab) (k v : Int) : putK (tabK t) (.inl k) (.int v) = tabK (putT t k v) := by
  have e : ((tabK t).any fun kv => decide (kv.1 = (.inl k : Key))) = t.any fun p => decide (p.1 = k) := by
    unfold tabK
    rw [List.any_map]
    congr 1
    funext p
    simp
  unfold putK putT
  rw [e]
  split
  · unfold tabK
    rw [List.map_map, List.map_map]
    refine List.map_congr_left fun p _ => ?_
    by_cases h : p.1 = k
    · simp [h]
    · simp [h]
  · unfold tabK
    rw [List.map_append]
    rfl
theorem tab_len (t : Tab) : (tabK t).length = t.length := List.length_map _
section
variable {X : Cx} {pins : List (Addr × Obj)} {σ : L2.St} {H : Hp} {s : Shared} {a : Addr} {t : Tab}
/-- such a dict in the heap: its entries one by one -/
theorem tab_at (I : Inv X pins σ H s) (h : Rd H a (.dK (tabK t))) : t.length ≤ sizeLine ∧ (a == sysModules) = false ∧ ∃ vs : List (Key × Value), vs.length = t.length ∧ (∀ (i : Nat) q, vs[i]? = some q → ∃ p u, t[i]? = some p ∧ q = (.inl p.1, .int p.2 u)) ∧ s.heap.DictOf (mixKind X.prog X.w) a vs := by
  obtain ⟨z, lo, vs, rel, dd⟩ := dk_rd I.hok h
  rw [tab_len] at z
  have e : ∀ {t : Tab} {vs : List (Key × Value)}, KV (tabK t) vs → vs.length = t.length ∧ ∀ (i : Nat) q, vs[i]? = some q → ∃ p u, t[i]? = some p ∧ q = (.inl p.1, .int p.2 u) := by
    intro t
    induction t with
    | nil =>
      intro vs r
      cases r
      exact ⟨rfl, fun i q z => by simp at z⟩
    | cons p t ih =>
      intro vs r
      cases r with
      | @cons _ q _ qs h1 h2 =>
        obtain ⟨l, g⟩ := ih h2
        refine ⟨by rw [List.length_cons, List.length_cons, l], fun i y hy => ?_⟩
        cases i with
        | zero =>
          obtain rfl := Option.some.inj hy
          obtain ⟨k1, u, k2⟩ := h1
          exact ⟨p, u, rfl, by rw [← k2]; exact Prod.ext k1.symm rfl⟩
        | succ i => exact g i y hy
  obtain ⟨l, g⟩ := e rel
  exact ⟨z, lo, vs, l, g, dd⟩
end
section
variable {X : Cx}
/-- sorted(d), any number of keys -/
def rSortTab : List V → Hp → VK → Prop := fun xs H Q => ∃ (a : Addr) (t : Tab), xs = [.ref a] ∧ Rd H a (.dK (tabK t)) ∧ ∀ (ys : List Int) (p : Addr), ys.Perm (keysT t) → ys.Pairwise (· ≤ ·) → H p = none → Q (.ref p) (upd H p (.lst (ys.map V.int)))
theorem cr_sortTab (calm : X.calm = true) : CallR X (.builtin "sorted") rSortTab := by
  intro pins s σ H xs us Q I r ask
  obtain ⟨d, t, rfl, hd, go⟩ := ask
  obtain rfl := Vals.ref1 r
  obtain ⟨z, lo, vs, lv, ent, dd⟩ := tab_at I hd
  obtain ⟨ep, at_⟩ := dd.dictAt
  have short : vs.length ≤ sizeLine := by rw [lv]; exact z
  refine Calls.call_function_entry kind_sorted plain_sorted entry_sorted (args_sorted1 _) ?_
  unfold Builtin.«sorted»
  refine wpAny_bind (wpAny_bind (wpAny_pure (wpAny_pure ?_)))
  refine wpAny_bind (PySem.W.kdu_collect (PySem.W.kdl_dict lo) (I.ok.hd calm) at_ short fun h2 tk acc keep each => ?_)
  have la : acc.toList.length = (keysT t).length := by
    unfold keysT
    rw [Array.length_toList, each.1, lv, List.length_map]
  have nums : IntsAre acc.toList (keysT t) := ints_each la fun j v e => by
    obtain ⟨k, x, e1, e2⟩ := each.2 j v (by rw [← Array.getElem?_toList]; exact e)
    obtain ⟨p, u, hp, eq⟩ := ent j _ e1
    obtain ⟨rfl, _⟩ := Prod.mk.inj eq
    have e3 : keyIs (.inl p.1) v = true := e2
    rcases keyIs_shape e3 with ⟨i, tt, ek, ev⟩ | ⟨y, tt, ek, ev⟩
    · obtain rfl := Sum.inl.inj ek
      exact ⟨p.1, tt, by unfold keysT; rw [List.getElem?_map, hp]; rfl, ev⟩
    · cases ek
  have I2 : Inv X pins σ H { s with heap := h2, toks := tk } := I.kept keep
  have la2 : acc.toList.length ≤ sizeLine := by
    rw [la]
    unfold keysT
    rw [List.length_map]
    exact z
  refine wpAny_bind (wpAny_newList ?_ la2)
  have laid : (h2.push (seqObj "list" acc.toList.toArray 0)).get? h2.objs.size = some (seqObj "list" acc.toList.toArray 0) := Heap.get?_push_size _ rfl
  refine wpAny_bind (wpAny_holding (wpAny_call_entry (s := { s with heap := h2.push (seqObj "list" acc.toList.toArray 0), toks := tk }) slot_list_sort ⟨_, laid, rfl⟩ entry_list_sort
    (SrtO.list_sort_ord SrtO.swo_int laid la2 (fun two => SrtO.ints_sortable nums two) fun out o1 o2 => ⟨_, rfl, ?_⟩) (args_list_sort _)))
  obtain ⟨k1, k2, k3⟩ := SrtO.ints_out nums o1 o2
  obtain ⟨ep2, sorted_⟩ := sortedHeap_at (vs := acc.toList) (out := out.toArray) laid
  have fits : ((out.map SrtO.iv).map V.int).length ≤ sizeLine := by
    rw [List.length_map, k2.length_eq, ← la]
    exact la2
  refine wpAny_pure ⟨_, rfl, .ref h2.objs.size, upd H h2.objs.size (.lst ((out.map SrtO.iv).map V.int)), I2.laid (t' := tk) (fun b u e => ?_) (Nat.le_refl _) ⟨fits, out, ep2, vals_of_ints k1, sorted_⟩, rfl, go _ _ k2 k3 (I2.hok.fresh (Nat.le_refl _))⟩
  have hb : b < h2.objs.size := Heap.lt_size e
  rw [sortedHeap_old (Nat.ne_of_lt hb) (by rw [size_push']; exact Nat.lt_succ_of_lt hb)]
  exact Heap.get?_push_of_some _ e
/-- d.items() -/
def rItemsK : V → List V → Hp → VK → Prop := fun x xs H Q => ∃ (a : Addr) (t : Tab), x = .ref a ∧ xs = [] ∧ H a = some (.dK (tabK t)) ∧ ∀ p, H p = none → Q (.ref p) (upd H p (L2.DX.itemsO p a))
theorem mt_itemsK : MtR X "dict.items" rItemsK := by
  intro pins s σ H x xs v us Q I rx rxs ask
  obtain ⟨d, t, rfl, rfl, hd, go⟩ := ask
  cases rx
  cases rxs
  obtain ⟨z, lo, vs, lv, ent, o, es, ep, ho, ex, da, _⟩ := tab_at I (.inl hd)
  refine _root_.DT.callItems (es := es) (ep := ep) lo ⟨o, ho, ex, da⟩ ?_
  have free : H s.heap.objs.size = none := I.hok.fresh (Nat.le_refl _)
  exact ⟨.ref s.heap.objs.size, _, I.laid (t' := s.toks) (fun b u e => Heap.get?_push_of_some _ e) (Nat.le_refl _) (L2.DX.itemsO_ok (Heap.get?_push_size _ rfl)), rfl, go _ free⟩
/-- list(v), v the items of a dict: new pairs -/
def rListItems : List V → Hp → VK → Prop := fun xs H Q => ∃ (p a : Addr) (t : Tab), xs = [.ref p] ∧ H p = some (L2.DX.itemsO p a) ∧ H a = some (.dK (tabK t)) ∧
  ∀ (l : Addr) (ts : List Addr) (H' : Hp), H l = none → Same H H' → H' l = some (.lst (ts.map V.ref)) → ts.length = t.length → (∀ (i : Nat) b, ts[i]? = some b → ∃ q, t[i]? = some q ∧ H' b = some (.tup [.int q.1, .int q.2])) → Q (.ref l) H'
theorem cr_listItems (calm : X.calm = true) : CallR X (.type "list") rListItems := by
  intro pins s σ H xs us Q I r ask
  obtain ⟨p, a, t, rfl, hp, ha, go⟩ := ask
  obtain rfl := Vals.ref1 r
  have view : s.heap.IsItemsView p a := (show ObjOk X.prog X.w H s.heap p (L2.DX.itemsO p a) from I.hok p _ hp).1
  obtain ⟨z, lo, vs, lv, ent, dd⟩ := tab_at I (.inl ha)
  obtain ⟨ep, at_⟩ := dd.dictAt
  refine PySem.W.kdx_call (I.ok.hd calm) view at_ (by rw [lv]; exact z) fun h2 tk acc c as keep hS len g hacc => ?_
  have free : H s.heap.objs.size = none := I.hok.fresh (Nat.le_refl _)
  have nd : as.Nodup := List.Pairwise.imp (fun h => Nat.ne_of_lt h) g.rise
  have I2 : Inv X pins σ H { s with heap := h2, toks := tk } := I.kept (t' := tk) keep
  have lt : as.length = t.length := by rw [len, lv]
  have rv : Vals (as.map V.ref) acc.toList := by
    rw [hacc]
    exact vals_maps V.ref Value.ref as fun _ _ => rfl
  have I3 : Inv X pins σ (upd H s.heap.objs.size (.lst (as.map V.ref))) { s with heap := h2, toks := tk } :=
    I2.take (h' := h2) (t' := tk) (fun b ob _ e => e) (I.fpOk (Nat.le_refl _) free) ⟨by rw [List.length_map, lt]; exact z, acc.toList, c, rv, by rw [Array.toArray_toList]; exact hS⟩
  obtain ⟨H3, I4, old, tup⟩ := L2.DX.takeT (P := fun b ws => ∃ (j : Nat) (q : Int × Int), as[j]? = some b ∧ t[j]? = some q ∧ ws = [.int q.1, .int q.2]) I as _ I3 nd fun b hb => by
    obtain ⟨j, hj⟩ := List.mem_iff_getElem?.mp hb
    obtain ⟨key, k, x, e1, e2, e3⟩ := g.pairs j b hj
    obtain ⟨q, u, hq, eq⟩ := ent j _ e1
    obtain ⟨rfl, rfl⟩ := Prod.mk.inj eq
    have up := g.above b hb
    have e4 : keyIs (.inl q.1) key = true := e2
    rcases keyIs_shape e4 with ⟨i, tt, ek, ev⟩ | ⟨y, tt, ek, ev⟩
    · obtain rfl := Sum.inl.inj ek
      refine ⟨Nat.le_of_lt up, ?_, _, ⟨j, q, hj, hq, rfl⟩, fun H4 => ⟨(by show 2 ≤ sizeLine; decide), [key, .int q.2 u], .cons ⟨tt, ev⟩ (.cons ⟨u, rfl⟩ .nil), ⟨_, e3, rfl, 0, rfl⟩⟩⟩
      rw [upd_ne (Nat.ne_of_gt up)]
      exact I.hok.fresh (Nat.le_of_lt up)
    · cases ek
  refine ⟨.ref s.heap.objs.size, H3, I4, rfl, go _ as H3 free (fun b o e => old b o (by rw [upd_ne (ne_of_none e free)]; exact e)) (old _ _ upd_same) lt fun i b hb => ?_⟩
  obtain ⟨ws, ⟨j, q, hj, hq, rfl⟩, e⟩ := tup b (List.mem_of_getElem? hb)
  have ij : i = j := (List.getElem?_inj (List.getElem?_eq_some_iff.mp hb).1 nd).mp (hb.trans hj.symm)
  subst ij
  exact ⟨q, hq, e⟩
/-- repr(d) -/
def rReprTab : List V → Hp → VK → Prop := fun xs H Q => ∃ (a : Addr) (t : Tab), xs = [.ref a] ∧ Rd H a (.dK (tabK t)) ∧ (tabD t).showable = true ∧ (tabD t).shown.length ≤ sizeLine ∧ Q (.str (tabD t).shown) H
theorem tab_reads {pins : List (Addr × Obj)} {σ : L2.St} {H : Hp} {s : Shared} {a : Addr} {t : Tab} (I : Inv X pins σ H s) (h : Rd H a (.dK (tabK t))) : Reads s.heap (.ref a) (tabD t) [a] ∧ a ≠ sysModules := by
  obtain ⟨z, lo, vs, lv, ent, o, es, ep, ho, ex, da, ko, pr, _⟩ := tab_at I h
  have all : ∀ {es : List DictEntry} {vs : List (Key × Value)} {t : Tab}, Pairs (mixKind X.prog X.w) es vs → vs.length = t.length → (∀ (i : Nat) q, vs[i]? = some q → ∃ p u, t[i]? = some p ∧ q = (.inl p.1, .int p.2 u)) →
      ReadsAll s.heap (es.map (·.key)) (t.map fun p => .int p.1) [] ∧ ReadsAll s.heap (es.map (·.val)) (t.map fun p => .int p.2) [] := by
    intro es vs t pr
    induction pr generalizing t with
    | nil =>
      intro l _
      cases t with
      | nil => exact ⟨.nil, .nil⟩
      | cons p t => cases l
    | @cons e kv es kvs h1 h2 _ ih =>
      intro l g
      cases t with
      | nil => cases l
      | cons p t =>
        obtain ⟨p2, u, hp, eq⟩ := g 0 kv rfl
        obtain rfl := Option.some.inj hp
        subst eq
        obtain ⟨i1, i2⟩ := ih (Nat.succ.inj l) fun i q hq => g (i + 1) q hq
        have e1 : keyIs (.inl p.1) e.key = true := h1
        rcases keyIs_shape e1 with ⟨i, tt, ek, ev⟩ | ⟨y, tt, ek, ev⟩
        · obtain rfl := Sum.inl.inj ek
          refine ⟨?_, ?_⟩
          · have c := ReadsAll.cons (Reads.int (h := s.heap) p.1 tt) i1
            rw [List.map_cons, ev]
            exact c
          · have c := ReadsAll.cons (Reads.int (h := s.heap) p.2 u) i2
            rw [List.map_cons, h2]
            exact c
        · cases ek
  obtain ⟨r1, r2⟩ := all pr lv ent
  have ne : a ≠ sysModules := fun z => by
    rw [z] at lo
    exact absurd lo (by simp)
  refine ⟨?_, ne⟩
  have m1 : (t.map fun p => ((.int p.1, .int p.2) : PyData × PyData)).map (·.1) = t.map fun p => .int p.1 := by simp
  have m2 : (t.map fun p => ((.int p.1, .int p.2) : PyData × PyData)).map (·.2) = t.map fun p => .int p.2 := by simp
  exact Reads.dict ho ex.1 da (m1 ▸ r1) (m2 ▸ r2)
theorem cr_reprTab {j : Nat} (gd : X.A.guards = some []) (hr : Room j X.A) : CallR X (.builtin "repr") rReprTab := by
  intro pins s σ H xs us Q I rel ask
  obtain ⟨a, t, rfl, hd, sw, sz, q⟩ := ask
  obtain rfl := Vals.ref1 rel
  obtain ⟨rd, ne⟩ := tab_reads I hd
  have dp : (tabD t).depth ≤ 1 := by
    have key : ∀ t : Tab, PyData.depthKv (t.map fun p => ((.int p.1, .int p.2) : PyData × PyData)) = 0 := by
      intro t
      induction t with
      | nil => simp [PyData.depthKv]
      | cons p t ih => simp [PyData.depthKv, PyData.depth, ih]
    unfold tabD
    simp [PyData.depth, key]
  refine repr_of_reads' rd sw (fun _ m => ne (List.mem_singleton.mp m).symm) gd (by have := hr.un; omega) (fun _ _ z => z) (fun h' u tk kept => ?_) sz
  exact ⟨.str (tabD t).shown, H, I.kept kept, ⟨u, rfl⟩, q⟩
/-- two tables are alike -/
def likeT (t u : Tab) : Bool := t.length == u.length && t.all fun p => decide (getT u p.1 = some p.2)
def rEqTab : R2 := fun x y H Q => ∃ (a b : Addr) (t u : Tab), x = .ref a ∧ y = .ref b ∧ Rd H a (.dK (tabK t)) ∧ Rd H b (.dK (tabK u)) ∧ Q (.bl (likeT t u)) H
theorem op_eqTab (hu : X.A.units + 64 < cLine) : OpR X (compareOp .Eq) rEqTab := by
  intro pins s σ H x y v w' Q I rx ry ask
  obtain ⟨a, b, t, u, rfl, rfl, ha, hb, q⟩ := ask
  cases rx
  cases ry
  obtain ⟨z1, lo1, vs1, l1, e1, d1⟩ := tab_at I ha
  obtain ⟨z2, lo2, vs2, l2, e2, d2⟩ := tab_at I hb
  have val2 : ∀ k, (∀ j, getT u k = some j → ∃ w, PySem.valueAt vs2 (.inl k) = some (.int j w)) ∧ (getT u k = none → PySem.valueAt vs2 (.inl k) = none) := by
    have key : ∀ {u : Tab} {vs : List (Key × Value)}, vs.length = u.length → (∀ (i : Nat) q, vs[i]? = some q → ∃ p w, u[i]? = some p ∧ q = (.inl p.1, .int p.2 w)) → ∀ k, (∀ j, getT u k = some j → ∃ w, PySem.valueAt vs (.inl k) = some (.int j w)) ∧ (getT u k = none → PySem.valueAt vs (.inl k) = none) := by
      intro u
      induction u with
      | nil =>
        intro vs l g k
        cases vs with
        | nil => exact ⟨fun j h => (by cases h), fun _ => rfl⟩
        | cons _ _ => cases l
      | cons p u ih =>
        intro vs l g k
        cases vs with
        | nil => cases l
        | cons q vs =>
          obtain ⟨p2, w, hp, eq⟩ := g 0 q rfl
          obtain rfl := Option.some.inj hp
          subst eq
          have ih := ih (Nat.succ.inj l) (fun i q hq => g (i + 1) q hq) k
          by_cases h : p.1 = k
          · have a1 : getT (p :: u) k = some p.2 := by simp [getT, h]
            have a2 : PySem.valueAt (((.inl p.1 : Key), (Value.int p.2 w)) :: vs) (.inl k) = some (.int p.2 w) := by simp [PySem.valueAt, h]
            rw [a1, a2]
            exact ⟨fun j hj => ⟨w, by rw [Option.some.inj hj]⟩, fun z => (by cases z)⟩
          · have a1 : getT (p :: u) k = getT u k := by simp [getT, h]
            have a2 : PySem.valueAt (((.inl p.1 : Key), (Value.int p.2 w)) :: vs) (.inl k) = PySem.valueAt vs (.inl k) := by simp [PySem.valueAt, h]
            rw [a1, a2]
            exact ih
    exact key l2 e2
  have hits : PySem.W.KeqHits X.A.in1 s vs2 vs1 (t.all fun p => decide (getT u p.1 = some p.2)) := by
    have key : ∀ {t : Tab} {vs : List (Key × Value)}, vs.length = t.length → (∀ (i : Nat) q, vs[i]? = some q → ∃ p w, t[i]? = some p ∧ q = (.inl p.1, .int p.2 w)) → PySem.W.KeqHits X.A.in1 s vs2 vs (t.all fun p => decide (getT u p.1 = some p.2)) := by
      intro t
      induction t with
      | nil =>
        intro vs l g
        cases vs with
        | nil => exact .nil
        | cons _ _ => cases l
      | cons p t ih =>
        intro vs l g
        cases vs with
        | nil => cases l
        | cons q vs =>
          obtain ⟨p2, w, hp, eq⟩ := g 0 q rfl
          obtain rfl := Option.some.inj hp
          subst eq
          have ih := ih (Nat.succ.inj l) fun i q hq => g (i + 1) q hq
          rw [List.all_cons]
          cases hg : getT u p.1 with
          | none =>
            have e : decide ((none : Option Int) = some p.2) = false := rfl
            rw [e, Bool.false_and]
            exact .miss ((val2 p.1).2 hg)
          | some j =>
            obtain ⟨w2, hv⟩ := (val2 p.1).1 j hg
            refine .hit hv ?_ ih
            have e : decide (some j = some p.2) = (p.2 == j) := by
              by_cases h : p.2 = j
              · subst h
                simp
              · have h2 : ¬ j = p.2 := fun z => h z.symm
                simp [h, h2]
            rw [e]
            exact SeqAt.EqAt.int_int p.2 w j w2
    exact key l1 e1
  refine PySem.W.keq_eq lo1 lo2 d1 d2 (by omega) (fun _ => hits) ⟨.bl _, H, I, rfl, ?_⟩
  rw [l1, l2]
  exact q
end
end Gx

/-! The entries that any text writes, or the place where it fails -/
namespace Gk
open PySem L2 Gx SX TL
def entL (p : Int × Int) : List Nat := numI p.1 ++ (61 :: numI p.2)
def entsL (es : Tab) : List Nat := joinL [32] (es.map entL)
def lineL (es : Tab) : List Nat := if es = [] then [45] else entsL es
def entI (p : List Nat) : Option (Int × Int) := match spl [61] 0 [] p with
  | [a, b] => match readI a, readI b with
    | some k, some v => some (k, v)
    | _, _ => none
  | _ => none
def lateB (l : Option Int) (k : Int) : Bool := match l with
  | none => false
  | some m => decide (k ≤ m)
def walkE : Nat → Option Int → Tab → List (List Nat) → Except Nat Tab
  | _, _, t, [] => .ok t
  | i, l, t, p :: ps => match entI p with
    | none => .error i
    | some q => if i = 200 ∨ lateB l q.1 = true then .error i else walkE (i + 1) (some q.1) (t ++ [q]) ps
theorem walkE_none {i : Nat} {l : Option Int} {t : Tab} {p : List Nat} {ps : List (List Nat)} (h : entI p = none) : walkE i l t (p :: ps) = .error i := by
  rw [walkE, h]
theorem walkE_some {i : Nat} {l : Option Int} {t : Tab} {p : List Nat} {ps : List (List Nat)} {q : Int × Int} (h : entI p = some q) : walkE i l t (p :: ps) = if i = 200 ∨ lateB l q.1 = true then .error i else walkE (i + 1) (some q.1) (t ++ [q]) ps := by
  rw [walkE, h]
theorem walkE_nil {i : Nat} {l : Option Int} {t : Tab} : walkE i l t [] = .ok t := rfl
def readE (a : List Nat) : Except Nat Tab := match spl [32] 0 [] a with
  | [] => .error 0
  | x :: ws => if x = [45] then (if ws = [] then .ok [] else .error 1) else walkE 0 none [] (x :: ws)
/-- a table whose keys ascend, its numbers short -/
structure AscT (t : Tab) : Prop where
  asc : t.Pairwise fun p q => p.1 < q.1
  short : ∀ p ∈ t, In60 p.1 ∧ In60 p.2
theorem entI_some {p : List Nat} {q : Int × Int} (h : entI p = some q) : ∃ a b, spl [61] 0 [] p = [a, b] ∧ readI a = some q.1 ∧ readI b = some q.2 := by
  unfold entI at h
  split at h
  · rename_i a b e
    split at h
    · rename_i k v ek ev
      obtain rfl := Option.some.inj h
      exact ⟨a, b, e, ek, ev⟩
    · cases h
  · cases h
theorem num_L {a : List Nat} {n : Int} (h : readI a = some n) : numI n = a ∧ In60 n := by
  unfold readI at h
  split at h
  · rename_i g
    obtain rfl := Option.some.inj h
    exact num_back g
  · cases h
theorem entI_back {p : List Nat} {q : Int × Int} (h : entI p = some q) : entL q = p ∧ In60 q.1 ∧ In60 q.2 := by
  obtain ⟨a, b, e, ea, eb⟩ := entI_some h
  obtain ⟨a1, a2⟩ := num_L ea
  obtain ⟨b1, b2⟩ := num_L eb
  have j := join_spl0 (sep := [61]) (by simp) p
  rw [e] at j
  refine ⟨?_, a2, b2⟩
  unfold entL
  rw [a1, b1]
  exact j
theorem walkE_ok : ∀ (ps : List (List Nat)) (i : Nat) (l : Option Int) (t t' : Tab), i ≤ 200 → walkE i l t ps = .ok t' → ∃ more, t' = t ++ more ∧ more.map entL = ps ∧ (∀ q ∈ more, In60 q.1 ∧ In60 q.2) ∧ i + more.length ≤ 200 ∧ (more.Pairwise fun p q => p.1 < q.1) ∧ ∀ m, l = some m → ∀ q ∈ more, m < q.1
  | [], i, l, t, t', hi, h => by
    rw [walkE_nil] at h
    cases h
    exact ⟨[], (List.append_nil _).symm, rfl, nofun, hi, .nil, fun _ _ => nofun⟩
  | p :: ps, i, l, t, t', hi, h => by
    cases q : entI p with
    | none =>
      rw [walkE_none q] at h
      cases h
    | some r =>
      rw [walkE_some q] at h
      split at h
      · cases h
      · rename_i c
        have hi2 : i + 1 ≤ 200 := by
          have : i ≠ 200 := fun z => c (.inl z)
          omega
        have late : lateB l r.1 = false := by
          cases z : lateB l r.1 with
          | false => rfl
          | true => exact absurd (.inr z) c
        obtain ⟨more, e1, e2, e3, e4, e5, e6⟩ := walkE_ok ps (i + 1) _ _ _ hi2 h
        obtain ⟨b1, b2, b3⟩ := entI_back q
        refine ⟨r :: more, by rw [e1, List.append_assoc]; rfl, by rw [List.map_cons, e2, b1], fun x hx => ?_, by rw [List.length_cons]; omega, .cons (e6 r.1 rfl) e5, fun m hm x hx => ?_⟩
        · rcases List.mem_cons.mp hx with rfl | hx
          · exact ⟨b2, b3⟩
          · exact e3 x hx
        · have lt : m < r.1 := by
            rw [hm] at late
            have := of_decide_eq_false (show decide (r.1 ≤ m) = false from late)
            omega
          rcases List.mem_cons.mp hx with rfl | hx
          · exact lt
          · exact Int.lt_trans lt (e6 r.1 rfl x hx)
theorem readE_back {a : List Nat} {t : Tab} (h : readE a = .ok t) : lineL t = a ∧ AscT t ∧ t.length ≤ 200 := by
  have j := join_spl0 (sep := [32]) (by simp) a
  unfold readE at h
  cases q : spl [32] 0 [] a with
  | nil => exact absurd q (spl_lens [32] a 0 []).2.2
  | cons x ws =>
    rw [q] at h j
    simp only at h
    split at h
    · rename_i e
      split at h
      · rename_i e2
        cases h
        subst e e2
        exact ⟨j, ⟨.nil, nofun⟩, Nat.zero_le _⟩
      · cases h
    · obtain ⟨more, e1, e2, e3, e4, e5, e6⟩ := walkE_ok _ _ _ _ _ (Nat.zero_le _) h
      rw [List.nil_append] at e1
      subst e1
      refine ⟨?_, ⟨e5, e3⟩, by omega⟩
      have ne : t ≠ [] := fun z => by
        rw [z] at e2
        cases e2
      unfold lineL entsL
      rw [if_neg ne, e2, j]
/-! ### a table's own text -/
theorem good_num {n : Int} (h : In60 n) : goodI (numI n) = true ∧ valI (numI n) = n := by
  have l60 : (numL n.natAbs).length ≤ 60 := numL_le (Nat.lt_of_lt_of_le h (by decide))
  have hd := numL_digits n.natAbs
  have ne := numL_ne n.natAbs
  have all : (numL n.natAbs).all isDig = true := by
    rw [List.all_eq_true]
    intro c hc
    have := hd c hc
    unfold isDig
    rw [Bool.and_eq_true, decide_eq_true_eq, decide_eq_true_eq]
    omega
  have l1 : 1 ≤ (numL n.natAbs).length := List.length_pos_iff.mpr ne
  by_cases c : n < 0
  · have e : numI n = 45 :: numL n.natAbs := if_pos c
    have d : digs (numI n) = numL n.natAbs := by
      unfold digs
      rw [e]
      rfl
    refine ⟨?_, ?_⟩
    · unfold goodI
      rw [d, all, decide_eq_true l1, decide_eq_true l60, e]
      have h48 : ¬ (numL n.natAbs).head? = some 48 := fun z => by
        have := numL_zero z
        omega
      rw [decide_eq_false h48]
      rfl
    · unfold valI
      rw [e, if_pos (show List.take 1 (45 :: numL n.natAbs) = [45] from rfl)]
      show -((NumText.digitsVal (numL n.natAbs) : Nat) : Int) = n
      rw [numL_val]
      omega
  · have e : numI n = numL n.natAbs := if_neg c
    have nt : ¬ (numL n.natAbs).take 1 = [45] := by
      cases q : numL n.natAbs with
      | nil => exact absurd q ne
      | cons x r =>
        have := hd x (by rw [q]; exact List.mem_cons_self)
        intro z
        have := (List.cons.inj z).1
        omega
    have d : digs (numI n) = numL n.natAbs := by
      unfold digs
      rw [e, if_neg nt]
    refine ⟨?_, ?_⟩
    · unfold goodI
      rw [d, all, decide_eq_true l1, decide_eq_true l60, e]
      by_cases z : (numL n.natAbs).head? = some 48
      · have z0 := numL_zero z
        rw [z0]
        rfl
      · rw [decide_eq_false z]
        rfl
    · unfold valI
      rw [e, if_neg nt]
      show ((NumText.digitsVal (numL n.natAbs) : Nat) : Int) = n
      rw [numL_val]
      omega
theorem read_num {n : Int} (h : In60 n) : readI (numI n) = some n := by
  obtain ⟨h1, h2⟩ := good_num h
  unfold readI
  rw [if_pos h1, h2]
theorem spl_join1 {s : Nat} : ∀ (ps : List (List Nat)), ps ≠ [] → (∀ p ∈ ps, s ∉ p) → spl [s] 0 [] (joinL [s] ps) = ps := by
  have key : ∀ (p acc rest : List Nat), s ∉ p → spl [s] 0 acc (p ++ s :: rest) = (acc ++ p) :: spl [s] 0 [] rest := by
    intro p
    induction p with
    | nil =>
      intro acc rest _
      rw [List.nil_append, List.append_nil, spl_hit (by simp [pre])]
      rfl
    | cons c r ih =>
      intro acc rest h
      have h1 : pre [s] (c :: (r ++ s :: rest)) = false := by
        have : c ≠ s := fun z => h (by rw [z]; exact List.mem_cons_self)
        show ((c :: (r ++ s :: rest)).take 1 == [s]) = false
        simp [this]
      rw [List.cons_append, spl_miss h1, ih (acc ++ [c]) rest fun z => h (List.mem_cons_of_mem _ z), List.append_assoc]
      rfl
  have last : ∀ (p acc : List Nat), s ∉ p → spl [s] 0 acc p = [acc ++ p] := by
    intro p
    induction p with
    | nil =>
      intro acc _
      rw [spl_nil, List.append_nil]
    | cons c r ih =>
      intro acc h
      have h1 : pre [s] (c :: r) = false := by
        have : c ≠ s := fun z => h (by rw [z]; exact List.mem_cons_self)
        show ((c :: r).take 1 == [s]) = false
        simp [this]
      rw [spl_miss h1, ih (acc ++ [c]) fun z => h (List.mem_cons_of_mem _ z), List.append_assoc]
      rfl
  intro ps
  induction ps with
  | nil => intro h; exact absurd rfl h
  | cons p r ih =>
    intro _ h
    cases r with
    | nil =>
      show spl [s] 0 [] p = [p]
      rw [last p [] (h p List.mem_cons_self)]
      rfl
    | cons q r =>
      have e : joinL [s] (p :: q :: r) = p ++ s :: joinL [s] (q :: r) := rfl
      rw [e, key p [] _ (h p List.mem_cons_self), ih (by simp) fun x hx => h x (List.mem_cons_of_mem _ hx)]
      rfl
theorem ent_read {q : Int × Int} (h1 : In60 q.1) (h2 : In60 q.2) : entI (entL q) = some q := by
  have e : spl [61] 0 [] (entL q) = [numI q.1, numI q.2] := by
    refine spl_join1 (s := 61) [numI q.1, numI q.2] (by simp) fun p hp => ?_
    simp only [List.mem_cons, List.not_mem_nil, or_false] at hp
    rcases hp with rfl | rfl
    · exact numI_free (by decide) (by decide) _
    · exact numI_free (by decide) (by decide) _
  unfold entI
  rw [e]
  simp only [read_num h1, read_num h2]
theorem ent_free {q : Int × Int} : 32 ∉ entL q := fun h => by
  rcases List.mem_append.mp h with h | h
  · exact numI_free (by decide) (by decide) _ h
  · rcases List.mem_cons.mp h with h | h
    · exact absurd h (by decide)
    · exact numI_free (by decide) (by decide) _ h
theorem walkE_own : ∀ (es : Tab) (i : Nat) (l : Option Int) (t : Tab), AscT es → (∀ m, l = some m → ∀ q ∈ es, m < q.1) → i ≤ 200 → walkE i l t (es.map entL) = if i + es.length ≤ 200 then .ok (t ++ es) else .error 200
  | [], i, l, t, _, _, hi => by
    rw [List.map_nil, walkE_nil, List.append_nil, if_pos (by simpa using hi)]
  | q :: es, i, l, t, a, h, hi => by
    obtain ⟨h1, h2⟩ := a.short q List.mem_cons_self
    rw [List.map_cons, walkE_some (ent_read h1 h2)]
    have late : lateB l q.1 = false := by
      cases l with
      | none => rfl
      | some m => exact decide_eq_false (by have := h m rfl q List.mem_cons_self; omega)
    by_cases c : i = 200
    · rw [if_pos (.inl c), if_neg (by rw [List.length_cons]; omega), c]
    · have asc := List.pairwise_cons.mp a.asc
      rw [if_neg (by rw [late]; rintro (z | z); exact c z; cases z), walkE_own es (i + 1) (some q.1) (t ++ [q]) ⟨asc.2, fun p hp => a.short p (List.mem_cons_of_mem _ hp)⟩ (fun m hm p hp => by rw [← Option.some.inj hm]; exact asc.1 p hp) (by omega)]
      rw [List.append_assoc]
      have e : i + 1 + es.length = i + (q :: es).length := by rw [List.length_cons]; omega
      rw [e]
      rfl
theorem readE_own {es : Tab} (a : AscT es) : readE (lineL es) = if es.length ≤ 200 then .ok es else .error 200 := by
  cases es with
  | nil => rfl
  | cons q es =>
    have sp : spl [32] 0 [] (lineL (q :: es)) = entL q :: es.map entL := by
      show spl [32] 0 [] (joinL [32] ((q :: es).map entL)) = _
      refine spl_join1 (s := 32) _ (by simp) fun p hp => ?_
      obtain ⟨r, _, rfl⟩ := List.mem_map.mp hp
      exact ent_free
    have nd : ¬ entL q = [45] := fun z => by
      have m : 61 ∈ entL q := List.mem_append_right _ List.mem_cons_self
      rw [z] at m
      exact absurd m (by decide)
    have w := walkE_own (q :: es) 0 none [] a (fun m hm => by cases hm) (Nat.zero_le _)
    unfold readE
    rw [sp]
    simp only
    rw [if_neg nd]
    rw [Nat.zero_add, List.nil_append] at w
    exact w
/-! ### ascending keys -/
theorem keys_asc {t : Tab} (a : t.Pairwise fun p q => p.1 < q.1) : (keysT t).Pairwise (· < ·) := List.pairwise_map.mpr a
theorem asc_one {l1 l2 : List Int} (h1 : l1.Pairwise (· < ·)) (h2 : l2.Pairwise (· < ·)) (p : l1.Perm l2) : l1 = l2 :=
  List.Perm.eq_of_pairwise (le := (· < ·)) (fun a b _ _ x y => by omega) h1 h2 p
theorem asc_of {ys ks : List Int} (p : ys.Perm ks) (nd : ks.Nodup) (le : ys.Pairwise (· ≤ ·)) : ys.Pairwise (· < ·) := by
  have nd2 : ys.Pairwise (· ≠ ·) := p.nodup_iff.mpr nd
  exact List.Pairwise.imp₂ (fun a b x y => by omega) le nd2
end Gk

/-! Formatted texts; != of dicts; steps -/
namespace Gx
open PySem L2 PySem.Spec PyProof.Rows
section
variable {X : Cx}
def tJoin (ts : List TE) : TE := fun σ H Q => tJs ts Str.empty σ H fun out H1 => Q (.str out) H1
theorem pe_joinT {v1 v2 : Expr} {rest : List Expr} {ts : List TE} {pos : Pos} (h : PJ X (v1 :: v2 :: rest) ts) : PE X (.JoinedStr (v1 :: v2 :: rest) pos) (tJoin ts) := pe_joined h
theorem g_join3 {t1 t2 t3 : TE} {σ : L2.St} {H : Hp} {Q : VK} (q : t1 σ H fun x H1 => ∃ y : Str, x = .str y ∧ (Str.empty ++ y).length ≤ sizeLine ∧ t2 σ H1 fun x2 H2 => ∃ y2 : Str, x2 = .str y2 ∧ (Str.empty ++ y ++ y2).length ≤ sizeLine ∧
    t3 σ H2 fun x3 H3 => ∃ y3 : Str, x3 = .str y3 ∧ (Str.empty ++ y ++ y2 ++ y3).length ≤ sizeLine ∧ Q (.str (Str.empty ++ y ++ y2 ++ y3)) H3) : tJoin [t1, t2, t3] σ H Q := q
theorem g_fmt {te : TE} {σ : L2.St} {H : Hp} {Q : VK} (q : te σ H fun x H1 => (∃ y : Str, x = .str y ∧ y.length ≤ sizeLine ∧ Q (.str y) H1) ∨ ∃ i : Int, x = .int i ∧ i.natAbs.log2 < 1920 ∧ Q (.str (toString i)) H1) : tFmt te σ H Q := q
def rNeTab : R2 := fun x y H Q => ∃ (a b : Addr) (t u : Tab), x = .ref a ∧ y = .ref b ∧ Rd H a (.dK (tabK t)) ∧ Rd H b (.dK (tabK u)) ∧ Q (.bl (!likeT t u)) H
/-- what == of two such dicts needs -/
theorem tab_hits {pins : List (Addr × Obj)} {σ : L2.St} {H : Hp} {s : Shared} {a b : Addr} {t u : Tab} (I : Inv X pins σ H s) (ha : Rd H a (.dK (tabK t))) (hb : Rd H b (.dK (tabK u))) :
    ∃ vs1 vs2 : List (Key × Value), (a == sysModules) = false ∧ (b == sysModules) = false ∧ s.heap.DictOf (mixKind X.prog X.w) a vs1 ∧ s.heap.DictOf (mixKind X.prog X.w) b vs2 ∧ vs1.length = t.length ∧ vs2.length = u.length ∧
      PySem.W.KeqHits X.A.in1 s vs2 vs1 (t.all fun p => decide (getT u p.1 = some p.2)) := by
  obtain ⟨z1, lo1, vs1, l1, e1, d1⟩ := tab_at I ha
  obtain ⟨z2, lo2, vs2, l2, e2, d2⟩ := tab_at I hb
  refine ⟨vs1, vs2, lo1, lo2, d1, d2, l1, l2, ?_⟩
  have val2 : ∀ k, (∀ j, getT u k = some j → ∃ w, PySem.valueAt vs2 (.inl k) = some (.int j w)) ∧ (getT u k = none → PySem.valueAt vs2 (.inl k) = none) := by
    have key : ∀ {u : Tab} {vs : List (Key × Value)}, vs.length = u.length → (∀ (i : Nat) q, vs[i]? = some q → ∃ p w, u[i]? = some p ∧ q = (.inl p.1, .int p.2 w)) → ∀ k, (∀ j, getT u k = some j → ∃ w, PySem.valueAt vs (.inl k) = some (.int j w)) ∧ (getT u k = none → PySem.valueAt vs (.inl k) = none) := by
      intro u
      induction u with
      | nil =>
        intro vs l g k
        cases vs with
        | nil => exact ⟨fun j h => (by cases h), fun _ => rfl⟩
        | cons _ _ => cases l
      | cons p u ih =>
        intro vs l g k
        cases vs with
        | nil => cases l
        | cons q vs =>
          obtain ⟨p2, w, hp, eq⟩ := g 0 q rfl
          obtain rfl := Option.some.inj hp
          subst eq
          have ih := ih (Nat.succ.inj l) (fun i q hq => g (i + 1) q hq) k
          by_cases h : p.1 = k
          · have a1 : getT (p :: u) k = some p.2 := by simp [getT, h]
            have a2 : PySem.valueAt (((.inl p.1 : Key), (Value.int p.2 w)) :: vs) (.inl k) = some (.int p.2 w) := by simp [PySem.valueAt, h]
            rw [a1, a2]
            exact ⟨fun j hj => ⟨w, by rw [Option.some.inj hj]⟩, fun z => (by cases z)⟩
          · have a1 : getT (p :: u) k = getT u k := by simp [getT, h]
            have a2 : PySem.valueAt (((.inl p.1 : Key), (Value.int p.2 w)) :: vs) (.inl k) = PySem.valueAt vs (.inl k) := by simp [PySem.valueAt, h]
            rw [a1, a2]
            exact ih
    exact key l2 e2
  have key : ∀ {t : Tab} {vs : List (Key × Value)}, vs.length = t.length → (∀ (i : Nat) q, vs[i]? = some q → ∃ p w, t[i]? = some p ∧ q = (.inl p.1, .int p.2 w)) → PySem.W.KeqHits X.A.in1 s vs2 vs (t.all fun p => decide (getT u p.1 = some p.2)) := by
    intro t
    induction t with
    | nil =>
      intro vs l g
      cases vs with
      | nil => exact .nil
      | cons _ _ => cases l
    | cons p t ih =>
      intro vs l g
      cases vs with
      | nil => cases l
      | cons q vs =>
        obtain ⟨p2, w, hp, eq⟩ := g 0 q rfl
        obtain rfl := Option.some.inj hp
        subst eq
        have ih := ih (Nat.succ.inj l) fun i q hq => g (i + 1) q hq
        rw [List.all_cons]
        cases hg : getT u p.1 with
        | none =>
          have e : decide ((none : Option Int) = some p.2) = false := rfl
          rw [e, Bool.false_and]
          exact .miss ((val2 p.1).2 hg)
        | some j =>
          obtain ⟨w2, hv⟩ := (val2 p.1).1 j hg
          refine .hit hv ?_ ih
          have e : decide (some j = some p.2) = (p.2 == j) := by
            by_cases h : p.2 = j
            · subst h
              simp
            · have h2 : ¬ j = p.2 := fun z => h z.symm
              simp [h, h2]
          rw [e]
          exact SeqAt.EqAt.int_int p.2 w j w2
  exact key l1 e1
theorem op_neTab (hu : X.A.units + 64 < cLine) : OpR X (compareOp .NotEq) rNeTab := by
  intro pins s σ H x y v w' Q I rx ry ask
  obtain ⟨a, b, t, u, rfl, rfl, ha, hb, q⟩ := ask
  cases rx
  cases ry
  obtain ⟨vs1, vs2, lo1, lo2, d1, d2, l1, l2, hits⟩ := tab_hits I ha hb
  refine PySem.W.keq_ne lo1 lo2 d1 d2 (by omega) (fun _ => hits) ⟨.bl _, H, I, rfl, ?_⟩
  rw [l1, l2]
  exact q
end
theorem like_self {t : Tab} (nd : (keysT t).Nodup) : likeT t t = true := by
  have key : ∀ t : Tab, (keysT t).Nodup → ∀ p ∈ t, getT t p.1 = some p.2 := by
    intro t
    induction t with
    | nil => intro _ p hp; cases hp
    | cons q t ih =>
      intro nd p hp
      obtain ⟨h1, h2⟩ := List.nodup_cons.mp nd
      rcases List.mem_cons.mp hp with rfl | hp
      · simp [getT]
      · have ne : ¬ q.1 = p.1 := fun z => h1 (List.mem_map.mpr ⟨p, hp, z.symm⟩)
        have e : getT (q :: t) p.1 = getT t p.1 := by simp [getT, ne]
        rw [e]
        exact ih h2 p hp
  unfold likeT
  rw [Bool.and_eq_true, List.all_eq_true]
  exact ⟨beq_self_eq_true _, fun p hp => decide_eq_true (key t nd p hp)⟩
theorem get_mem {t : Tab} (nd : (keysT t).Nodup) {p : Int × Int} (hp : p ∈ t) : getT t p.1 = some p.2 := by
  have h := like_self nd
  unfold likeT at h
  rw [Bool.and_eq_true, List.all_eq_true] at h
  exact of_decide_eq_true (h.2 p hp)
end Gx
namespace Gx
open PySem L2
theorem g_dput {td ty tv : TE} {D : Ends} {σ : L2.St} {H : Hp} (q : tv σ H fun v H1 => td σ H1 fun x H2 => ty σ H2 fun y H3 => ∃ a H4, x = .ref a ∧ DPut H3 a y v H4 ∧ D.nx σ H4) : sDPut td ty tv D σ H := q
end Gx

/-! The sizes of words that are joined by one sign; the text without its last sign -/
namespace Gx
open PySem L2 SX TL
theorem cutS_last (a : List Nat) : cutS (S a) none (some (-1)) = S a.dropLast := by
  unfold cutS
  rw [HT.sIx_none, S_len]
  show S ((a.drop 0).take ((if (-1 : Int) < 0 then ((-1 : Int) + (a.length : Int)).toNat else min (-1 : Int).toNat a.length) - 0)) = S a.dropLast
  rw [if_pos (by decide), List.drop_zero, Nat.sub_zero, List.dropLast_eq_take]
  congr 2
  omega
end Gx
namespace Gk
open PySem L2 Gx SX TL
def sizeW (ps : List (List Nat)) : Nat := (ps.map (·.length)).sum + ps.length
theorem sizeW_append (ps qs : List (List Nat)) : sizeW (ps ++ qs) = sizeW ps + sizeW qs := by
  unfold sizeW
  rw [List.map_append, List.sum_append, List.length_append]
  omega
theorem sizeW_cut (ps : List (List Nat)) (k : Nat) : sizeW (ps.take k) + sizeW (ps.drop k) = sizeW ps := by
  rw [← sizeW_append, List.take_append_drop]
theorem sizeW_one (o : List Nat) : sizeW [o] = o.length + 1 := by
  show (o.length + 0) + 1 = _
  omega
theorem sizeW_set {ps : List (List Nat)} {k : Nat} {o : List Nat} (h : k < ps.length) : sizeW (ps.set k o) + ps[k].length = sizeW ps + o.length := by
  rw [List.set_eq_take_append_cons_drop, if_pos h]
  have h1 := sizeW_cut ps k
  have h2 : sizeW (o :: ps.drop (k + 1)) = o.length + 1 + sizeW (ps.drop (k + 1)) := by
    rw [← sizeW_one, ← sizeW_append]
    rfl
  have h3 : ps.drop k = ps[k] :: ps.drop (k + 1) := List.drop_eq_getElem_cons h
  have h4 : sizeW (ps.drop k) = ps[k].length + 1 + sizeW (ps.drop (k + 1)) := by
    rw [h3, ← sizeW_one, ← sizeW_append]
    rfl
  rw [sizeW_append, h2]
  omega
theorem sizeW_join : ∀ ps : List (List Nat), ps ≠ [] → (joinL [32] ps).length + 1 = sizeW ps
  | [], h => absurd rfl h
  | [p], _ => by
    show p.length + 1 = (p.length + 0) + 1
    omega
  | p :: q :: r, _ => by
    have ih := sizeW_join (q :: r) (by simp)
    have e : joinL [32] (p :: q :: r) = p ++ ([32] ++ joinL [32] (q :: r)) := rfl
    rw [e, List.length_append, List.length_append]
    unfold sizeW at ih ⊢
    rw [List.map_cons, List.sum_cons, List.length_cons (a := p)]
    simp only [List.length_cons, List.length_nil] at ih ⊢
    omega
theorem sizeW_spl (a : List Nat) : sizeW (spl [32] 0 [] a) = a.length + 1 := by
  rw [← sizeW_join _ (spl_lens [32] a 0 []).2.2, join_spl0 (by simp)]
theorem sizeW_few (ps : List (List Nat)) : ps.length ≤ sizeW ps := by
  unfold sizeW
  omega
theorem low_joinW {ps : List (List Nat)} (h : ∀ p ∈ ps, Low p) : Low (joinL [32] ps) := fun c hc => by
  rcases mem_join hc with z | ⟨p, hp, z⟩
  · simp at z
    omega
  · exact h p hp c z
theorem sumW_S (ps : List (List Nat)) : ((ps.map S).map (·.length)).sum + (ps.map S).length * (Str.ofString " ").length ≤ sizeW ps := by
  have e : (ps.map S).map (·.length) = ps.map (·.length) := by
    rw [List.map_map]
    exact List.map_congr_left fun p _ => S_len p
  have e2 : (Str.ofString " ").length = 1 := rfl
  rw [e, e2, List.length_map]
  unfold sizeW
  omega
theorem low_dropLast {a : List Nat} (h : Low a) : Low a.dropLast := fun c hc => h c (List.dropLast_subset a hc)
theorem atI_some {xs : List Nat} {i : Int} (h0 : 0 ≤ i) (h1 : i < xs.length) : ∃ v, atI xs i = some v ∧ v ∈ xs := by
  obtain ⟨j, rfl⟩ : ∃ j : Nat, i = (j : Int) := ⟨i.toNat, by omega⟩
  have hj : j < xs.length := by omega
  exact ⟨xs[j], atI_nat (List.getElem?_eq_getElem hj), List.getElem_mem hj⟩
end Gk
namespace Gx
open PySem L2
/-- nothing that is told stands there -/
def NV (H : Hp) (p : Addr) : Prop := ∀ o, vis o = true → H p = some o → False
theorem nv_of {H H' : Hp} {p : Addr} (s : SmV H H') (h : H' p = none) : NV H p := fun o v e => by
  rw [s p o v e] at h
  cases h
theorem smv_mutV {H H' : Hp} {p : Addr} {o : HO} (s : SmV H H') (h : NV H p) : SmV H (upd H' p o) := fun a u v e => by
  by_cases c : a = p
  · subst c
    exact (h u v e).elim
  · rw [upd_ne c]
    exact s a u v e
end Gx

/-! What the head needs of classes of errors -/
namespace Gx
open PySem L2 PySem.Spec PyProof.Rows
theorem kit_refs {K : PySem.W.Frag} {C D : Addr} {b : Bool} (ne : (Value.ref C == Value.ref D) = false) (h1 : PySem.W.isClsIn K D = true) (h2 : PySem.W.typeIn K (.ref D) = some (.type "type")) (h3 : PySem.W.subIn K (.ref C) (.ref D) = some b) : PySem.W.kitOne K (.ref C) (.ref D) = some b := by
  have e2 : ((PySem.W.clsIn K D).isSome && PySem.W.typeIn K (.ref D) == some (.type "type")) = true := by
    have h1' : (PySem.W.clsIn K D).isSome = true := h1
    rw [h1', h2] <;> rfl
  unfold PySem.W.kitOne
  rw [if_neg (by rw [ne]; exact Bool.false_ne_true)]
  show (if ((PySem.W.clsIn K D).isSome && PySem.W.typeIn K (.ref D) == some (.type "type")) = true then PySem.W.subIn K (.ref C) (.ref D) else none) = some b
  rw [if_pos e2]
  exact h3
theorem kit_self {K : PySem.W.Frag} {C : Addr} : PySem.W.kitOne K (.ref C) (.ref C) = some true := by
  unfold PySem.W.kitOne
  rw [if_pos (beq_self_eq_true _)]
theorem kit_none2 {K : PySem.W.Frag} {C D1 D2 : Addr} (h1 : PySem.W.kitOne K (.ref C) (.ref D1) = some false) (h2 : PySem.W.kitOne K (.ref C) (.ref D2) = some false) : PySem.W.kitAny K (.ref C) [.ref D1, .ref D2] = some false :=
  kitAny_cons h1 (fun _ => kitAny_cons h2 (fun _ => rfl) (fun z => by cases z)) (fun z => by cases z)
end Gx
namespace Gk
open PySem L2 Gx
theorem lack_names {K : PySem.W.Frag} {d : Addr} {es : Array DictEntry} {n : Nat} (hl : K.lookup d = some ⟨.type "dict", none, .dict es n, #[]⟩) {t0 t1 t2 t3 : Tok}
    (hk : es.toList.map (·.key) = ([("read", t0), ("values", t1), ("put", t2), ("erase", t3)] : List (Str × Tok)).map fun k => Value.str k.1 k.2) {z : Str} (hz : nameOf z = none) : PySem.W.nsIn K d z = some none := by
  refine table_lacks hl hk fun k hm e => ?_
  rcases List.mem_cons.mp hm with rfl | hm
  · have e2 : ("read" : Str) = z := e
    subst e2
    exact absurd hz (by decide +kernel)
  rcases List.mem_cons.mp hm with rfl | hm
  · have e2 : ("values" : Str) = z := e
    subst e2
    exact absurd hz (by decide +kernel)
  rcases List.mem_cons.mp hm with rfl | hm
  · have e2 : ("put" : Str) = z := e
    subst e2
    exact absurd hz (by decide +kernel)
  rcases List.mem_cons.mp hm with rfl | hm
  · have e2 : ("erase" : Str) = z := e
    subst e2
    exact absurd hz (by decide +kernel)
  · cases hm
end Gk

namespace Gk
open PySem L2 Gx
open C8 (Cal Met Mak pe_c pe_mt pe_mt0 pe_mk pe_gc)
local macro_rules | `(tactic| walk_at "g") => `(tactic| (first
  | with_reducible refine g_seq ?_ | with_reducible refine g_asg ?_ | ((with_reducible show tVar _ _ _ _); refine g_var rfl ?_) | with_reducible refine g_c ?_ | with_reducible refine g_name ?_ | with_reducible refine g_op ?_ | with_reducible refine g_I0 ?_
  | with_reducible refine g_cons ?_ | with_reducible refine g_nil ?_ | with_reducible refine g_exbl ?_ | with_reducible refine g_exint ?_ | with_reducible refine g_test ?_ | with_reducible refine g_B ?_ | with_reducible refine g_ifS ?_ | with_reducible refine g_ret ?_ | with_reducible refine g_retN ?_ | with_reducible refine g_next ?_
  | with_reducible refine g_CB ?_ | with_reducible refine g_sub ?_ | with_reducible refine g_drop ?_ | with_reducible refine g_not ?_ | with_reducible refine g_and ?_ | with_reducible refine g_or ?_ | with_reducible refine g_andV ?_ | with_reducible refine g_orV ?_ | with_reducible refine g_notV ?_ | with_reducible refine g_ifE ?_ | with_reducible refine g_isN ?_
  | with_reducible refine g_par ?_ | with_reducible refine g_expar ?_ | with_reducible refine g_chain ?_ | with_reducible refine g_un ?_ | with_reducible refine g_U ?_ | with_reducible refine g_bits ?_ | ((with_reducible show rEq _ _ _ _); refine g_eq rfl ?_) | ((with_reducible show rNe _ _ _ _); refine g_ne rfl ?_)
  | with_reducible refine g_for ?_ | with_reducible refine g_iRng1 ?_ | with_reducible refine g_iRng2 ?_ | with_reducible refine g_iList ?_ | with_reducible refine g_iTup ?_
  | ((with_reducible refine g_Imul ?hc ?_); (case hc => (first | (refine Or.inl ⟨?_, ?_⟩ <;> first | decide | omega) | (refine Or.inr ⟨?_, ?_⟩ <;> first | decide | omega))))
  | ((with_reducible refine g_Idiv ?hc ?_); (case hc => (first | (exact ⟨by decide, by decide⟩) | assumption)))
  | ((with_reducible refine g_Imod ?hc ?_); (case hc => (first | assumption | omega | decide)))
  | ((with_reducible refine g_exR1 ?hlo ?hhi ?_); (case hlo => omega); (case hhi => omega))
  | ((with_reducible refine g_exR2 ?hb ?_); (case hb => omega))
  | with_reducible refine g_lst ?_ | with_reducible refine g_tup ?_ | with_reducible refine g_call ?_ | with_reducible refine g_BM ?_ | with_reducible refine g_BM0 ?_
  | with_reducible refine g_intB ?_ | with_reducible refine g_lc ?_ | with_reducible refine g_yes ?_ | with_reducible refine g_iZip ?_ | with_reducible refine g_sl ?_ | with_reducible refine g_noP ?_ | with_reducible refine g_part ?_ | with_reducible refine g_gcons ?_ | with_reducible refine g_gnil ?_
  | with_reducible refine g_tfld ?_ | with_reducible refine g_tmeth ?_ | with_reducible refine g_tmake ?_ | with_reducible refine g_sfld ?_ | with_reducible refine g_tprop ?_ | with_reducible refine g_tstar ?_ | with_reducible refine g_tmethK ?_ | with_reducible refine g_isN1 ?_ | with_reducible refine g_notN1 ?_))
local macro_rules | `(tactic| walk_at "gs1") => `(tactic| (first
  | with_reducible refine g_seq ?_ | with_reducible refine g_asg ?_ | ((with_reducible show tVar _ _ _ _); refine g_var rfl ?_) | with_reducible refine g_c ?_ | with_reducible refine g_name ?_ | with_reducible refine g_op ?_ | with_reducible refine g_I0 ?_
  | with_reducible refine g_cons ?_ | with_reducible refine g_nil ?_ | with_reducible refine g_exbl ?_ | with_reducible refine g_exint ?_ | with_reducible refine g_test ?_ | with_reducible refine g_B ?_ | with_reducible refine g_ifS ?_ | with_reducible refine g_retN ?_ | with_reducible refine g_next ?_
  | with_reducible refine g_CB ?_ | with_reducible refine g_sub ?_ | with_reducible refine g_drop ?_ | with_reducible refine g_not ?_ | with_reducible refine g_and ?_ | with_reducible refine g_or ?_ | with_reducible refine g_andV ?_ | with_reducible refine g_orV ?_ | with_reducible refine g_notV ?_ | with_reducible refine g_ifE ?_ | with_reducible refine g_isN ?_
  | with_reducible refine g_par ?_ | with_reducible refine g_expar ?_ | with_reducible refine g_chain ?_ | with_reducible refine g_un ?_ | with_reducible refine g_U ?_ | with_reducible refine g_bits ?_ | ((with_reducible show rEq _ _ _ _); refine g_eq rfl ?_) | ((with_reducible show rNe _ _ _ _); refine g_ne rfl ?_)
  | with_reducible refine g_for ?_ | with_reducible refine g_iRng1 ?_ | with_reducible refine g_iRng2 ?_ | with_reducible refine g_iList ?_ | with_reducible refine g_iTup ?_
  | ((with_reducible refine g_Imul ?hc ?_); (case hc => (first | (refine Or.inl ⟨?_, ?_⟩ <;> first | decide | omega) | (refine Or.inr ⟨?_, ?_⟩ <;> first | decide | omega))))
  | ((with_reducible refine g_Idiv ?hc ?_); (case hc => (first | (exact ⟨by decide, by decide⟩) | assumption)))
  | ((with_reducible refine g_Imod ?hc ?_); (case hc => (first | assumption | omega | decide)))
  | ((with_reducible refine g_exR1 ?hlo ?hhi ?_); (case hlo => omega); (case hhi => omega))
  | ((with_reducible refine g_exR2 ?hb ?_); (case hb => omega))
  | with_reducible refine g_lst ?_ | with_reducible refine g_tup ?_ | with_reducible refine g_call ?_ | with_reducible refine g_BM ?_ | with_reducible refine g_BM0 ?_
  | with_reducible refine g_intB ?_ | with_reducible refine g_lc ?_ | with_reducible refine g_yes ?_ | with_reducible refine g_iZip ?_ | with_reducible refine g_sl ?_ | with_reducible refine g_noP ?_ | with_reducible refine g_part ?_ | with_reducible refine g_gcons ?_ | with_reducible refine g_gnil ?_
  | with_reducible refine g_tfld ?_ | with_reducible refine g_tmeth ?_ | with_reducible refine g_tmake ?_ | with_reducible refine g_sfld ?_ | with_reducible refine g_tprop ?_ | with_reducible refine g_tstar ?_ | with_reducible refine g_tmethK ?_ | with_reducible refine g_isN1 ?_ | with_reducible refine g_notN1 ?_))
local macro_rules | `(tactic| walk_at "gx1") => `(tactic| (first
  | with_reducible refine g_seq ?_ | with_reducible refine g_asg ?_ | ((with_reducible show tVar _ _ _ _); refine g_var rfl ?_) | with_reducible refine g_c ?_ | with_reducible refine g_name ?_ | with_reducible refine g_op ?_ | with_reducible refine g_I0 ?_
  | with_reducible refine g_cons ?_ | with_reducible refine g_nil ?_ | with_reducible refine g_exbl ?_ | with_reducible refine g_exint ?_ | with_reducible refine g_test ?_ | with_reducible refine g_B ?_ | with_reducible refine g_ifS ?_ | with_reducible refine g_retN ?_ | with_reducible refine g_next ?_
  | with_reducible refine g_CB ?_ | with_reducible refine g_sub ?_ | with_reducible refine g_drop ?_ | with_reducible refine g_not ?_ | with_reducible refine g_and ?_ | with_reducible refine g_or ?_ | with_reducible refine g_andV ?_ | with_reducible refine g_orV ?_ | with_reducible refine g_notV ?_ | with_reducible refine g_ret ?_ | with_reducible refine g_isN ?_
  | with_reducible refine g_par ?_ | with_reducible refine g_expar ?_ | with_reducible refine g_chain ?_ | with_reducible refine g_un ?_ | with_reducible refine g_U ?_ | with_reducible refine g_bits ?_ | ((with_reducible show rEq _ _ _ _); refine g_eq rfl ?_) | ((with_reducible show rNe _ _ _ _); refine g_ne rfl ?_)
  | with_reducible refine g_for ?_ | with_reducible refine g_iRng1 ?_ | with_reducible refine g_iRng2 ?_ | with_reducible refine g_iList ?_ | with_reducible refine g_iTup ?_
  | ((with_reducible refine g_Imul ?hc ?_); (case hc => (first | (refine Or.inl ⟨?_, ?_⟩ <;> first | decide | omega) | (refine Or.inr ⟨?_, ?_⟩ <;> first | decide | omega))))
  | ((with_reducible refine g_Idiv ?hc ?_); (case hc => (first | (exact ⟨by decide, by decide⟩) | assumption)))
  | ((with_reducible refine g_Imod ?hc ?_); (case hc => (first | assumption | omega | decide)))
  | ((with_reducible refine g_exR1 ?hlo ?hhi ?_); (case hlo => omega); (case hhi => omega))
  | ((with_reducible refine g_exR2 ?hb ?_); (case hb => omega))
  | with_reducible refine g_lst ?_ | with_reducible refine g_tup ?_ | with_reducible refine g_call ?_ | with_reducible refine g_BM ?_ | with_reducible refine g_BM0 ?_
  | with_reducible refine g_intB ?_ | with_reducible refine g_lc ?_ | with_reducible refine g_yes ?_ | with_reducible refine g_iZip ?_ | with_reducible refine g_sl ?_ | with_reducible refine g_noP ?_ | with_reducible refine g_part ?_ | with_reducible refine g_gcons ?_ | with_reducible refine g_gnil ?_
  | with_reducible refine g_tfld ?_ | with_reducible refine g_tmeth ?_ | with_reducible refine g_tmake ?_ | with_reducible refine g_sfld ?_ | with_reducible refine g_tprop ?_ | with_reducible refine g_tstar ?_ | with_reducible refine g_tmethK ?_ | with_reducible refine g_isN1 ?_ | with_reducible refine g_notN1 ?_))
local macro_rules | `(tactic| walk_at "hp") => `(tactic| (first | assumption | exact upd_same | (refine same_get (by assumption) ?_; walk_at "hp")))
local macro_rules | `(tactic| walk_at "sm") => `(tactic| (first | assumption | exact Same.refl _ | (refine Same.trans ?ha (by assumption); walk_at "sm")))
local macro_rules | `(tactic| walk_at "nn") => `(tactic| (first | assumption | (refine same_free (by assumption) ?_; walk_at "nn")))
local macro_rules | `(tactic| walk_at "sb") => `(tactic| (first | decide | (refine small_bits ?_ ?_ <;> omega)))
local macro_rules | `(tactic| walk_at "ln") => `(tactic| (simp only [List.length_cons, List.length_nil]; omega))
local macro_rules | `(tactic| walk_at "gg") => `(tactic| (repeat walk_at "g"))
local macro_rules | `(tactic| walk_at "gs") => `(tactic| (repeat walk_at "gs1"))
local macro_rules | `(tactic| walk_at "gx") => `(tactic| (repeat walk_at "gx1"))

def top (i : Nat) : Stmt := PySem.Challenge.pw_gapreach_k81_entries_written_and_read.main.body.getD i (.Pass ⟨0, 0, 0, 0⟩)
section
variable {P : Program} {w : World} {K : PySem.W.Frag} {mg : Str → Option Value} {base : Heap} {X : Cx}
theorem g_mulW {a b : Int} {H : Hp} {Q : VK} (ha : a.natAbs < 2 ^ 200) (hb : b.natAbs < 2 ^ 200) (q : Q (.int (a * b)) H) : rI CMulW (fun i j => .int (i * j)) (.int a) (.int b) H Q := ⟨a, b, rfl, rfl, wide_mul ha hb (by decide) (by decide) (by decide), q⟩
theorem seq_zero (n : Nat) (h : 0 < n) : seqIndex? 0 n = some 0 := by
  have h2 : (0 : Int) < (n : Int) := by omega
  simp [seqIndex?, h2]
  try omega
theorem ix_zero (n : Nat) (h : 0 < n) : ixN n 0 = some 0 := by
  have h2 : (0 : Int) < (n : Int) := by omega
  simp [ixN, seqIndex?, h2]
  try omega
theorem pos_tail {n : Int} {ns : List Int} (h : ∀ x ∈ n :: ns, (0 : Int) ≤ x) : ∀ x ∈ ns, (0 : Int) ≤ x := fun x hx => h x (List.mem_cons_of_mem _ hx)
abbrev s_drip : Stmt := top 15
abbrev N_drip : List Str := ["_law_flask_here", "_law_many", "_law_found", "_law_blend"]
theorem sc_drip : FnScope N_drip ["_law_flask_here", "_law_many"] (defScope s_drip) := ⟨rfl, rfl, rfl, by decide +kernel, rfl, by decide +kernel, by decide +kernel⟩

theorem ok_drip {f : Addr} {fd : FuncData} (D : Dn K mg "_law_drip" s_drip ["_law_flask_here", "_law_many"] f fd) (T : Bt mg) : Cal P w K mg base 1 "_law_drip" spDrip [] := by
  refine cal_of D (drip_view rfl (D.fn.ok sc_drip (fun vs H Q E h => ?_) (fun cdv A outer s H vs Q E hr h => ?_)))
  · obtain ⟨f, q, b, n, m, ns, rfl, _⟩ := h
    rfl
  · obtain ⟨f, q, b, n, m, ns, rfl, hn, hf, hq, pos, b0, b1, n0, n1, m0, m1, k⟩ := h
    refine ⟨_, (pss_cons (ps_while PassesOwn.never (PW.pt (pw_and (pt_cmpR (op_neD hr.units) (pe_ix ix_list (pv 0) pe_int (fun _ _ => rfl)) (pe_lst pa_nil) (nomark _)) (pw_and1 (pt_cmpR op_lt (pe_ix ix_list (pe_ix ix_list (pv 0) pe_int (fun _ _ => rfl)) pe_int (fun _ _ => rfl)) pe_int (nomark _))))) (pss_one (ps_expr (pe_bm PySem.F.plainAttrs_list PySem.F.slot_list_pop PySem.F.type_list_pop mt_popAt (pe_ix ix_list (pv 0) pe_int (fun _ _ => rfl)) (pa_cons pe_int pa_nil)))))
    (pss_cons (ps_if (pt_cmpR (op_neD hr.units) (pe_ix ix_list (pv 0) pe_int (fun _ _ => rfl)) (pe_lst pa_nil) (nomark _)) (pss_cons (ps_set (i := 2) sc_drip.nd rfl (Or.inl rfl) (pe_op op_mod (pe_ix ix_list (pe_ix ix_list (pv 0) pe_int (fun _ _ => rfl)) pe_int (fun _ _ => rfl)) (pv 1)))
    (pss_cons (ps_asg (pe_op op_fdivW (pe_ix ix_list (pe_ix ix_list (pv 0) pe_int (fun _ _ => rfl)) pe_int (fun _ _ => rfl)) (pv 1)) (pg_sub (pe_ix ix_list (pv 0) pe_int (fun _ _ => rfl)) pe_int set_list))
    (pss_one (ps_ret (pv 2))))) pss_nil)
    (pss_cons (ps_asg (pe_op op_add (pe_ix ix_list (pv 0) pe_int (fun _ _ => rfl)) pe_int) (pg_sub (pv 0) pe_int set_list))
    (pss_cons (ps_set (i := 3) sc_drip.nd rfl (Or.inl rfl) (pe_op op_add (pe_op op_mulW (pe_ix ix_list (pv 0) pe_int (fun _ _ => rfl)) (pe_ix ix_list (pv 0) pe_int (fun _ _ => rfl))) (pe_op op_mulW (pe_op op_mulW pe_int (pe_ix ix_list (pv 0) pe_int (fun _ _ => rfl))) (pe_ix ix_list (pv 0) pe_int (fun _ _ => rfl)))))
    (pss_cons (ps_asg (pe_op op_mod (pe_op op_add (pv 3) (pe_op op_mulW pe_int (pe_ix ix_list (pv 0) pe_int (fun _ _ => rfl)))) pe_int) (pg_sub (pv 0) pe_int set_list))
    (pss_cons (ps_set (i := 3) sc_drip.nd rfl (Or.inl rfl) (pe_op op_add (pe_op op_mulW (pe_ix ix_list (pv 0) pe_int (fun _ _ => rfl)) (pe_ix ix_list (pv 0) pe_int (fun _ _ => rfl))) (pe_op op_mulW pe_int (pe_ix ix_list (pv 0) pe_int (fun _ _ => rfl)))))
    (pss_one (ps_ret (pe_op op_mod (pe_op op_fdivW (pe_op op_add (pe_op op_mulW (pe_ix ix_list (pv 0) pe_int (fun _ _ => rfl)) (pe_op op_pow pe_int pe_int)) (pe_op op_mod (pv 3) pe_int)) (pe_op op_pow pe_int pe_int)) (pv 1)))))))))), ?_⟩
    have p1 : (0 : Int) < 170141183460469231731687303715884105727 := by decide
    walk_at "gg"
    refine ⟨fun (μ : Nat) (σ : L2.St) (H' : Hp) => ∃ ns' : List Int, μ = ns'.length ∧ σ = [some (.ref f), some (.int m), none, none] ∧ (∀ n ∈ ns', 0 ≤ n) ∧ (∀ a o, a ≠ f → a ≠ q → H a = some o → H' a = some o) ∧ H' f = some (.lst [.ref q, .int b, .int n]) ∧ H' q = some (.lst (ns'.map V.int)),
      ⟨_, ns, rfl, rfl, pos, fun a o _ _ e => e, hf, hq⟩, ?_⟩
    rintro μ σ H' ⟨ns', rfl, rfl, pos', st, hf', hq'⟩
    refine g_cutT (fun c H1 => (c = true → ∃ x r, ns' = x :: r) ∧ Same H' H1) (fun Q' kq => ?_) ?_
    · walk_at "gg"
      refine g_ixL (SqL.of hf') rfl ?_
      walk_at "gg"
      refine g_mkL (by walk_at "ln") fun l1 H1 n1 S1 e1 => ?_
      refine g_neI (ms := []) (SqL.of (S1 _ _ hq')) (SqL.of e1) ?_
      walk_at "gg"
      cases ns' with
      | nil =>
        refine g_ifF rfl ?_
        exact kq _ _ ⟨nofun, S1⟩
      | cons x r =>
        refine g_ifT rfl ?_
        walk_at "gg"
        refine g_ixL (SqL.of (S1 _ _ hf')) rfl ?_
        walk_at "gg"
        refine g_ixL (SqL.of (S1 _ _ hq')) (atI_head rfl) ?_
        walk_at "gg"
        exact kq _ _ ⟨fun _ => ⟨x, r, rfl⟩, S1⟩
    rintro c H1 ⟨hc, S1⟩
    have st1 : ∀ a o, a ≠ f → a ≠ q → H a = some o → H1 a = some o := fun a o h1 h2 e => S1 _ _ (st a o h1 h2 e)
    have hf1 := S1 _ _ hf'
    have hq1 := S1 _ _ hq'
    cases c with
    | true =>
      obtain ⟨x, r, rfl⟩ := hc rfl
      refine g_ifT rfl ?_
      refine ⟨_, fun _ _ z => z, ?_⟩
      walk_at "gg"
      refine g_ixL (SqL.of hf1) rfl ?_
      refine g_tyL hq1 ?_
      walk_at "gg"
      refine ⟨q, _, 0, 0, .int x, rfl, rfl, hq1, by decide, by decide, seq_zero _ (by simp), rfl, ?_⟩
      walk_at "gg"
      refine ⟨r.length, Nat.lt_succ_self _, r, rfl, rfl, pos_tail pos', fun a o h1 h2 e => ?_, ?_, upd_same⟩
      · rw [upd_ne h2]
        exact st1 a o h1 h2 e
      · rw [upd_ne (Ne.symm hn)]
        exact hf1
    | false =>
      refine g_ifF rfl ?_
      clear hc
      walk_at "gg"
      refine g_ixL (SqL.of hf1) rfl ?_
      walk_at "gg"
      refine g_mkL (by walk_at "ln") fun l2 H2 n2 S2 e2 => ?_
      have hf2 := S2 _ _ hf1
      have hq2 := S2 _ _ hq1
      have st2 : ∀ a o, a ≠ f → a ≠ q → H a = some o → H2 a = some o := fun a o h1 h2 e => S2 _ _ (st1 a o h1 h2 e)
      refine g_neI (ms := []) (SqL.of hq2) (SqL.of e2) ?_
      walk_at "gg"
      cases ns' with
      | cons x r =>
        refine g_ifT rfl ?_
        walk_at "gg"
        refine g_ixL (SqL.of hf2) rfl ?_
        walk_at "gg"
        refine g_ixL (SqL.of hq2) (atI_head rfl) ?_
        walk_at "gg"
        refine g_ixL (SqL.of hf2) rfl ?_
        walk_at "gg"
        refine g_ixL (SqL.of hq2) (atI_head rfl) ?_
        walk_at "gg"
        refine g_Idiv (wide_div m0 m1 (by decide) (by decide)) ?_
        walk_at "gg"
        refine g_ixL (SqL.of hf2) rfl ?_
        walk_at "gg"
        refine g_setL hq2 (ix_zero _ (by simp)) ?_
        walk_at "gg"
        have x0 : 0 ≤ x := pos' x List.mem_cons_self
        refine k _ b n (x / m :: r) _ (Int.emod_nonneg _ (by omega)) (Int.emod_lt_of_pos _ m0) b0 b1 n0 (by omega) (fun z hz => ?_) (fun a o h1 h2 e => ?_) upd_same ?_
        · rcases List.mem_cons.mp hz with rfl | hz
          · exact Int.ediv_nonneg x0 (by omega)
          · exact pos_tail pos' z hz
        · rw [upd_ne h2]
          exact st2 a o h1 h2 e
        · rw [upd_ne (Ne.symm hn)]
          exact hf2
      | nil =>
        refine g_ifF rfl ?_
        walk_at "gg"
        refine g_ixL (SqL.of hf2) rfl ?_
        walk_at "gg"
        refine g_setL hf2 rfl ?_
        walk_at "gg"
        refine g_ixL (SqL.of upd_same) rfl ?_
        walk_at "gg"
        refine g_ixL (SqL.of upd_same) rfl ?_
        have b2 : b < 170141183460469231731687303715884105727 := b1
        have nb : b.natAbs < 2 ^ 200 := by omega
        have nn : n.natAbs < 2 ^ 200 := by omega
        refine g_mulW (by omega) (by omega) ?_
        walk_at "gg"
        refine g_ixL (SqL.of upd_same) rfl ?_
        refine g_mulW (by omega) (by omega) ?_
        walk_at "gg"
        refine g_ixL (SqL.of upd_same) rfl ?_
        refine g_mulW (by omega) (by omega) ?_
        walk_at "gg"
        refine g_ixL (SqL.of upd_same) rfl ?_
        refine g_mulW (by omega) (by omega) ?_
        walk_at "gg"
        generalize hy : (b * b + 70001 * (n + 1) * (n + 1) + 31 * (n + 1)) % 170141183460469231731687303715884105727 = y
        have y0 : 0 ≤ y := by rw [← hy]; exact Int.emod_nonneg _ (by decide)
        have y1 : y < 170141183460469231731687303715884105727 := by rw [← hy]; exact Int.emod_lt_of_pos _ (by decide)
        refine g_setL upd_same rfl ?_
        walk_at "gg"
        refine g_ixL (SqL.of upd_same) rfl ?_
        walk_at "gg"
        refine g_ixL (SqL.of upd_same) rfl ?_
        refine g_mulW (by omega) (by omega) ?_
        walk_at "gg"
        refine g_ixL (SqL.of upd_same) rfl ?_
        refine g_mulW (by omega) (by omega) ?_
        walk_at "gg"
        refine g_ixL (SqL.of upd_same) rfl ?_
        walk_at "gg"
        refine g_pow (c := 100000000000000000000000000000000000000) ⟨by decide, by decide, by decide⟩ (by decide +kernel) ?_
        refine g_mulW (by omega) (by decide) ?_
        walk_at "gg"
        refine g_pow (c := 34359738368) ⟨by decide, by decide, by decide⟩ (by decide +kernel) ?_
        refine g_Idiv (wide_div (b := 100) (by decide) (by decide) (by decide) (by decide)) ?_
        walk_at "gg"
        refine k _ y (n + 1) [] _ (Int.emod_nonneg _ (by omega)) (Int.emod_lt_of_pos _ m0) y0 y1 (by omega) (by omega) nofun (fun a o h1 h2 e => ?_) ?_ upd_same
        · rw [upd_ne h1, upd_ne h1]
          exact st2 a o h1 h2 e
        · rw [upd_ne hn, upd_ne hn]
          exact hq2
end
end Gk

namespace Gk
open PySem L2 Gx
open C8 (Cal Met Mak pe_c pe_mt pe_mt0 pe_mk pe_gc)
local macro_rules | `(tactic| walk_at "g") => `(tactic| (first
  | with_reducible refine g_seq ?_ | with_reducible refine g_asg ?_ | ((with_reducible show tVar _ _ _ _); refine g_var rfl ?_) | with_reducible refine g_c ?_ | with_reducible refine g_name ?_ | with_reducible refine g_op ?_ | with_reducible refine g_I0 ?_
  | with_reducible refine g_cons ?_ | with_reducible refine g_nil ?_ | with_reducible refine g_exbl ?_ | with_reducible refine g_exint ?_ | with_reducible refine g_test ?_ | with_reducible refine g_B ?_ | with_reducible refine g_ifS ?_ | with_reducible refine g_ret ?_ | with_reducible refine g_retN ?_ | with_reducible refine g_next ?_
  | with_reducible refine g_CB ?_ | with_reducible refine g_sub ?_ | with_reducible refine g_drop ?_ | with_reducible refine g_not ?_ | with_reducible refine g_and ?_ | with_reducible refine g_or ?_ | with_reducible refine g_andV ?_ | with_reducible refine g_orV ?_ | with_reducible refine g_notV ?_ | with_reducible refine g_ifE ?_ | with_reducible refine g_isN ?_
  | with_reducible refine g_par ?_ | with_reducible refine g_expar ?_ | with_reducible refine g_chain ?_ | with_reducible refine g_un ?_ | with_reducible refine g_U ?_ | with_reducible refine g_bits ?_ | ((with_reducible show rEq _ _ _ _); refine g_eq rfl ?_) | ((with_reducible show rNe _ _ _ _); refine g_ne rfl ?_)
  | with_reducible refine g_for ?_ | with_reducible refine g_iRng1 ?_ | with_reducible refine g_iRng2 ?_ | with_reducible refine g_iList ?_ | with_reducible refine g_iTup ?_
  | ((with_reducible refine g_Imul ?hc ?_); (case hc => (first | (refine Or.inl ⟨?_, ?_⟩ <;> first | decide | omega) | (refine Or.inr ⟨?_, ?_⟩ <;> first | decide | omega))))
  | ((with_reducible refine g_Idiv ?hc ?_); (case hc => (first | (exact ⟨by decide, by decide⟩) | assumption)))
  | ((with_reducible refine g_Imod ?hc ?_); (case hc => (first | assumption | omega | decide)))
  | ((with_reducible refine g_exR1 ?hlo ?hhi ?_); (case hlo => omega); (case hhi => omega))
  | ((with_reducible refine g_exR2 ?hb ?_); (case hb => omega))
  | with_reducible refine g_lst ?_ | with_reducible refine g_tup ?_ | with_reducible refine g_call ?_ | with_reducible refine g_BM ?_ | with_reducible refine g_BM0 ?_
  | with_reducible refine g_intB ?_ | with_reducible refine g_lc ?_ | with_reducible refine g_yes ?_ | with_reducible refine g_iZip ?_ | with_reducible refine g_sl ?_ | with_reducible refine g_noP ?_ | with_reducible refine g_part ?_ | with_reducible refine g_gcons ?_ | with_reducible refine g_gnil ?_
  | with_reducible refine g_tfld ?_ | with_reducible refine g_tmeth ?_ | with_reducible refine g_tmake ?_ | with_reducible refine g_sfld ?_ | with_reducible refine g_tprop ?_ | with_reducible refine g_tstar ?_ | with_reducible refine g_tmethK ?_ | with_reducible refine g_isN1 ?_ | with_reducible refine g_notN1 ?_))
local macro_rules | `(tactic| walk_at "gs1") => `(tactic| (first
  | with_reducible refine g_seq ?_ | with_reducible refine g_asg ?_ | ((with_reducible show tVar _ _ _ _); refine g_var rfl ?_) | with_reducible refine g_c ?_ | with_reducible refine g_name ?_ | with_reducible refine g_op ?_ | with_reducible refine g_I0 ?_
  | with_reducible refine g_cons ?_ | with_reducible refine g_nil ?_ | with_reducible refine g_exbl ?_ | with_reducible refine g_exint ?_ | with_reducible refine g_test ?_ | with_reducible refine g_B ?_ | with_reducible refine g_ifS ?_ | with_reducible refine g_retN ?_ | with_reducible refine g_next ?_
  | with_reducible refine g_CB ?_ | with_reducible refine g_sub ?_ | with_reducible refine g_drop ?_ | with_reducible refine g_not ?_ | with_reducible refine g_and ?_ | with_reducible refine g_or ?_ | with_reducible refine g_andV ?_ | with_reducible refine g_orV ?_ | with_reducible refine g_notV ?_ | with_reducible refine g_ifE ?_ | with_reducible refine g_isN ?_
  | with_reducible refine g_par ?_ | with_reducible refine g_expar ?_ | with_reducible refine g_chain ?_ | with_reducible refine g_un ?_ | with_reducible refine g_U ?_ | with_reducible refine g_bits ?_ | ((with_reducible show rEq _ _ _ _); refine g_eq rfl ?_) | ((with_reducible show rNe _ _ _ _); refine g_ne rfl ?_)
  | with_reducible refine g_for ?_ | with_reducible refine g_iRng1 ?_ | with_reducible refine g_iRng2 ?_ | with_reducible refine g_iList ?_ | with_reducible refine g_iTup ?_
  | ((with_reducible refine g_Imul ?hc ?_); (case hc => (first | (refine Or.inl ⟨?_, ?_⟩ <;> first | decide | omega) | (refine Or.inr ⟨?_, ?_⟩ <;> first | decide | omega))))
  | ((with_reducible refine g_Idiv ?hc ?_); (case hc => (first | (exact ⟨by decide, by decide⟩) | assumption)))
  | ((with_reducible refine g_Imod ?hc ?_); (case hc => (first | assumption | omega | decide)))
  | ((with_reducible refine g_exR1 ?hlo ?hhi ?_); (case hlo => omega); (case hhi => omega))
  | ((with_reducible refine g_exR2 ?hb ?_); (case hb => omega))
  | with_reducible refine g_lst ?_ | with_reducible refine g_tup ?_ | with_reducible refine g_call ?_ | with_reducible refine g_BM ?_ | with_reducible refine g_BM0 ?_
  | with_reducible refine g_intB ?_ | with_reducible refine g_lc ?_ | with_reducible refine g_yes ?_ | with_reducible refine g_iZip ?_ | with_reducible refine g_sl ?_ | with_reducible refine g_noP ?_ | with_reducible refine g_part ?_ | with_reducible refine g_gcons ?_ | with_reducible refine g_gnil ?_
  | with_reducible refine g_tfld ?_ | with_reducible refine g_tmeth ?_ | with_reducible refine g_tmake ?_ | with_reducible refine g_sfld ?_ | with_reducible refine g_tprop ?_ | with_reducible refine g_tstar ?_ | with_reducible refine g_tmethK ?_ | with_reducible refine g_isN1 ?_ | with_reducible refine g_notN1 ?_))
local macro_rules | `(tactic| walk_at "gx1") => `(tactic| (first
  | with_reducible refine g_seq ?_ | with_reducible refine g_asg ?_ | ((with_reducible show tVar _ _ _ _); refine g_var rfl ?_) | with_reducible refine g_c ?_ | with_reducible refine g_name ?_ | with_reducible refine g_op ?_ | with_reducible refine g_I0 ?_
  | with_reducible refine g_cons ?_ | with_reducible refine g_nil ?_ | with_reducible refine g_exbl ?_ | with_reducible refine g_exint ?_ | with_reducible refine g_test ?_ | with_reducible refine g_B ?_ | with_reducible refine g_ifS ?_ | with_reducible refine g_retN ?_ | with_reducible refine g_next ?_
  | with_reducible refine g_CB ?_ | with_reducible refine g_sub ?_ | with_reducible refine g_drop ?_ | with_reducible refine g_not ?_ | with_reducible refine g_and ?_ | with_reducible refine g_or ?_ | with_reducible refine g_andV ?_ | with_reducible refine g_orV ?_ | with_reducible refine g_notV ?_ | with_reducible refine g_ret ?_ | with_reducible refine g_isN ?_
  | with_reducible refine g_par ?_ | with_reducible refine g_expar ?_ | with_reducible refine g_chain ?_ | with_reducible refine g_un ?_ | with_reducible refine g_U ?_ | with_reducible refine g_bits ?_ | ((with_reducible show rEq _ _ _ _); refine g_eq rfl ?_) | ((with_reducible show rNe _ _ _ _); refine g_ne rfl ?_)
  | with_reducible refine g_for ?_ | with_reducible refine g_iRng1 ?_ | with_reducible refine g_iRng2 ?_ | with_reducible refine g_iList ?_ | with_reducible refine g_iTup ?_
  | ((with_reducible refine g_Imul ?hc ?_); (case hc => (first | (refine Or.inl ⟨?_, ?_⟩ <;> first | decide | omega) | (refine Or.inr ⟨?_, ?_⟩ <;> first | decide | omega))))
  | ((with_reducible refine g_Idiv ?hc ?_); (case hc => (first | (exact ⟨by decide, by decide⟩) | assumption)))
  | ((with_reducible refine g_Imod ?hc ?_); (case hc => (first | assumption | omega | decide)))
  | ((with_reducible refine g_exR1 ?hlo ?hhi ?_); (case hlo => omega); (case hhi => omega))
  | ((with_reducible refine g_exR2 ?hb ?_); (case hb => omega))
  | with_reducible refine g_lst ?_ | with_reducible refine g_tup ?_ | with_reducible refine g_call ?_ | with_reducible refine g_BM ?_ | with_reducible refine g_BM0 ?_
  | with_reducible refine g_intB ?_ | with_reducible refine g_lc ?_ | with_reducible refine g_yes ?_ | with_reducible refine g_iZip ?_ | with_reducible refine g_sl ?_ | with_reducible refine g_noP ?_ | with_reducible refine g_part ?_ | with_reducible refine g_gcons ?_ | with_reducible refine g_gnil ?_
  | with_reducible refine g_tfld ?_ | with_reducible refine g_tmeth ?_ | with_reducible refine g_tmake ?_ | with_reducible refine g_sfld ?_ | with_reducible refine g_tprop ?_ | with_reducible refine g_tstar ?_ | with_reducible refine g_tmethK ?_ | with_reducible refine g_isN1 ?_ | with_reducible refine g_notN1 ?_))
local macro_rules | `(tactic| walk_at "hp") => `(tactic| (first | assumption | exact upd_same | (refine same_get (by assumption) ?_; walk_at "hp")))
local macro_rules | `(tactic| walk_at "sm") => `(tactic| (first | assumption | exact Same.refl _ | (refine Same.trans ?ha (by assumption); walk_at "sm")))
local macro_rules | `(tactic| walk_at "nn") => `(tactic| (first | assumption | (refine same_free (by assumption) ?_; walk_at "nn")))
local macro_rules | `(tactic| walk_at "sb") => `(tactic| (first | decide | (refine small_bits ?_ ?_ <;> omega)))
local macro_rules | `(tactic| walk_at "ln") => `(tactic| (simp only [List.length_cons, List.length_nil]; omega))
local macro_rules | `(tactic| walk_at "gg") => `(tactic| (repeat walk_at "g"))
local macro_rules | `(tactic| walk_at "gs") => `(tactic| (repeat walk_at "gs1"))
local macro_rules | `(tactic| walk_at "gx") => `(tactic| (repeat walk_at "gx1"))

section
variable {P : Program} {w : World} {K : PySem.W.Frag} {mg : Str → Option Value} {base : Heap} {X : Cx}
theorem cut_ints (ns : List Int) (lo hi : Option Int) : ∃ ms : List Int, cutV (ns.map V.int) lo hi = ms.map V.int ∧ ms.length ≤ ns.length := by
  refine ⟨(ns.drop (HT.sIx (ns.map V.int).length 0 lo)).take (HT.sIx (ns.map V.int).length (ns.map V.int).length hi - HT.sIx (ns.map V.int).length 0 lo), ?_, ?_⟩
  · unfold cutV
    rw [List.map_take, List.map_drop]
  · rw [List.length_take, List.length_drop]
    omega
def spFlask0 (K : PySem.W.Frag) : Sp := fun vs H Q _ => ∃ (a : Addr) (ns : List Int), vs = [.ref a] ∧ SqL K H a (ns.map V.int) ∧ ns.length ≤ 1000 ∧
  ∀ (f q : Addr) (b : Int) (ms : List Int) (H' : Hp), H f = none → H q = none → f ≠ q → Same H H' → H' f = some (.lst [.ref q, .int b, .int 0]) → H' q = some (.lst (ms.map V.int)) → (∀ m ∈ ms, 0 ≤ m) → 0 ≤ b → b < flC → Q (.ref f) H'
def spFlask (K : PySem.W.Frag) : Sp := fun vs H Q _ => ∃ (a : Addr) (ns : List Int), vs = [.ref a] ∧ SqL K H a (ns.map V.int) ∧ ns.length ≤ 1000 ∧ ∀ (f : Addr) (H' : Hp), H f = none → Same H H' → Flask 0 H' f → Q (.ref f) H'
abbrev s_flask : Stmt := top 14
abbrev N_flask : List Str := ["_law_script", "_law_blend", "_law_cell"]
theorem sc_flask : FnScope N_flask ["_law_script"] (defScope s_flask) := ⟨rfl, rfl, rfl, by decide +kernel, rfl, by decide +kernel, by decide +kernel⟩

theorem ok_flask0 {f : Addr} {fd : FuncData} (D : Dn K mg "_law_flask" s_flask ["_law_script"] f fd) (T : Bt mg) : FnOk P w K mg base L2.CX0 1 f fd ["_law_script"] (spFlask0 K) := by
  refine D.fn.ok sc_flask (fun vs H Q E h => ?_) (fun cdv A outer s H vs Q E hr h => ?_)
  · obtain ⟨a, ns, rfl, _⟩ := h
    rfl
  · obtain ⟨a, ns, rfl, ha, hl, k⟩ := h
    refine ⟨_, (pss_cons (ps_set (i := 1) sc_flask.nd rfl (Or.inl rfl) (pe_op op_pow pe_int pe_int))
    (pss_cons (ps_for PassesOwn.never rfl (pi_list (pe_slice sl_list (pv 0) po_none (po_some pe_int))) (pg_name (i := 2) sc_flask.nd rfl (Or.inl rfl)) (pss_one (ps_set (i := 1) sc_flask.nd rfl (Or.inl rfl) (pe_op op_mod (pe_op op_add (pe_op op_mul (pv 1) pe_int) (pv 2)) pe_int))))
    (pss_one (ps_ret (pe_lst (pa_cons (pe_lc (own := [("_law_cell", 2)]) (g := gName 2) rfl sc_flask.nd (pi_list (pe_slice sl_list (pv 0) po_none (po_some pe_int))) (blkOk_by (own := [("_law_cell", 2)]) (N := N_flask) (sc := defScope s_flask) (by decide +kernel)) (fun _ _ _ _ _ => pg_name (i := 2) sc_flask.nd rfl (Or.inl rfl)) (fun _ _ _ _ _ => (pts_one (pt_cmpR op_ge (pe_callB cr_absQ (by rfl) T.n_abs bt_abs (pa_cons (pv 2) pa_nil)) (pe_op op_pow pe_int pe_int) (nomark _)))) (fun _ _ _ _ _ => (pe_callB cr_absQ (by rfl) T.n_abs bt_abs (pa_cons (pv 2) pa_nil)))) (pa_cons (pv 1) (pa_cons pe_int pa_nil)))))))), ?_⟩
    walk_at "gg"
    refine g_pow (c := 863586854220408743801513785592407849) ⟨by decide, by decide, by decide⟩ (by decide +kernel) ?_
    walk_at "gg"
    obtain ⟨ms, em, lm⟩ := cut_ints ns none (some 40)
    refine g_slL ha fun l1 H1 n1 S1 e1 => ?_
    rw [em] at e1
    refine ⟨l1, rfl, ⟨_, SqL.of e1⟩, ?_⟩
    refine fw_list (xs := ms.map V.int) (fun i σ H' => ∃ (b : Int) (v2 : Option V), σ = [some (.ref a), some (.int b), v2] ∧ Same H1 H' ∧ 0 ≤ b ∧ b < flC) ⟨_, none, rfl, Same.refl _, by decide, by decide⟩ (fun i σ H' _ ⟨b, v2, _, S, _⟩ => SqL.of (S _ _ e1)) ?_ ?_
    · rintro i x σ H2 hx ⟨b, v2, rfl, S2, b0, b1⟩
      rw [List.getElem?_map] at hx
      cases hm : ms[i]? with
      | none =>
        rw [hm] at hx
        cases hx
      | some c =>
        rw [hm] at hx
        obtain rfl := Option.some.inj hx
        walk_at "gg"
        exact ⟨_, _, rfl, S2, Int.emod_nonneg _ (by decide), Int.emod_lt_of_pos _ (by decide)⟩
    · rintro σ H2 ⟨b, v2, rfl, S2, b0, b1⟩
      walk_at "gg"
      refine g_slL (same_sq (S1.trans S2) ha) fun l3 H3 n3 S3 e3 => ?_
      rw [em] at e3
      refine ⟨l3, rfl, ⟨_, SqL.of e3⟩, ?_⟩
      refine lc_src (item := fun i x _ => (ms.map V.int)[i]? = some x) (src_list (SqL.of e3)) (by rw [List.length_map]; omega) (fun _ acc _ => ∃ ks : List Int, acc = ks.map V.int ∧ ∀ k ∈ ks, 0 ≤ k) (fun _ _ _ _ _ _ _ _ _ _ a => a) (fun _ _ => ⟨[], rfl, nofun⟩) (fun i x acc H4 Nx No hi S4 hx ⟨ks, ea, hk⟩ hl k1 k2 => ?_) fun l5 acc H5 n5 S5 e5 ⟨ks, ea, hk⟩ hl5 => ?_
      · rw [List.getElem?_map] at hx
        cases hm : ms[i]? with
        | none =>
          rw [hm] at hx
          cases hx
        | some c =>
          rw [hm] at hx
          obtain rfl := Option.some.inj hx
          walk_at "gg"
          refine ⟨rfl, ?_⟩
          walk_at "gg"
          refine g_abs fun c1 _ _ => ?_
          walk_at "gg"
          refine g_pow (c := 1000000000000000000) ⟨by decide, by decide, by decide⟩ (by decide +kernel) ?_
          walk_at "gg"
          refine g_ite (fun _ => ?_) (fun _ => ?_)
          · walk_at "gg"
            refine g_abs fun c2 c20 _ => ?_
            refine k1 _ _ (Same.refl _) ⟨ks ++ [c2], by rw [ea, List.map_append]; rfl, fun z hz => ?_⟩
            rcases List.mem_append.mp hz with h | h
            · exact hk z h
            · rw [List.mem_singleton.mp h]
              omega
          · exact k2 _ (Same.refl _) ⟨ks, ea, hk⟩
      · walk_at "gg"
        refine g_mkL (by walk_at "ln") fun l6 H6 n6 S6 e6 => ?_
        rw [ea] at e5
        have S05 := ((S1.trans S2).trans S3).trans S5
        refine k l6 l5 b ks H6 ?_ ?_ (fun z => ?_) (S05.trans S6) e6 (S6 _ _ e5) hk b0 b1
        · exact same_free S05 n6
        · exact same_free ((S1.trans S2).trans S3) n5
        · subst z
          rw [e5] at n6
          cases n6
theorem ok_flask {f : Addr} {fd : FuncData} (D : Dn K mg "_law_flask" s_flask ["_law_script"] f fd) (T : Bt mg) : Cal P w K mg base 1 "_law_flask" (spFlask K) [] := by
  refine cal_of D (hid_made (hid_made (ok_flask0 D T) (sp' := fun vs H Q _ => ∃ (a : Addr) (ns : List Int), vs = [.ref a] ∧ SqL K H a (ns.map V.int) ∧ ns.length ≤ 1000 ∧
    ∀ (f q : Addr) (b : Int) (H' : Hp), H f = none → H q = none → f ≠ q → Same H H' → H' f = some (.lst [.ref q, .int b, .int 0]) → H' q = some (HidO Nats q) → 0 ≤ b → b < flC → Q (.ref f) H') fun vs H Q E h => ?_) fun vs H Q E h => ?_)
  · obtain ⟨a, ns, rfl, ha, hl, k⟩ := h
    refine ⟨a, ns, rfl, ha, hl, fun f q b ms H' nf nq ne S ef eq hm b0 b1 => ⟨q, Nats, _, ⟨ms, rfl, hm⟩, eq, k f q b _ nf nq ne (same_mut S nq) (by rw [upd_ne ne]; exact ef) upd_same b0 b1⟩⟩
  · obtain ⟨a, ns, rfl, ha, hl, k⟩ := h
    refine ⟨a, ns, rfl, ha, hl, fun f q b H' nf nq ne S ef eq b0 b1 => ⟨f, FlaskG q 0, _, ⟨b, 0, rfl, b0, b1, by decide, by decide⟩, ef, k f _ nf (same_mut S nf) ⟨q, Ne.symm ne, upd_same, by rw [upd_ne (Ne.symm ne)]; exact eq⟩⟩⟩
end
end Gk

namespace Gk
open PySem L2 Gx
open C8 (Cal Met Mak pe_c pe_mt pe_mt0 pe_mk pe_gc)
local macro_rules | `(tactic| walk_at "g") => `(tactic| (first
  | with_reducible refine g_seq ?_ | with_reducible refine g_asg ?_ | ((with_reducible show tVar _ _ _ _); refine g_var rfl ?_) | with_reducible refine g_c ?_ | with_reducible refine g_name ?_ | with_reducible refine g_op ?_ | with_reducible refine g_I0 ?_
  | with_reducible refine g_cons ?_ | with_reducible refine g_nil ?_ | with_reducible refine g_exbl ?_ | with_reducible refine g_exint ?_ | with_reducible refine g_test ?_ | with_reducible refine g_B ?_ | with_reducible refine g_ifS ?_ | with_reducible refine g_ret ?_ | with_reducible refine g_retN ?_ | with_reducible refine g_next ?_
  | with_reducible refine g_CB ?_ | with_reducible refine g_sub ?_ | with_reducible refine g_drop ?_ | with_reducible refine g_not ?_ | with_reducible refine g_and ?_ | with_reducible refine g_or ?_ | with_reducible refine g_andV ?_ | with_reducible refine g_orV ?_ | with_reducible refine g_notV ?_ | with_reducible refine g_ifE ?_ | with_reducible refine g_isN ?_
  | with_reducible refine g_par ?_ | with_reducible refine g_expar ?_ | with_reducible refine g_chain ?_ | with_reducible refine g_un ?_ | with_reducible refine g_U ?_ | with_reducible refine g_bits ?_ | ((with_reducible show rEq _ _ _ _); refine g_eq rfl ?_) | ((with_reducible show rNe _ _ _ _); refine g_ne rfl ?_)
  | with_reducible refine g_for ?_ | with_reducible refine g_iRng1 ?_ | with_reducible refine g_iRng2 ?_ | with_reducible refine g_iList ?_ | with_reducible refine g_iTup ?_
  | ((with_reducible refine g_Imul ?hc ?_); (case hc => (first | (refine Or.inl ⟨?_, ?_⟩ <;> first | decide | omega) | (refine Or.inr ⟨?_, ?_⟩ <;> first | decide | omega))))
  | ((with_reducible refine g_Idiv ?hc ?_); (case hc => (first | (exact ⟨by decide, by decide⟩) | assumption)))
  | ((with_reducible refine g_Imod ?hc ?_); (case hc => (first | assumption | omega | decide)))
  | ((with_reducible refine g_exR1 ?hlo ?hhi ?_); (case hlo => omega); (case hhi => omega))
  | ((with_reducible refine g_exR2 ?hb ?_); (case hb => omega))
  | with_reducible refine g_lst ?_ | with_reducible refine g_tup ?_ | with_reducible refine g_call ?_ | with_reducible refine g_BM ?_ | with_reducible refine g_BM0 ?_
  | with_reducible refine g_intB ?_ | with_reducible refine g_lc ?_ | with_reducible refine g_yes ?_ | with_reducible refine g_iZip ?_ | with_reducible refine g_sl ?_ | with_reducible refine g_noP ?_ | with_reducible refine g_part ?_ | with_reducible refine g_gcons ?_ | with_reducible refine g_gnil ?_
  | with_reducible refine g_tfld ?_ | with_reducible refine g_tmeth ?_ | with_reducible refine g_tmake ?_ | with_reducible refine g_sfld ?_ | with_reducible refine g_tprop ?_ | with_reducible refine g_tstar ?_ | with_reducible refine g_tmethK ?_ | with_reducible refine g_isN1 ?_ | with_reducible refine g_notN1 ?_))
local macro_rules | `(tactic| walk_at "gs1") => `(tactic| (first
  | with_reducible refine g_seq ?_ | with_reducible refine g_asg ?_ | ((with_reducible show tVar _ _ _ _); refine g_var rfl ?_) | with_reducible refine g_c ?_ | with_reducible refine g_name ?_ | with_reducible refine g_op ?_ | with_reducible refine g_I0 ?_
  | with_reducible refine g_cons ?_ | with_reducible refine g_nil ?_ | with_reducible refine g_exbl ?_ | with_reducible refine g_exint ?_ | with_reducible refine g_test ?_ | with_reducible refine g_B ?_ | with_reducible refine g_ifS ?_ | with_reducible refine g_retN ?_ | with_reducible refine g_next ?_
  | with_reducible refine g_CB ?_ | with_reducible refine g_sub ?_ | with_reducible refine g_drop ?_ | with_reducible refine g_not ?_ | with_reducible refine g_and ?_ | with_reducible refine g_or ?_ | with_reducible refine g_andV ?_ | with_reducible refine g_orV ?_ | with_reducible refine g_notV ?_ | with_reducible refine g_ifE ?_ | with_reducible refine g_isN ?_
  | with_reducible refine g_par ?_ | with_reducible refine g_expar ?_ | with_reducible refine g_chain ?_ | with_reducible refine g_un ?_ | with_reducible refine g_U ?_ | with_reducible refine g_bits ?_ | ((with_reducible show rEq _ _ _ _); refine g_eq rfl ?_) | ((with_reducible show rNe _ _ _ _); refine g_ne rfl ?_)
  | with_reducible refine g_for ?_ | with_reducible refine g_iRng1 ?_ | with_reducible refine g_iRng2 ?_ | with_reducible refine g_iList ?_ | with_reducible refine g_iTup ?_
  | ((with_reducible refine g_Imul ?hc ?_); (case hc => (first | (refine Or.inl ⟨?_, ?_⟩ <;> first | decide | omega) | (refine Or.inr ⟨?_, ?_⟩ <;> first | decide | omega))))
  | ((with_reducible refine g_Idiv ?hc ?_); (case hc => (first | (exact ⟨by decide, by decide⟩) | assumption)))
  | ((with_reducible refine g_Imod ?hc ?_); (case hc => (first | assumption | omega | decide)))
  | ((with_reducible refine g_exR1 ?hlo ?hhi ?_); (case hlo => omega); (case hhi => omega))
  | ((with_reducible refine g_exR2 ?hb ?_); (case hb => omega))
  | with_reducible refine g_lst ?_ | with_reducible refine g_tup ?_ | with_reducible refine g_call ?_ | with_reducible refine g_BM ?_ | with_reducible refine g_BM0 ?_
  | with_reducible refine g_intB ?_ | with_reducible refine g_lc ?_ | with_reducible refine g_yes ?_ | with_reducible refine g_iZip ?_ | with_reducible refine g_sl ?_ | with_reducible refine g_noP ?_ | with_reducible refine g_part ?_ | with_reducible refine g_gcons ?_ | with_reducible refine g_gnil ?_
  | with_reducible refine g_tfld ?_ | with_reducible refine g_tmeth ?_ | with_reducible refine g_tmake ?_ | with_reducible refine g_sfld ?_ | with_reducible refine g_tprop ?_ | with_reducible refine g_tstar ?_ | with_reducible refine g_tmethK ?_ | with_reducible refine g_isN1 ?_ | with_reducible refine g_notN1 ?_))
local macro_rules | `(tactic| walk_at "gx1") => `(tactic| (first
  | with_reducible refine g_seq ?_ | with_reducible refine g_asg ?_ | ((with_reducible show tVar _ _ _ _); refine g_var rfl ?_) | with_reducible refine g_c ?_ | with_reducible refine g_name ?_ | with_reducible refine g_op ?_ | with_reducible refine g_I0 ?_
  | with_reducible refine g_cons ?_ | with_reducible refine g_nil ?_ | with_reducible refine g_exbl ?_ | with_reducible refine g_exint ?_ | with_reducible refine g_test ?_ | with_reducible refine g_B ?_ | with_reducible refine g_ifS ?_ | with_reducible refine g_retN ?_ | with_reducible refine g_next ?_
  | with_reducible refine g_CB ?_ | with_reducible refine g_sub ?_ | with_reducible refine g_drop ?_ | with_reducible refine g_not ?_ | with_reducible refine g_and ?_ | with_reducible refine g_or ?_ | with_reducible refine g_andV ?_ | with_reducible refine g_orV ?_ | with_reducible refine g_notV ?_ | with_reducible refine g_ret ?_ | with_reducible refine g_isN ?_
  | with_reducible refine g_par ?_ | with_reducible refine g_expar ?_ | with_reducible refine g_chain ?_ | with_reducible refine g_un ?_ | with_reducible refine g_U ?_ | with_reducible refine g_bits ?_ | ((with_reducible show rEq _ _ _ _); refine g_eq rfl ?_) | ((with_reducible show rNe _ _ _ _); refine g_ne rfl ?_)
  | with_reducible refine g_for ?_ | with_reducible refine g_iRng1 ?_ | with_reducible refine g_iRng2 ?_ | with_reducible refine g_iList ?_ | with_reducible refine g_iTup ?_
  | ((with_reducible refine g_Imul ?hc ?_); (case hc => (first | (refine Or.inl ⟨?_, ?_⟩ <;> first | decide | omega) | (refine Or.inr ⟨?_, ?_⟩ <;> first | decide | omega))))
  | ((with_reducible refine g_Idiv ?hc ?_); (case hc => (first | (exact ⟨by decide, by decide⟩) | assumption)))
  | ((with_reducible refine g_Imod ?hc ?_); (case hc => (first | assumption | omega | decide)))
  | ((with_reducible refine g_exR1 ?hlo ?hhi ?_); (case hlo => omega); (case hhi => omega))
  | ((with_reducible refine g_exR2 ?hb ?_); (case hb => omega))
  | with_reducible refine g_lst ?_ | with_reducible refine g_tup ?_ | with_reducible refine g_call ?_ | with_reducible refine g_BM ?_ | with_reducible refine g_BM0 ?_
  | with_reducible refine g_intB ?_ | with_reducible refine g_lc ?_ | with_reducible refine g_yes ?_ | with_reducible refine g_iZip ?_ | with_reducible refine g_sl ?_ | with_reducible refine g_noP ?_ | with_reducible refine g_part ?_ | with_reducible refine g_gcons ?_ | with_reducible refine g_gnil ?_
  | with_reducible refine g_tfld ?_ | with_reducible refine g_tmeth ?_ | with_reducible refine g_tmake ?_ | with_reducible refine g_sfld ?_ | with_reducible refine g_tprop ?_ | with_reducible refine g_tstar ?_ | with_reducible refine g_tmethK ?_ | with_reducible refine g_isN1 ?_ | with_reducible refine g_notN1 ?_))
local macro_rules | `(tactic| walk_at "hp") => `(tactic| (first | assumption | exact upd_same | (refine same_get (by assumption) ?_; walk_at "hp")))
local macro_rules | `(tactic| walk_at "sm") => `(tactic| (first | assumption | exact Same.refl _ | (refine Same.trans ?ha (by assumption); walk_at "sm")))
local macro_rules | `(tactic| walk_at "nn") => `(tactic| (first | assumption | (refine same_free (by assumption) ?_; walk_at "nn")))
local macro_rules | `(tactic| walk_at "sb") => `(tactic| (first | decide | (refine small_bits ?_ ?_ <;> omega)))
local macro_rules | `(tactic| walk_at "ln") => `(tactic| (simp only [List.length_cons, List.length_nil]; omega))
local macro_rules | `(tactic| walk_at "gg") => `(tactic| (repeat walk_at "g"))
local macro_rules | `(tactic| walk_at "gs") => `(tactic| (repeat walk_at "gs1"))
local macro_rules | `(tactic| walk_at "gx") => `(tactic| (repeat walk_at "gx1"))

section
variable {P : Program} {w : World} {K : PySem.W.Frag} {mg : Str → Option Value} {base : Heap} {X : Cx}
theorem g_drip {f : Addr} {c : Nat} {m : Int} {H : Hp} {Q : VK} {E : XK} (hf : Flask c H f) (hc : c ≤ 1000000) (hm : 0 < m) (hb : m.natAbs < 2 ^ 1000) (k : ∀ r H', 0 ≤ r → r < m → SmV H H' → Flask (c + 1) H' f → Q (.int r) H') : spDrip ([V.ref f, V.int m] ++ []) H Q E := ⟨f, c, m, rfl, hf, hc, hm, hb, k⟩
def spAmount : Sp := fun vs H Q _ => ∃ (f : Addr) (c : Nat) (wide : Int), vs = [.ref f, .int wide] ∧ Flask c H f ∧ c ≤ 900000 ∧ 0 < wide ∧ wide ≤ 1000 ∧
  ∀ (r : Int) (H' : Hp), -100000000000000000000000000000000000000000000000000000000000 ≤ r → r < 100000000000000000000000000000000000000000000000000000000000 → SmV H H' → Flask (c + 2) H' f → Q (.int r) H'
abbrev s_amount : Stmt := top 16
abbrev N_amount : List Str := ["_law_flask_here", "_law_wide"]
theorem sc_amount : FnScope N_amount ["_law_flask_here", "_law_wide"] (defScope s_amount) := ⟨rfl, rfl, rfl, by decide +kernel, rfl, by decide +kernel, by decide +kernel⟩

theorem ok_amount {f : Addr} {fd : FuncData} (D : Dn K mg "_law_amount" s_amount ["_law_flask_here", "_law_wide"] f fd) (T : Bt mg) (c__law_drip : Cal P w K mg base 1 "_law_drip" spDrip []) : Cal P w K mg base 2 "_law_amount" spAmount [] := by
  refine cal_of D (D.fn.ok sc_amount (fun vs H Q E h => ?_) (fun cdv A outer s H vs Q E hr h => ?_))
  · obtain ⟨f, c, m, rfl, _⟩ := h
    rfl
  · obtain ⟨f, c, m, rfl, hf, hc, m0, m1, k⟩ := h
    refine ⟨_, (pss_cons (ps_if (pt_cmpR op_eq (pe_c c__law_drip hr (by decide) (by rfl) (pa_cons (pv 0) (pa_cons pe_int pa_nil))) pe_int (nomark _)) (pss_one (ps_ret (pe_op op_sub (pe_c c__law_drip hr (by decide) (by rfl) (pa_cons (pv 0) (pa_cons (pe_op op_mul pe_int (pe_op op_pow pe_int pe_int)) pa_nil))) (pe_op op_pow pe_int pe_int)))) pss_nil)
    (pss_one (ps_ret (pe_op op_sub (pe_c c__law_drip hr (by decide) (by rfl) (pa_cons (pv 0) (pa_cons (pe_op op_mul pe_int (pv 1)) pa_nil))) (pv 1))))), ?_⟩
    walk_at "gg"
    refine g_drip hf (by omega) (by decide) (by decide) fun r H1 r0 r1 S1 hf1 => ?_
    walk_at "gg"
    refine g_ite (fun _ => ?_) (fun _ => ?_)
    · walk_at "gg"
      refine g_pow (c := 100000000000000000000000000000000000000000000000000000000000) ⟨by decide, by decide, by decide⟩ (by decide +kernel) ?_
      walk_at "gg"
      refine g_drip hf1 (by omega) (by decide) (by decide +kernel) fun r H2 r0 r1 S2 hf2 => ?_
      walk_at "gg"
      refine g_pow (c := 100000000000000000000000000000000000000000000000000000000000) ⟨by decide, by decide, by decide⟩ (by decide +kernel) ?_
      walk_at "gg"
      exact k _ _ (by omega) (by omega) (S1.trans S2) hf2
    · walk_at "gg"
      refine g_drip hf1 (by omega) (by omega) (by walk_at "sb") fun r H2 r0 r1 S2 hf2 => ?_
      walk_at "gg"
      exact k _ _ (by omega) (by omega) (S1.trans S2) hf2
end
end Gk

namespace Gk
open PySem L2 Gx
open C8 (Cal Met Mak pe_c pe_mt pe_mt0 pe_mk pe_gc)
local macro_rules | `(tactic| walk_at "g") => `(tactic| (first
  | with_reducible refine g_seq ?_ | with_reducible refine g_asg ?_ | ((with_reducible show tVar _ _ _ _); refine g_var rfl ?_) | with_reducible refine g_c ?_ | with_reducible refine g_name ?_ | with_reducible refine g_op ?_ | with_reducible refine g_I0 ?_
  | with_reducible refine g_cons ?_ | with_reducible refine g_nil ?_ | with_reducible refine g_exbl ?_ | with_reducible refine g_exint ?_ | with_reducible refine g_test ?_ | with_reducible refine g_B ?_ | with_reducible refine g_ifS ?_ | with_reducible refine g_ret ?_ | with_reducible refine g_retN ?_ | with_reducible refine g_next ?_
  | with_reducible refine g_CB ?_ | with_reducible refine g_sub ?_ | with_reducible refine g_drop ?_ | with_reducible refine g_not ?_ | with_reducible refine g_and ?_ | with_reducible refine g_or ?_ | with_reducible refine g_andV ?_ | with_reducible refine g_orV ?_ | with_reducible refine g_notV ?_ | with_reducible refine g_ifE ?_ | with_reducible refine g_isN ?_
  | with_reducible refine g_par ?_ | with_reducible refine g_expar ?_ | with_reducible refine g_chain ?_ | with_reducible refine g_un ?_ | with_reducible refine g_U ?_ | with_reducible refine g_bits ?_ | ((with_reducible show rEq _ _ _ _); refine g_eq rfl ?_) | ((with_reducible show rNe _ _ _ _); refine g_ne rfl ?_)
  | with_reducible refine g_for ?_ | with_reducible refine g_iRng1 ?_ | with_reducible refine g_iRng2 ?_ | with_reducible refine g_iList ?_ | with_reducible refine g_iTup ?_
  | ((with_reducible refine g_Imul ?hc ?_); (case hc => (first | (refine Or.inl ⟨?_, ?_⟩ <;> first | decide | omega) | (refine Or.inr ⟨?_, ?_⟩ <;> first | decide | omega))))
  | ((with_reducible refine g_Idiv ?hc ?_); (case hc => (first | (exact ⟨by decide, by decide⟩) | assumption)))
  | ((with_reducible refine g_Imod ?hc ?_); (case hc => (first | assumption | omega | decide)))
  | ((with_reducible refine g_exR1 ?hlo ?hhi ?_); (case hlo => omega); (case hhi => omega))
  | ((with_reducible refine g_exR2 ?hb ?_); (case hb => omega))
  | with_reducible refine g_lst ?_ | with_reducible refine g_tup ?_ | with_reducible refine g_call ?_ | with_reducible refine g_BM ?_ | with_reducible refine g_BM0 ?_
  | with_reducible refine g_intB ?_ | with_reducible refine g_lc ?_ | with_reducible refine g_yes ?_ | with_reducible refine g_iZip ?_ | with_reducible refine g_sl ?_ | with_reducible refine g_noP ?_ | with_reducible refine g_part ?_ | with_reducible refine g_gcons ?_ | with_reducible refine g_gnil ?_
  | with_reducible refine g_tfld ?_ | with_reducible refine g_tmeth ?_ | with_reducible refine g_tmake ?_ | with_reducible refine g_sfld ?_ | with_reducible refine g_tprop ?_ | with_reducible refine g_tstar ?_ | with_reducible refine g_tmethK ?_ | with_reducible refine g_isN1 ?_ | with_reducible refine g_notN1 ?_ | with_reducible refine g_callK0 ?_ | with_reducible refine g_m1 ?_ | with_reducible refine g_isstr ?_ | with_reducible refine g_iStr ?_ | with_reducible refine g_exS ?_ | with_reducible refine g_iEnum ?_))
local macro_rules | `(tactic| walk_at "gs1") => `(tactic| (first
  | with_reducible refine g_seq ?_ | with_reducible refine g_asg ?_ | ((with_reducible show tVar _ _ _ _); refine g_var rfl ?_) | with_reducible refine g_c ?_ | with_reducible refine g_name ?_ | with_reducible refine g_op ?_ | with_reducible refine g_I0 ?_
  | with_reducible refine g_cons ?_ | with_reducible refine g_nil ?_ | with_reducible refine g_exbl ?_ | with_reducible refine g_exint ?_ | with_reducible refine g_test ?_ | with_reducible refine g_B ?_ | with_reducible refine g_ifS ?_ | with_reducible refine g_retN ?_ | with_reducible refine g_next ?_
  | with_reducible refine g_CB ?_ | with_reducible refine g_sub ?_ | with_reducible refine g_drop ?_ | with_reducible refine g_not ?_ | with_reducible refine g_and ?_ | with_reducible refine g_or ?_ | with_reducible refine g_andV ?_ | with_reducible refine g_orV ?_ | with_reducible refine g_notV ?_ | with_reducible refine g_ifE ?_ | with_reducible refine g_isN ?_
  | with_reducible refine g_par ?_ | with_reducible refine g_expar ?_ | with_reducible refine g_chain ?_ | with_reducible refine g_un ?_ | with_reducible refine g_U ?_ | with_reducible refine g_bits ?_ | ((with_reducible show rEq _ _ _ _); refine g_eq rfl ?_) | ((with_reducible show rNe _ _ _ _); refine g_ne rfl ?_)
  | with_reducible refine g_for ?_ | with_reducible refine g_iRng1 ?_ | with_reducible refine g_iRng2 ?_ | with_reducible refine g_iList ?_ | with_reducible refine g_iTup ?_
  | ((with_reducible refine g_Imul ?hc ?_); (case hc => (first | (refine Or.inl ⟨?_, ?_⟩ <;> first | decide | omega) | (refine Or.inr ⟨?_, ?_⟩ <;> first | decide | omega))))
  | ((with_reducible refine g_Idiv ?hc ?_); (case hc => (first | (exact ⟨by decide, by decide⟩) | assumption)))
  | ((with_reducible refine g_Imod ?hc ?_); (case hc => (first | assumption | omega | decide)))
  | ((with_reducible refine g_exR1 ?hlo ?hhi ?_); (case hlo => omega); (case hhi => omega))
  | ((with_reducible refine g_exR2 ?hb ?_); (case hb => omega))
  | with_reducible refine g_lst ?_ | with_reducible refine g_tup ?_ | with_reducible refine g_call ?_ | with_reducible refine g_BM ?_ | with_reducible refine g_BM0 ?_
  | with_reducible refine g_intB ?_ | with_reducible refine g_lc ?_ | with_reducible refine g_yes ?_ | with_reducible refine g_iZip ?_ | with_reducible refine g_sl ?_ | with_reducible refine g_noP ?_ | with_reducible refine g_part ?_ | with_reducible refine g_gcons ?_ | with_reducible refine g_gnil ?_
  | with_reducible refine g_tfld ?_ | with_reducible refine g_tmeth ?_ | with_reducible refine g_tmake ?_ | with_reducible refine g_sfld ?_ | with_reducible refine g_tprop ?_ | with_reducible refine g_tstar ?_ | with_reducible refine g_tmethK ?_ | with_reducible refine g_isN1 ?_ | with_reducible refine g_notN1 ?_ | with_reducible refine g_callK0 ?_ | with_reducible refine g_m1 ?_ | with_reducible refine g_isstr ?_ | with_reducible refine g_iStr ?_ | with_reducible refine g_exS ?_ | with_reducible refine g_iEnum ?_))
local macro_rules | `(tactic| walk_at "gx1") => `(tactic| (first
  | with_reducible refine g_seq ?_ | with_reducible refine g_asg ?_ | ((with_reducible show tVar _ _ _ _); refine g_var rfl ?_) | with_reducible refine g_c ?_ | with_reducible refine g_name ?_ | with_reducible refine g_op ?_ | with_reducible refine g_I0 ?_
  | with_reducible refine g_cons ?_ | with_reducible refine g_nil ?_ | with_reducible refine g_exbl ?_ | with_reducible refine g_exint ?_ | with_reducible refine g_test ?_ | with_reducible refine g_B ?_ | with_reducible refine g_ifS ?_ | with_reducible refine g_retN ?_ | with_reducible refine g_next ?_
  | with_reducible refine g_CB ?_ | with_reducible refine g_sub ?_ | with_reducible refine g_drop ?_ | with_reducible refine g_not ?_ | with_reducible refine g_and ?_ | with_reducible refine g_or ?_ | with_reducible refine g_andV ?_ | with_reducible refine g_orV ?_ | with_reducible refine g_notV ?_ | with_reducible refine g_ret ?_ | with_reducible refine g_isN ?_
  | with_reducible refine g_par ?_ | with_reducible refine g_expar ?_ | with_reducible refine g_chain ?_ | with_reducible refine g_un ?_ | with_reducible refine g_U ?_ | with_reducible refine g_bits ?_ | ((with_reducible show rEq _ _ _ _); refine g_eq rfl ?_) | ((with_reducible show rNe _ _ _ _); refine g_ne rfl ?_)
  | with_reducible refine g_for ?_ | with_reducible refine g_iRng1 ?_ | with_reducible refine g_iRng2 ?_ | with_reducible refine g_iList ?_ | with_reducible refine g_iTup ?_
  | ((with_reducible refine g_Imul ?hc ?_); (case hc => (first | (refine Or.inl ⟨?_, ?_⟩ <;> first | decide | omega) | (refine Or.inr ⟨?_, ?_⟩ <;> first | decide | omega))))
  | ((with_reducible refine g_Idiv ?hc ?_); (case hc => (first | (exact ⟨by decide, by decide⟩) | assumption)))
  | ((with_reducible refine g_Imod ?hc ?_); (case hc => (first | assumption | omega | decide)))
  | ((with_reducible refine g_exR1 ?hlo ?hhi ?_); (case hlo => omega); (case hhi => omega))
  | ((with_reducible refine g_exR2 ?hb ?_); (case hb => omega))
  | with_reducible refine g_lst ?_ | with_reducible refine g_tup ?_ | with_reducible refine g_call ?_ | with_reducible refine g_BM ?_ | with_reducible refine g_BM0 ?_
  | with_reducible refine g_intB ?_ | with_reducible refine g_lc ?_ | with_reducible refine g_yes ?_ | with_reducible refine g_iZip ?_ | with_reducible refine g_sl ?_ | with_reducible refine g_noP ?_ | with_reducible refine g_part ?_ | with_reducible refine g_gcons ?_ | with_reducible refine g_gnil ?_
  | with_reducible refine g_tfld ?_ | with_reducible refine g_tmeth ?_ | with_reducible refine g_tmake ?_ | with_reducible refine g_sfld ?_ | with_reducible refine g_tprop ?_ | with_reducible refine g_tstar ?_ | with_reducible refine g_tmethK ?_ | with_reducible refine g_isN1 ?_ | with_reducible refine g_notN1 ?_ | with_reducible refine g_callK0 ?_ | with_reducible refine g_m1 ?_ | with_reducible refine g_isstr ?_ | with_reducible refine g_iStr ?_ | with_reducible refine g_exS ?_ | with_reducible refine g_iEnum ?_))
local macro_rules | `(tactic| walk_at "hp") => `(tactic| (first | assumption | exact upd_same | (refine same_get (by assumption) ?_; walk_at "hp")))
local macro_rules | `(tactic| walk_at "sm") => `(tactic| (first | assumption | exact Same.refl _ | (refine Same.trans ?ha (by assumption); walk_at "sm")))
local macro_rules | `(tactic| walk_at "nn") => `(tactic| (first | assumption | (refine same_free (by assumption) ?_; walk_at "nn")))
local macro_rules | `(tactic| walk_at "sb") => `(tactic| (first | decide | (refine small_bits ?_ ?_ <;> omega)))
local macro_rules | `(tactic| walk_at "ln") => `(tactic| (simp only [List.length_cons, List.length_nil]; omega))
local macro_rules | `(tactic| walk_at "gg") => `(tactic| (repeat walk_at "g"))
local macro_rules | `(tactic| walk_at "gs") => `(tactic| (repeat walk_at "gs1"))
local macro_rules | `(tactic| walk_at "gx") => `(tactic| (repeat walk_at "gx1"))

section
variable {P : Program} {w : World} {K : PySem.W.Frag} {mg : Str → Option Value} {base : Heap} {X : Cx} {C LE : Addr} {mc : Value}
/-- an error of the class at C is made: its place -/
def spBadInit (K : PySem.W.Frag) (C : Addr) : Sp := fun vs H Q _ => ∃ (a : Addr) (v : V), vs = [.ref a, v] ∧ H a = some (exo a C none) ∧ ∀ (d : Addr), H d = none → d ≠ a → Q .non (upd (upd H d (exd d [("place", v)])) a (exo a C (some d)))
abbrev s_InvalidText_init : Stmt := inClass (top 3) 0
abbrev N_InvalidText_init : List Str := ["self", "place"]
theorem sc_InvalidText_init : FnScope N_InvalidText_init ["self", "place"] (defScope s_InvalidText_init) := ⟨rfl, rfl, rfl, by decide +kernel, rfl, by decide +kernel, by decide +kernel⟩

theorem ok_badInit {f : Addr} {fd : FuncData} (F : Fun K "__init__" "InvalidText.__init__" s_InvalidText_init f fd) (T : OexC K C) (np : PySem.W.findIn K (.ref C) "place" = some none) (hm : mg "LockError" = some (.ref LE)) (ga : PySem.W.specialIn K (.ref LE) "__getattribute__" = some (some (.builtin "type.__getattribute__")))
    (rd : PySem.W.readsIn K LE mc = true) (fc : PySem.W.findCls K (.ref LE) mc "__init__" = some (.val (.builtin "ValueError.__init__"))) : FnOk P w K mg base CX0 1 f fd ["self", "place"] (spBadInit K C) := by
  refine F.ok sc_InvalidText_init (fun vs H Q E h => ?_) (fun cdv A outer s H vs Q E hr h => ?_)
  · obtain ⟨a, v, rfl, _⟩ := h
    rfl
  · obtain ⟨a, v, rfl, ha, k⟩ := h
    refine ⟨_, (pss_cons (ps_expr (pe_above (by rfl) hm ga rd fc (pa_cons (pv 0) (pa_cons pe_str pa_nil))))
    (pss_one (ps_ost (pv 0) (pv 1)))), ?_⟩
    walk_at "gg"
    refine g_veI ?_
    walk_at "gg"
    refine ⟨a, C, _, rfl, (by show 1 ≤ 1000; decide), T, ha, ?_⟩
    with_reducible refine g_ost ?_
    walk_at "gg"
    exact ⟨a, C, rfl, T, np, .inl ⟨ha, fun d nd ne => k d nd ne⟩⟩
end
end Gk

namespace Gk
open PySem L2 Gx SX TL
open C8 (Cal Met Mak pe_c pe_mt pe_mt0 pe_mk pe_gc)
local macro_rules | `(tactic| walk_at "g") => `(tactic| (first
  | with_reducible refine g_seq ?_ | with_reducible refine g_asg ?_ | ((with_reducible show tVar _ _ _ _); refine g_var rfl ?_) | with_reducible refine g_c ?_ | with_reducible refine g_name ?_ | with_reducible refine g_op ?_ | with_reducible refine g_I0 ?_
  | with_reducible refine g_cons ?_ | with_reducible refine g_nil ?_ | with_reducible refine g_exbl ?_ | with_reducible refine g_exint ?_ | with_reducible refine g_test ?_ | with_reducible refine g_B ?_ | with_reducible refine g_ifS ?_ | with_reducible refine g_ret ?_ | with_reducible refine g_retN ?_ | with_reducible refine g_next ?_
  | with_reducible refine g_CB ?_ | with_reducible refine g_sub ?_ | with_reducible refine g_drop ?_ | with_reducible refine g_not ?_ | with_reducible refine g_and ?_ | with_reducible refine g_or ?_ | with_reducible refine g_andV ?_ | with_reducible refine g_orV ?_ | with_reducible refine g_notV ?_ | with_reducible refine g_ifE ?_ | with_reducible refine g_isN ?_
  | with_reducible refine g_par ?_ | with_reducible refine g_expar ?_ | with_reducible refine g_chain ?_ | with_reducible refine g_un ?_ | with_reducible refine g_U ?_ | with_reducible refine g_bits ?_ | ((with_reducible show rEq _ _ _ _); refine g_eq rfl ?_) | ((with_reducible show rNe _ _ _ _); refine g_ne rfl ?_)
  | with_reducible refine g_for ?_ | with_reducible refine g_iRng1 ?_ | with_reducible refine g_iRng2 ?_ | with_reducible refine g_iList ?_ | with_reducible refine g_iTup ?_
  | ((with_reducible refine g_Imul ?hc ?_); (case hc => (first | (refine Or.inl ⟨?_, ?_⟩ <;> first | decide | omega) | (refine Or.inr ⟨?_, ?_⟩ <;> first | decide | omega))))
  | ((with_reducible refine g_Idiv ?hc ?_); (case hc => (first | (exact ⟨by decide, by decide⟩) | assumption)))
  | ((with_reducible refine g_Imod ?hc ?_); (case hc => (first | assumption | omega | decide)))
  | ((with_reducible refine g_exR1 ?hlo ?hhi ?_); (case hlo => omega); (case hhi => omega))
  | ((with_reducible refine g_exR2 ?hb ?_); (case hb => omega))
  | with_reducible refine g_lst ?_ | with_reducible refine g_tup ?_ | with_reducible refine g_call ?_ | with_reducible refine g_BM ?_ | with_reducible refine g_BM0 ?_
  | with_reducible refine g_intB ?_ | with_reducible refine g_lc ?_ | with_reducible refine g_yes ?_ | with_reducible refine g_iZip ?_ | with_reducible refine g_sl ?_ | with_reducible refine g_noP ?_ | with_reducible refine g_part ?_ | with_reducible refine g_gcons ?_ | with_reducible refine g_gnil ?_
  | with_reducible refine g_tfld ?_ | with_reducible refine g_tmeth ?_ | with_reducible refine g_tmake ?_ | with_reducible refine g_sfld ?_ | with_reducible refine g_tprop ?_ | with_reducible refine g_tstar ?_ | with_reducible refine g_tmethK ?_ | with_reducible refine g_isN1 ?_ | with_reducible refine g_notN1 ?_ | with_reducible refine g_callK0 ?_ | with_reducible refine g_m1 ?_ | with_reducible refine g_isstr ?_ | with_reducible refine g_iStr ?_ | with_reducible refine g_exS ?_ | with_reducible refine g_iEnum ?_))
local macro_rules | `(tactic| walk_at "gs1") => `(tactic| (first
  | with_reducible refine g_seq ?_ | with_reducible refine g_asg ?_ | ((with_reducible show tVar _ _ _ _); refine g_var rfl ?_) | with_reducible refine g_c ?_ | with_reducible refine g_name ?_ | with_reducible refine g_op ?_ | with_reducible refine g_I0 ?_
  | with_reducible refine g_cons ?_ | with_reducible refine g_nil ?_ | with_reducible refine g_exbl ?_ | with_reducible refine g_exint ?_ | with_reducible refine g_test ?_ | with_reducible refine g_B ?_ | with_reducible refine g_ifS ?_ | with_reducible refine g_retN ?_ | with_reducible refine g_next ?_
  | with_reducible refine g_CB ?_ | with_reducible refine g_sub ?_ | with_reducible refine g_drop ?_ | with_reducible refine g_not ?_ | with_reducible refine g_and ?_ | with_reducible refine g_or ?_ | with_reducible refine g_andV ?_ | with_reducible refine g_orV ?_ | with_reducible refine g_notV ?_ | with_reducible refine g_ifE ?_ | with_reducible refine g_isN ?_
  | with_reducible refine g_par ?_ | with_reducible refine g_expar ?_ | with_reducible refine g_chain ?_ | with_reducible refine g_un ?_ | with_reducible refine g_U ?_ | with_reducible refine g_bits ?_ | ((with_reducible show rEq _ _ _ _); refine g_eq rfl ?_) | ((with_reducible show rNe _ _ _ _); refine g_ne rfl ?_)
  | with_reducible refine g_for ?_ | with_reducible refine g_iRng1 ?_ | with_reducible refine g_iRng2 ?_ | with_reducible refine g_iList ?_ | with_reducible refine g_iTup ?_
  | ((with_reducible refine g_Imul ?hc ?_); (case hc => (first | (refine Or.inl ⟨?_, ?_⟩ <;> first | decide | omega) | (refine Or.inr ⟨?_, ?_⟩ <;> first | decide | omega))))
  | ((with_reducible refine g_Idiv ?hc ?_); (case hc => (first | (exact ⟨by decide, by decide⟩) | assumption)))
  | ((with_reducible refine g_Imod ?hc ?_); (case hc => (first | assumption | omega | decide)))
  | ((with_reducible refine g_exR1 ?hlo ?hhi ?_); (case hlo => omega); (case hhi => omega))
  | ((with_reducible refine g_exR2 ?hb ?_); (case hb => omega))
  | with_reducible refine g_lst ?_ | with_reducible refine g_tup ?_ | with_reducible refine g_call ?_ | with_reducible refine g_BM ?_ | with_reducible refine g_BM0 ?_
  | with_reducible refine g_intB ?_ | with_reducible refine g_lc ?_ | with_reducible refine g_yes ?_ | with_reducible refine g_iZip ?_ | with_reducible refine g_sl ?_ | with_reducible refine g_noP ?_ | with_reducible refine g_part ?_ | with_reducible refine g_gcons ?_ | with_reducible refine g_gnil ?_
  | with_reducible refine g_tfld ?_ | with_reducible refine g_tmeth ?_ | with_reducible refine g_tmake ?_ | with_reducible refine g_sfld ?_ | with_reducible refine g_tprop ?_ | with_reducible refine g_tstar ?_ | with_reducible refine g_tmethK ?_ | with_reducible refine g_isN1 ?_ | with_reducible refine g_notN1 ?_ | with_reducible refine g_callK0 ?_ | with_reducible refine g_m1 ?_ | with_reducible refine g_isstr ?_ | with_reducible refine g_iStr ?_ | with_reducible refine g_exS ?_ | with_reducible refine g_iEnum ?_))
local macro_rules | `(tactic| walk_at "gx1") => `(tactic| (first
  | with_reducible refine g_seq ?_ | with_reducible refine g_asg ?_ | ((with_reducible show tVar _ _ _ _); refine g_var rfl ?_) | with_reducible refine g_c ?_ | with_reducible refine g_name ?_ | with_reducible refine g_op ?_ | with_reducible refine g_I0 ?_
  | with_reducible refine g_cons ?_ | with_reducible refine g_nil ?_ | with_reducible refine g_exbl ?_ | with_reducible refine g_exint ?_ | with_reducible refine g_test ?_ | with_reducible refine g_B ?_ | with_reducible refine g_ifS ?_ | with_reducible refine g_retN ?_ | with_reducible refine g_next ?_
  | with_reducible refine g_CB ?_ | with_reducible refine g_sub ?_ | with_reducible refine g_drop ?_ | with_reducible refine g_not ?_ | with_reducible refine g_and ?_ | with_reducible refine g_or ?_ | with_reducible refine g_andV ?_ | with_reducible refine g_orV ?_ | with_reducible refine g_notV ?_ | with_reducible refine g_ret ?_ | with_reducible refine g_isN ?_
  | with_reducible refine g_par ?_ | with_reducible refine g_expar ?_ | with_reducible refine g_chain ?_ | with_reducible refine g_un ?_ | with_reducible refine g_U ?_ | with_reducible refine g_bits ?_ | ((with_reducible show rEq _ _ _ _); refine g_eq rfl ?_) | ((with_reducible show rNe _ _ _ _); refine g_ne rfl ?_)
  | with_reducible refine g_for ?_ | with_reducible refine g_iRng1 ?_ | with_reducible refine g_iRng2 ?_ | with_reducible refine g_iList ?_ | with_reducible refine g_iTup ?_
  | ((with_reducible refine g_Imul ?hc ?_); (case hc => (first | (refine Or.inl ⟨?_, ?_⟩ <;> first | decide | omega) | (refine Or.inr ⟨?_, ?_⟩ <;> first | decide | omega))))
  | ((with_reducible refine g_Idiv ?hc ?_); (case hc => (first | (exact ⟨by decide, by decide⟩) | assumption)))
  | ((with_reducible refine g_Imod ?hc ?_); (case hc => (first | assumption | omega | decide)))
  | ((with_reducible refine g_exR1 ?hlo ?hhi ?_); (case hlo => omega); (case hhi => omega))
  | ((with_reducible refine g_exR2 ?hb ?_); (case hb => omega))
  | with_reducible refine g_lst ?_ | with_reducible refine g_tup ?_ | with_reducible refine g_call ?_ | with_reducible refine g_BM ?_ | with_reducible refine g_BM0 ?_
  | with_reducible refine g_intB ?_ | with_reducible refine g_lc ?_ | with_reducible refine g_yes ?_ | with_reducible refine g_iZip ?_ | with_reducible refine g_sl ?_ | with_reducible refine g_noP ?_ | with_reducible refine g_part ?_ | with_reducible refine g_gcons ?_ | with_reducible refine g_gnil ?_
  | with_reducible refine g_tfld ?_ | with_reducible refine g_tmeth ?_ | with_reducible refine g_tmake ?_ | with_reducible refine g_sfld ?_ | with_reducible refine g_tprop ?_ | with_reducible refine g_tstar ?_ | with_reducible refine g_tmethK ?_ | with_reducible refine g_isN1 ?_ | with_reducible refine g_notN1 ?_ | with_reducible refine g_callK0 ?_ | with_reducible refine g_m1 ?_ | with_reducible refine g_isstr ?_ | with_reducible refine g_iStr ?_ | with_reducible refine g_exS ?_ | with_reducible refine g_iEnum ?_))
local macro_rules | `(tactic| walk_at "hp") => `(tactic| (first | assumption | exact upd_same | (refine same_get (by assumption) ?_; walk_at "hp")))
local macro_rules | `(tactic| walk_at "sm") => `(tactic| (first | assumption | exact Same.refl _ | (refine Same.trans ?ha (by assumption); walk_at "sm")))
local macro_rules | `(tactic| walk_at "nn") => `(tactic| (first | assumption | (refine same_free (by assumption) ?_; walk_at "nn")))
local macro_rules | `(tactic| walk_at "sb") => `(tactic| (first | decide | (refine small_bits ?_ ?_ <;> omega)))
local macro_rules | `(tactic| walk_at "ln") => `(tactic| (simp only [List.length_cons, List.length_nil]; omega))
local macro_rules | `(tactic| walk_at "gg") => `(tactic| (repeat walk_at "g"))
local macro_rules | `(tactic| walk_at "gs") => `(tactic| (repeat walk_at "gs1"))
local macro_rules | `(tactic| walk_at "gx") => `(tactic| (repeat walk_at "gx1"))

section
variable {P : Program} {w : World} {K : PySem.W.Frag} {mg : Str → Option Value} {base : Heap} {X : Cx}
theorem digs_len (a : List Nat) : (digs a).length ≤ a.length := by
  unfold digs
  split
  · rw [List.length_drop]
    omega
  · exact Nat.le_refl _
theorem bools_of {acc : List V} {a : List Nat} {f : Nat → Bool} (hl : acc.length = a.length) (h : ∀ (i : Nat) y, acc[i]? = some y → ∀ c, a[i]? = some c → y = .bl (f c)) : acc = (a.map f).map V.bl := by
  apply List.ext_getElem?
  intro i
  rw [List.getElem?_map, List.getElem?_map]
  rcases Nat.lt_or_ge i acc.length with c | c
  · have c2 : i < a.length := by omega
    rw [List.getElem?_eq_getElem c, List.getElem?_eq_getElem c2, h i _ (List.getElem?_eq_getElem c) _ (List.getElem?_eq_getElem c2)]
    rfl
  · rw [List.getElem?_eq_none c, List.getElem?_eq_none (by omega)]
    rfl
theorem all_map (a : List Nat) (f : Nat → Bool) : (a.map f).all id = a.all f := by simp
def spIntAny : Sp := fun vs H Q _ => ∃ a : List Nat, vs = [.str (S a)] ∧ a.length ≤ 5000 ∧ ∀ H', Same H H' → Q (oV (readI a)) H'
abbrev s_integer_in : Stmt := top 9
abbrev N_integer_in : List Str := ["text", "digits", "sign"]
theorem sc_integer_in : FnScope N_integer_in ["text"] (defScope s_integer_in) := ⟨rfl, rfl, rfl, by decide +kernel, rfl, by decide +kernel, by decide +kernel⟩

theorem ok_intAny {f : Addr} {fd : FuncData} (D : Dn K mg "integer_in" s_integer_in ["text"] f fd) (T : Bt mg) (g_DIGITS : ∃ u, mg "DIGITS" = some u ∧ RelV (.str "0123456789") u) (g_MOST_DIGITS : ∃ u, mg "MOST_DIGITS" = some u ∧ RelV (.int 60) u) :
    Cal P w K mg base 1 "integer_in" spIntAny [] := by
  refine cal_of D (D.fn.ok sc_integer_in (fun vs H Q E h => ?_) (fun cdv A outer s H vs Q E hr h => ?_))
  · obtain ⟨n, rfl, _⟩ := h
    rfl
  · obtain ⟨a, rfl, la, k⟩ := h
    refine ⟨_, (pss_cons (ps_set (i := 1) sc_integer_in.nd rfl (Or.inl rfl) (pe_ifExp (pt_cmpR op_eq (pe_slice sl_str (pv 0) po_none (po_some pe_int)) pe_str (nomark _)) (pe_slice sl_str (pv 0) (po_some pe_int) po_none) (pv 0)))
    (pss_cons (ps_if (PW.pt (pw_or (pt_not (pt_chain op_le op_le pe_int (pe_callB call_len_str (by rfl) T.n_len bt_len (pa_cons (pv 1) pa_nil)) (pe_gc (by rfl) g_MOST_DIGITS))) (pw_or1 (pt_not (pt_val (pe_callB (cr_all rfl) (by rfl) T.n_all bt_all (pa_cons (pe_lc (own := [("sign", 2)]) (g := gName 2) (tt := tYes) rfl sc_integer_in.nd (pi_str (pv 1)) (blkOk_by (own := [("sign", 2)]) (N := N_integer_in) (sc := defScope s_integer_in) (by decide +kernel)) (fun _ _ _ _ _ => pg_name (i := 2) sc_integer_in.nd rfl (Or.inl rfl)) (fun _ _ _ _ _ => pts_nil) (fun _ _ _ _ _ => (pe_cmpR op_in_sign (pv 2) (pe_gc (by rfl) g_DIGITS) (by rfl)))) pa_nil))))))) (pss_one (ps_ret pe_non)) pss_nil)
    (pss_cons (ps_if (PW.pt (pw_and (pt_cmpR op_eq (pe_ix ix_str (pv 1) pe_int (fun _ _ => rfl)) pe_str (nomark _)) (pw_and1 (pt_cmpR op_ne (pv 0) pe_str (nomark _))))) (pss_one (ps_ret pe_non)) pss_nil)
    (pss_one (ps_ret (pe_callTy call_int_str (by rfl) T.n_int bt_int (pa_cons (pv 0) pa_nil))))))), ?_⟩
    have ld := digs_len a
    have sz : a.length ≤ sizeLine := Nat.le_trans la (by decide)
    walk_at "gx"
    refine g_cutE (fun v H' => v = .str (S (digs a)) ∧ H = H') (fun Q' kq => ?_) ?_
    · walk_at "gg"
      refine ⟨_, rfl, by rw [S_len]; exact sz, ?_⟩
      rw [cut_to1]
      walk_at "gg"
      by_cases c : a.take 1 = [45]
      · refine g_ifT (decide_eq_true (by rw [c]; rfl)) ?_
        walk_at "gg"
        refine ⟨_, rfl, by rw [S_len]; exact sz, ?_⟩
        rw [cut_from1]
        exact kq _ _ ⟨by unfold digs; rw [if_pos c], rfl⟩
      · refine g_ifF (decide_eq_false fun z => c ?_) ?_
        · have z2 : S (a.take 1) = S [45] := V.str.inj z
          exact S_inj z2
        · walk_at "gg"
          exact kq _ _ ⟨by unfold digs; rw [if_neg c], rfl⟩
    · rintro _ _ ⟨rfl, rfl⟩
      walk_at "g"
      walk_at "g"
      refine g_ifS (g_cutT (fun b H' => b = (!(decide (1 ≤ (digs a).length) && decide ((digs a).length ≤ 60) && (digs a).all isDig)) ∧ Same H H') (fun Q' kq => ?_) ?_)
      · walk_at "gg"
        refine ⟨_, rfl, by rw [S_len]; omega, ?_⟩
        rw [S_len]
        walk_at "gg"
        by_cases c1 : 1 ≤ (digs a).length
        · refine g_ifT (decide_eq_true (by omega)) ?_
          walk_at "gg"
          by_cases c2 : (digs a).length ≤ 60
          · rw [decide_eq_true (show ((digs a).length : Int) ≤ 60 by omega)]
            refine g_ifF rfl ?_
            walk_at "gg"
            refine lc_map (src_str (x := S (digs a))) (by show (S (digs a)).length ≤ _; rw [S_len]; omega) (fun i y => ∀ c, (digs a)[i]? = some c → y = .bl (isDig c)) (fun i x H' Nx hi S1 ⟨c, hc, ec⟩ kx => ?_) fun l acc H1 n1 S1 e1 la pa => ?_
            · subst ec
              walk_at "gg"
              refine ⟨rfl, ?_⟩
              walk_at "gg"
              refine ⟨c, _, rfl, rfl, kx _ _ (Same.refl _) fun d hd => ?_⟩
              have h2 : (digs a)[i]? = some c := by simpa [S] using hc
              rw [h2] at hd
              obtain rfl := Option.some.inj hd
              have hl : (Str.ofString "0123456789").cps.toList = [48, 49, 50, 51, 52, 53, 54, 55, 56, 57] := by decide +kernel
              rw [hl]
              unfold isDig
              congr 1
              rw [Bool.eq_iff_iff]
              simp
              omega
            · have l2 : acc.length = (digs a).length := la.trans (S_len _)
              rw [bools_of l2 pa] at e1
              walk_at "gg"
              refine g_all (SqL.of e1) ?_
              walk_at "gg"
              rw [all_map]
              refine kq _ _ ⟨?_, S1⟩
              rw [decide_eq_true c1, decide_eq_true c2]
              rfl
          · rw [decide_eq_false (show ¬ ((digs a).length : Int) ≤ 60 by omega)]
            refine g_ifT rfl ?_
            refine kq _ _ ⟨?_, Same.refl _⟩
            rw [decide_eq_false c2]
            simp
        · refine g_ifF (decide_eq_false (by omega)) ?_
          walk_at "gg"
          refine g_ifT rfl ?_
          refine kq _ _ ⟨?_, Same.refl _⟩
          rw [decide_eq_false c1]
          simp
      · rintro b H1 ⟨hb, S1⟩
        cases g : (decide (1 ≤ (digs a).length) && decide ((digs a).length ≤ 60) && (digs a).all isDig) with
        | false =>
          rw [g] at hb
          refine g_ifT hb ?_
          walk_at "gg"
          have e : readI a = none := by
            unfold readI goodI
            rw [g]
            rfl
          rw [e] at k
          exact k H1 S1
        | true =>
          rw [g] at hb
          refine g_ifF hb ?_
          walk_at "g"
          walk_at "g"
          have g2 := g
          rw [Bool.and_eq_true, Bool.and_eq_true, decide_eq_true_eq, decide_eq_true_eq] at g2
          obtain ⟨⟨g3, g4⟩, g5⟩ := g2
          obtain ⟨iv, al⟩ := int_good g3 g4 g5
          refine g_ifS (g_cutT (fun b H' => b = (decide ((digs a).head? = some 48) && !decide (a = [48])) ∧ H1 = H') (fun Q' kq => ?_) ?_)
          · walk_at "gg"
            cases q : digs a with
            | nil =>
              rw [q] at g3
              cases g3
            | cons x r =>
              rw [q] at ld g4
              refine ⟨_, _, x, rfl, rfl, by rw [S_len]; exact Nat.le_trans g4 (by decide), atI_headN rfl, ?_⟩
              walk_at "gg"
              by_cases c : x = 48
              · subst c
                refine g_ifT (decide_eq_true rfl) ?_
                walk_at "gg"
                refine kq _ _ ⟨?_, rfl⟩
                have e : decide (V.str (S a) = V.str "0") = decide (a = [48]) := by
                  by_cases z : a = [48]
                  · rw [decide_eq_true z, z]
                    decide +kernel
                  · rw [decide_eq_false z]
                    exact decide_eq_false fun y => z (S_inj (show S a = S [48] from V.str.inj y))
                rw [e]
                simp [q]
              · refine g_ifF (decide_eq_false fun z => c ?_) (kq _ _ ⟨?_, rfl⟩)
                · have z2 : S [x] = S [48] := V.str.inj z
                  exact (List.cons.inj (S_inj z2)).1
                · simp [q, c]
          · rintro b2 H2 ⟨hb2, rfl⟩
            cases g6 : (decide ((digs a).head? = some 48) && !decide (a = [48])) with
            | true =>
              rw [g6] at hb2
              refine g_ifT hb2 ?_
              walk_at "gg"
              have e : readI a = none := by
                unfold readI goodI
                rw [g, g6]
                rfl
              rw [e] at k
              exact k H1 S1
            | false =>
              rw [g6] at hb2
              refine g_ifF hb2 ?_
              walk_at "gg"
              have e : readI a = some (valI a) := by
                unfold readI goodI
                rw [g, g6]
                rfl
              rw [e] at k
              exact ⟨_, _, rfl, iv, by rw [S_len]; omega, k H1 S1⟩
end
end Gk

namespace Gk
open PySem L2 Gx SX TL
open C8 (Cal Met Mak pe_c pe_mt pe_mt0 pe_mk pe_gc)
open StX (pa_star)
local macro_rules | `(tactic| walk_at "g") => `(tactic| (first
  | with_reducible refine g_seq ?_ | with_reducible refine g_asg ?_ | ((with_reducible show tVar _ _ _ _); refine g_var rfl ?_) | with_reducible refine g_c ?_ | with_reducible refine g_name ?_ | with_reducible refine g_op ?_ | with_reducible refine g_I0 ?_
  | with_reducible refine g_cons ?_ | with_reducible refine g_nil ?_ | with_reducible refine g_exbl ?_ | with_reducible refine g_exint ?_ | with_reducible refine g_test ?_ | with_reducible refine g_B ?_ | with_reducible refine g_ifS ?_ | with_reducible refine g_ret ?_ | with_reducible refine g_retN ?_ | with_reducible refine g_next ?_
  | with_reducible refine g_CB ?_ | with_reducible refine g_sub ?_ | with_reducible refine g_drop ?_ | with_reducible refine g_not ?_ | with_reducible refine g_and ?_ | with_reducible refine g_or ?_ | with_reducible refine g_andV ?_ | with_reducible refine g_orV ?_ | with_reducible refine g_notV ?_ | with_reducible refine g_ifE ?_ | with_reducible refine g_isN ?_
  | with_reducible refine g_par ?_ | with_reducible refine g_expar ?_ | with_reducible refine g_chain ?_ | with_reducible refine g_un ?_ | with_reducible refine g_U ?_ | with_reducible refine g_bits ?_ | ((with_reducible show rEq _ _ _ _); refine g_eq rfl ?_) | ((with_reducible show rNe _ _ _ _); refine g_ne rfl ?_)
  | with_reducible refine g_for ?_ | with_reducible refine g_iRng1 ?_ | with_reducible refine g_iRng2 ?_ | with_reducible refine g_iList ?_ | with_reducible refine g_iTup ?_
  | ((with_reducible refine g_Imul ?hc ?_); (case hc => (first | (refine Or.inl ⟨?_, ?_⟩ <;> first | decide | omega) | (refine Or.inr ⟨?_, ?_⟩ <;> first | decide | omega))))
  | ((with_reducible refine g_Idiv ?hc ?_); (case hc => (first | (exact ⟨by decide, by decide⟩) | assumption)))
  | ((with_reducible refine g_Imod ?hc ?_); (case hc => (first | assumption | omega | decide)))
  | ((with_reducible refine g_exR1 ?hlo ?hhi ?_); (case hlo => omega); (case hhi => omega))
  | ((with_reducible refine g_exR2 ?hb ?_); (case hb => omega))
  | with_reducible refine g_lst ?_ | with_reducible refine g_tup ?_ | with_reducible refine g_call ?_ | with_reducible refine g_BM ?_ | with_reducible refine g_BM0 ?_
  | with_reducible refine g_intB ?_ | with_reducible refine g_lc ?_ | with_reducible refine g_yes ?_ | with_reducible refine g_iZip ?_ | with_reducible refine g_sl ?_ | with_reducible refine g_noP ?_ | with_reducible refine g_part ?_ | with_reducible refine g_gcons ?_ | with_reducible refine g_gnil ?_
  | with_reducible refine g_tfld ?_ | with_reducible refine g_tmeth ?_ | with_reducible refine g_tmake ?_ | with_reducible refine g_sfld ?_ | with_reducible refine g_tprop ?_ | with_reducible refine g_tstar ?_ | with_reducible refine g_tmethK ?_ | with_reducible refine g_isN1 ?_ | with_reducible refine g_notN1 ?_ | with_reducible refine g_callK0 ?_ | with_reducible refine g_m1 ?_ | with_reducible refine g_isstr ?_ | with_reducible refine g_iStr ?_ | with_reducible refine g_exS ?_ | with_reducible refine g_iEnum ?_))
local macro_rules | `(tactic| walk_at "gs1") => `(tactic| (first
  | with_reducible refine g_seq ?_ | with_reducible refine g_asg ?_ | ((with_reducible show tVar _ _ _ _); refine g_var rfl ?_) | with_reducible refine g_c ?_ | with_reducible refine g_name ?_ | with_reducible refine g_op ?_ | with_reducible refine g_I0 ?_
  | with_reducible refine g_cons ?_ | with_reducible refine g_nil ?_ | with_reducible refine g_exbl ?_ | with_reducible refine g_exint ?_ | with_reducible refine g_test ?_ | with_reducible refine g_B ?_ | with_reducible refine g_ifS ?_ | with_reducible refine g_retN ?_ | with_reducible refine g_next ?_
  | with_reducible refine g_CB ?_ | with_reducible refine g_sub ?_ | with_reducible refine g_drop ?_ | with_reducible refine g_not ?_ | with_reducible refine g_and ?_ | with_reducible refine g_or ?_ | with_reducible refine g_andV ?_ | with_reducible refine g_orV ?_ | with_reducible refine g_notV ?_ | with_reducible refine g_ifE ?_ | with_reducible refine g_isN ?_
  | with_reducible refine g_par ?_ | with_reducible refine g_expar ?_ | with_reducible refine g_chain ?_ | with_reducible refine g_un ?_ | with_reducible refine g_U ?_ | with_reducible refine g_bits ?_ | ((with_reducible show rEq _ _ _ _); refine g_eq rfl ?_) | ((with_reducible show rNe _ _ _ _); refine g_ne rfl ?_)
  | with_reducible refine g_for ?_ | with_reducible refine g_iRng1 ?_ | with_reducible refine g_iRng2 ?_ | with_reducible refine g_iList ?_ | with_reducible refine g_iTup ?_
  | ((with_reducible refine g_Imul ?hc ?_); (case hc => (first | (refine Or.inl ⟨?_, ?_⟩ <;> first | decide | omega) | (refine Or.inr ⟨?_, ?_⟩ <;> first | decide | omega))))
  | ((with_reducible refine g_Idiv ?hc ?_); (case hc => (first | (exact ⟨by decide, by decide⟩) | assumption)))
  | ((with_reducible refine g_Imod ?hc ?_); (case hc => (first | assumption | omega | decide)))
  | ((with_reducible refine g_exR1 ?hlo ?hhi ?_); (case hlo => omega); (case hhi => omega))
  | ((with_reducible refine g_exR2 ?hb ?_); (case hb => omega))
  | with_reducible refine g_lst ?_ | with_reducible refine g_tup ?_ | with_reducible refine g_call ?_ | with_reducible refine g_BM ?_ | with_reducible refine g_BM0 ?_
  | with_reducible refine g_intB ?_ | with_reducible refine g_lc ?_ | with_reducible refine g_yes ?_ | with_reducible refine g_iZip ?_ | with_reducible refine g_sl ?_ | with_reducible refine g_noP ?_ | with_reducible refine g_part ?_ | with_reducible refine g_gcons ?_ | with_reducible refine g_gnil ?_
  | with_reducible refine g_tfld ?_ | with_reducible refine g_tmeth ?_ | with_reducible refine g_tmake ?_ | with_reducible refine g_sfld ?_ | with_reducible refine g_tprop ?_ | with_reducible refine g_tstar ?_ | with_reducible refine g_tmethK ?_ | with_reducible refine g_isN1 ?_ | with_reducible refine g_notN1 ?_ | with_reducible refine g_callK0 ?_ | with_reducible refine g_m1 ?_ | with_reducible refine g_isstr ?_ | with_reducible refine g_iStr ?_ | with_reducible refine g_exS ?_ | with_reducible refine g_iEnum ?_))
local macro_rules | `(tactic| walk_at "gx1") => `(tactic| (first
  | with_reducible refine g_seq ?_ | with_reducible refine g_asg ?_ | ((with_reducible show tVar _ _ _ _); refine g_var rfl ?_) | with_reducible refine g_c ?_ | with_reducible refine g_name ?_ | with_reducible refine g_op ?_ | with_reducible refine g_I0 ?_
  | with_reducible refine g_cons ?_ | with_reducible refine g_nil ?_ | with_reducible refine g_exbl ?_ | with_reducible refine g_exint ?_ | with_reducible refine g_test ?_ | with_reducible refine g_B ?_ | with_reducible refine g_ifS ?_ | with_reducible refine g_retN ?_ | with_reducible refine g_next ?_
  | with_reducible refine g_CB ?_ | with_reducible refine g_sub ?_ | with_reducible refine g_drop ?_ | with_reducible refine g_not ?_ | with_reducible refine g_and ?_ | with_reducible refine g_or ?_ | with_reducible refine g_andV ?_ | with_reducible refine g_orV ?_ | with_reducible refine g_notV ?_ | with_reducible refine g_ret ?_ | with_reducible refine g_isN ?_
  | with_reducible refine g_par ?_ | with_reducible refine g_expar ?_ | with_reducible refine g_chain ?_ | with_reducible refine g_un ?_ | with_reducible refine g_U ?_ | with_reducible refine g_bits ?_ | ((with_reducible show rEq _ _ _ _); refine g_eq rfl ?_) | ((with_reducible show rNe _ _ _ _); refine g_ne rfl ?_)
  | with_reducible refine g_for ?_ | with_reducible refine g_iRng1 ?_ | with_reducible refine g_iRng2 ?_ | with_reducible refine g_iList ?_ | with_reducible refine g_iTup ?_
  | ((with_reducible refine g_Imul ?hc ?_); (case hc => (first | (refine Or.inl ⟨?_, ?_⟩ <;> first | decide | omega) | (refine Or.inr ⟨?_, ?_⟩ <;> first | decide | omega))))
  | ((with_reducible refine g_Idiv ?hc ?_); (case hc => (first | (exact ⟨by decide, by decide⟩) | assumption)))
  | ((with_reducible refine g_Imod ?hc ?_); (case hc => (first | assumption | omega | decide)))
  | ((with_reducible refine g_exR1 ?hlo ?hhi ?_); (case hlo => omega); (case hhi => omega))
  | ((with_reducible refine g_exR2 ?hb ?_); (case hb => omega))
  | with_reducible refine g_lst ?_ | with_reducible refine g_tup ?_ | with_reducible refine g_call ?_ | with_reducible refine g_BM ?_ | with_reducible refine g_BM0 ?_
  | with_reducible refine g_intB ?_ | with_reducible refine g_lc ?_ | with_reducible refine g_yes ?_ | with_reducible refine g_iZip ?_ | with_reducible refine g_sl ?_ | with_reducible refine g_noP ?_ | with_reducible refine g_part ?_ | with_reducible refine g_gcons ?_ | with_reducible refine g_gnil ?_
  | with_reducible refine g_tfld ?_ | with_reducible refine g_tmeth ?_ | with_reducible refine g_tmake ?_ | with_reducible refine g_sfld ?_ | with_reducible refine g_tprop ?_ | with_reducible refine g_tstar ?_ | with_reducible refine g_tmethK ?_ | with_reducible refine g_isN1 ?_ | with_reducible refine g_notN1 ?_ | with_reducible refine g_callK0 ?_ | with_reducible refine g_m1 ?_ | with_reducible refine g_isstr ?_ | with_reducible refine g_iStr ?_ | with_reducible refine g_exS ?_ | with_reducible refine g_iEnum ?_))
local macro_rules | `(tactic| walk_at "hp") => `(tactic| (first | assumption | exact upd_same | (refine same_get (by assumption) ?_; walk_at "hp")))
local macro_rules | `(tactic| walk_at "sm") => `(tactic| (first | assumption | exact Same.refl _ | (refine Same.trans ?ha (by assumption); walk_at "sm")))
local macro_rules | `(tactic| walk_at "nn") => `(tactic| (first | assumption | (refine same_free (by assumption) ?_; walk_at "nn")))
local macro_rules | `(tactic| walk_at "sb") => `(tactic| (first | decide | (refine small_bits ?_ ?_ <;> omega)))
local macro_rules | `(tactic| walk_at "ln") => `(tactic| (simp only [List.length_cons, List.length_nil]; omega))
local macro_rules | `(tactic| walk_at "gg") => `(tactic| (repeat walk_at "g"))
local macro_rules | `(tactic| walk_at "gs") => `(tactic| (repeat walk_at "gs1"))
local macro_rules | `(tactic| walk_at "gx") => `(tactic| (repeat walk_at "gx1"))

section
variable {P : Program} {w : World} {K : PySem.W.Frag} {mg : Str → Option Value} {base : Heap} {X : Cx}
theorem map_ofA {α : Type} {acc : List V} {ns : List α} {f : α → V} (hl : acc.length = ns.length) (h : ∀ (i : Nat) y, acc[i]? = some y → ∀ n, ns[i]? = some n → y = f n) : acc = ns.map f := by
  apply List.ext_getElem?
  intro i
  rw [List.getElem?_map]
  rcases Nat.lt_or_ge i acc.length with c | c
  · have c2 : i < ns.length := by omega
    rw [List.getElem?_eq_getElem c, List.getElem?_eq_getElem c2, h i _ (List.getElem?_eq_getElem c) _ (List.getElem?_eq_getElem c2)]
    rfl
  · rw [List.getElem?_eq_none c, List.getElem?_eq_none (by omega)]
    rfl
theorem strA_at {as : List (List Nat)} {i : Nat} {x : V} (h : (as.map fun a => V.str (S a))[i]? = some x) : ∃ a, as[i]? = some a ∧ x = .str (S a) := by
  rw [List.getElem?_map] at h
  cases e : as[i]? with
  | none =>
    rw [e] at h
    cases h
  | some n =>
    rw [e] at h
    exact ⟨n, rfl, (Option.some.inj h).symm⟩
theorem flat_o (as : List (List Nat)) : (as.map fun a => oV (readI a)).all flatV = true := by
  rw [List.all_eq_true]
  intro x hx
  obtain ⟨a, _, rfl⟩ := List.mem_map.mp hx
  cases readI a <;> rfl
theorem inV_o (as : List (List Nat)) : inV .non (as.map fun a => oV (readI a)) = as.any fun a => (readI a).isNone := by
  induction as with
  | nil => rfl
  | cons a r ih =>
    show (eqV (oV (readI a)) .non || inV .non (r.map fun a => oV (readI a))) = ((readI a).isNone || r.any fun a => (readI a).isNone)
    rw [ih]
    cases readI a <;> rfl
theorem all_some : ∀ (as : List (List Nat)), (as.any fun a => (readI a).isNone) = false → ∃ ns : List Int, as.map (fun a => oV (readI a)) = ns.map V.int ∧ as.map readI = ns.map some
  | [], _ => ⟨[], rfl, rfl⟩
  | a :: r, h => by
    rw [List.any_cons, Bool.or_eq_false_iff] at h
    obtain ⟨ns, e1, e2⟩ := all_some r h.2
    cases q : readI a with
    | none =>
      rw [q] at h
      exact absurd h.1 (by decide)
    | some n => exact ⟨n :: ns, by rw [List.map_cons, List.map_cons, e1, q], by rw [List.map_cons, List.map_cons, e2, q]⟩
def spIntsAny (K : PySem.W.Frag) : Sp := fun vs H Q _ => ∃ (p : Addr) (as : List (List Nat)), vs = [.ref p] ∧ SqL K H p (as.map fun a => V.str (S a)) ∧ (∀ a ∈ as, a.length ≤ 5000) ∧ as.length ≤ 5001 ∧
  ((as.any fun a => (readI a).isNone) = true → ∀ H', Same H H' → Q .non H') ∧ (∀ ns : List Int, as.map readI = ns.map some → ∀ l H', H l = none → Same H H' → H' l = some (.lst (ns.map V.int)) → Q (.ref l) H')
abbrev s_integers_in : Stmt := top 10
abbrev N_integers_in : List Str := ["texts", "found", "text"]
theorem sc_integers_in : FnScope N_integers_in ["texts"] (defScope s_integers_in) := ⟨rfl, rfl, rfl, by decide +kernel, rfl, by decide +kernel, by decide +kernel⟩

theorem ok_intsAny {f : Addr} {fd : FuncData} (D : Dn K mg "integers_in" s_integers_in ["texts"] f fd) (T : Bt mg) (c_integer_in : Cal P w K mg base 1 "integer_in" spIntAny []) : Cal P w K mg base 2 "integers_in" (spIntsAny K) [] := by
  refine cal_of D (D.fn.ok sc_integers_in (fun vs H Q E h => ?_) (fun cdv A outer s H vs Q E hr h => ?_))
  · obtain ⟨p, ns, rfl, _⟩ := h
    rfl
  · obtain ⟨p, as, rfl, hp, hb, hl, k1, k2⟩ := h
    refine ⟨_, (pss_cons (ps_setLc (i := 1) (own := [("text", 2)]) (g := gName 2) (tt := tYes) rfl sc_integers_in.nd rfl rfl (sw_true rfl rfl rfl (by decide +kernel)) (pi_list (pv 0)) (blkOk_by (own := [("text", 2)]) (N := N_integers_in) (sc := defScope s_integers_in) (by decide +kernel)) (fun _ _ _ _ _ => pg_name (i := 2) sc_integers_in.nd rfl (Or.inl rfl)) (fun _ _ _ _ _ => pts_nil) (fun _ _ _ _ _ => (pe_c c_integer_in hr (by decide) (by rfl) (pa_cons (pv 2) pa_nil))))
    (pss_one (ps_ret (pe_ifExp (pt_cmpR op_in_seq pe_non (pv 1) (by rfl)) pe_non (pv 1))))), ?_⟩
    walk_at "gg"
    refine g_exL hp ?_
    refine lc_map (src_list hp) (by rw [List.length_map]; omega) (fun i y => ∀ a, as[i]? = some a → y = oV (readI a)) (fun i x H1 Nx hi S1 hx kx => ?_) fun l acc H1 n1 S1 e1 la pa => ?_
    · obtain ⟨a, en, rfl⟩ := strA_at hx
      walk_at "gg"
      refine ⟨rfl, ?_⟩
      walk_at "gg"
      refine ⟨a, rfl, hb a (List.mem_of_getElem? en), fun H2 S2 => kx _ _ S2 fun m em => ?_⟩
      rw [en] at em
      rw [Option.some.inj em]
    · rw [List.length_map] at la
      rw [map_ofA la pa] at e1
      walk_at "gg"
      refine ⟨l, _, rfl, .inl (SqL.of e1), rfl, flat_o as, ?_⟩
      rw [inV_o]
      walk_at "gg"
      show if (as.any fun a => (readI a).isNone) = true then _ else _
      cases q : (as.any fun a => (readI a).isNone) with
      | true =>
        refine g_ifT rfl ?_
        walk_at "gg"
        exact k1 q H1 S1
      | false =>
        refine g_ifF rfl ?_
        walk_at "gg"
        obtain ⟨ns, z1, z2⟩ := all_some as q
        rw [z1] at e1
        exact k2 ns z2 l H1 n1 S1 e1
end
end Gk

namespace Gk
open PySem L2 Gx PySem.Spec PyProof.Rows
/-- what the class of errors with a place says, so that one may be raised -/
structure BadC (P : Program) (w : World) (K : PySem.W.Frag) (mg : Str → Option Value) (base : Heap) (k : Nat) (x : Str) (C : Addr) : Prop where
  ox : OexC K C
  named : mg x = some (.ref C)
  init : ∃ (fI : Addr) (fd : FuncData), PySem.W.findIn K (.ref C) "__init__" = some (some (.ref fI)) ∧ PySem.W.typeIn K (.ref fI) = some (.type "function") ∧ FnOk P w K mg base CX0 k fI fd ["self", "place"] (spBadInit K C) ∧ Binds K fd ["self", "place"] []
section
variable {X : Cx} {e : Expr} {es : List Expr} {x : Str} {ta : TA} {p pos pos2 : Pos} {C : Addr}
def tBad (K : PySem.W.Frag) (C : Addr) (W : WX) (ta : TA) : TS := fun _ σ H => tMkO C (spBadInit K C) [] ta σ H fun cls d H' => W cls d σ H'
theorem ps_bad {k j : Nat} {W : WX} (B : BadC X.prog X.w X.K X.mg X.base k x C) (hr : Room j X.A) (hk : k + 1 ≤ j) (hc : X.calm = true) (tk : Takes X W) (hg : Gl X x) (ha : PA X (e :: es) ta)
    (hdb : (x == ("__debug__" : Str)) = false := by decide) (he : starEach (e :: es) X.env = (false, eval e X.env) :: starEach es X.env := by rfl) (hpl : (backTo pos (starEach es X.env)).any (·.1) = false := by rfl) :
    PS X (.Raise (some (.Call (.Name x p) (e :: es) [] pos)) none pos2) (tBad X.K C W ta) := by
  obtain ⟨fI, fd, h1, h2, F, b⟩ := B.init
  exact ps_raise hc tk (pmk_oex (CX := CX0) B.ox h1 h2 F (hr.mono hk) b .nil pass0 hg B.named ha hdb he hpl)
end
section
variable {σ : L2.St} {H : Hp} {K : PySem.W.Frag} {ta : TA} {D : Ends} {C : Addr} {W : WX}
theorem g_bad (q : ta σ H fun vs H1 => vs.length ≤ 1000 ∧ ∀ a, H1 a = none → spBadInit K C (.ref a :: (vs ++ [])) (upd H1 a (exo a C none))
    (fun v H2 => v = .non ∧ ∃ (d : Addr) (fs : List (Str × V)), H2 a = some (exo a C (some d)) ∧ H2 d = some (exd d fs) ∧ H1 d = none ∧ W (.ref C) (some d) σ (upd (del H2 a) d (.xd fs))) (fun _ _ _ => False)) : tBad K C W ta D σ H := q
theorem bad_end {v : V} {H1 : Hp} {E : Value → Option Addr → Hp → Prop} (q : ∀ (d : Addr) (H' : Hp), Same H1 H' → H1 d = none → H' d = some (.xd [("place", v)]) → E (.ref C) (some d) H') :
    [v].length ≤ 1000 ∧ ∀ a, H1 a = none → spBadInit K C (.ref a :: ([v] ++ [])) (upd H1 a (exo a C none))
      (fun v H2 => v = .non ∧ ∃ (d : Addr) (fs : List (Str × V)), H2 a = some (exo a C (some d)) ∧ H2 d = some (exd d fs) ∧ H1 d = none ∧ E (.ref C) (some d) (upd (del H2 a) d (.xd fs))) (fun _ _ _ => False) := by
  refine ⟨(by show 1 ≤ 1000; decide), fun a ha => ⟨a, v, rfl, upd_same, fun d nd ne => ⟨rfl, d, [("place", v)], upd_same, ?_, ?_, ?_⟩⟩⟩
  · rw [upd_ne ne, upd_same]
  · rw [upd_ne ne] at nd
    exact nd
  · rw [upd_ne ne] at nd
    refine q d _ (fun b o e => ?_) nd upd_same
    have b1 : b ≠ a := ne_of_none e ha
    have b2 : b ≠ d := ne_of_none e nd
    rw [upd_ne b2, del_ne b1, upd_ne b1, upd_ne b2, upd_ne b1]
    exact e
end
end Gk

namespace Gk
open PySem L2 Gx SX TL
open C8 (Cal Met Mak pe_c pe_mt pe_mt0 pe_mk pe_gc)
local macro_rules | `(tactic| walk_at "g") => `(tactic| (first
  | with_reducible refine g_seq ?_ | with_reducible refine g_asg ?_ | ((with_reducible show tVar _ _ _ _); refine g_var rfl ?_) | with_reducible refine g_c ?_ | with_reducible refine g_name ?_ | with_reducible refine g_op ?_ | with_reducible refine g_I0 ?_
  | with_reducible refine g_cons ?_ | with_reducible refine g_nil ?_ | with_reducible refine g_exbl ?_ | with_reducible refine g_exint ?_ | with_reducible refine g_test ?_ | with_reducible refine g_B ?_ | with_reducible refine g_ifS ?_ | with_reducible refine g_ret ?_ | with_reducible refine g_retN ?_ | with_reducible refine g_next ?_
  | with_reducible refine g_CB ?_ | with_reducible refine g_sub ?_ | with_reducible refine g_drop ?_ | with_reducible refine g_not ?_ | with_reducible refine g_and ?_ | with_reducible refine g_or ?_ | with_reducible refine g_andV ?_ | with_reducible refine g_orV ?_ | with_reducible refine g_notV ?_ | with_reducible refine g_ifE ?_ | with_reducible refine g_isN ?_
  | with_reducible refine g_par ?_ | with_reducible refine g_expar ?_ | with_reducible refine g_chain ?_ | with_reducible refine g_un ?_ | with_reducible refine g_U ?_ | with_reducible refine g_bits ?_ | ((with_reducible show rEq _ _ _ _); refine g_eq rfl ?_) | ((with_reducible show rNe _ _ _ _); refine g_ne rfl ?_)
  | with_reducible refine g_for ?_ | with_reducible refine g_iRng1 ?_ | with_reducible refine g_iRng2 ?_ | with_reducible refine g_iList ?_ | with_reducible refine g_iTup ?_
  | ((with_reducible refine g_Imul ?hc ?_); (case hc => (first | (refine Or.inl ⟨?_, ?_⟩ <;> first | decide | omega) | (refine Or.inr ⟨?_, ?_⟩ <;> first | decide | omega))))
  | ((with_reducible refine g_Idiv ?hc ?_); (case hc => (first | (exact ⟨by decide, by decide⟩) | assumption)))
  | ((with_reducible refine g_Imod ?hc ?_); (case hc => (first | assumption | omega | decide)))
  | ((with_reducible refine g_exR1 ?hlo ?hhi ?_); (case hlo => omega); (case hhi => omega))
  | ((with_reducible refine g_exR2 ?hb ?_); (case hb => omega))
  | with_reducible refine g_lst ?_ | with_reducible refine g_tup ?_ | with_reducible refine g_call ?_ | with_reducible refine g_BM ?_ | with_reducible refine g_BM0 ?_
  | with_reducible refine g_intB ?_ | with_reducible refine g_lc ?_ | with_reducible refine g_yes ?_ | with_reducible refine g_iZip ?_ | with_reducible refine g_sl ?_ | with_reducible refine g_noP ?_ | with_reducible refine g_part ?_ | with_reducible refine g_gcons ?_ | with_reducible refine g_gnil ?_
  | with_reducible refine g_tfld ?_ | with_reducible refine g_tmeth ?_ | with_reducible refine g_tmake ?_ | with_reducible refine g_sfld ?_ | with_reducible refine g_tprop ?_ | with_reducible refine g_tstar ?_ | with_reducible refine g_tmethK ?_ | with_reducible refine g_isN1 ?_ | with_reducible refine g_notN1 ?_ | with_reducible refine g_callK0 ?_ | with_reducible refine g_m1 ?_ | with_reducible refine g_isstr ?_ | with_reducible refine g_iStr ?_ | with_reducible refine g_exS ?_ | with_reducible refine g_iEnum ?_))
local macro_rules | `(tactic| walk_at "gs1") => `(tactic| (first
  | with_reducible refine g_seq ?_ | with_reducible refine g_asg ?_ | ((with_reducible show tVar _ _ _ _); refine g_var rfl ?_) | with_reducible refine g_c ?_ | with_reducible refine g_name ?_ | with_reducible refine g_op ?_ | with_reducible refine g_I0 ?_
  | with_reducible refine g_cons ?_ | with_reducible refine g_nil ?_ | with_reducible refine g_exbl ?_ | with_reducible refine g_exint ?_ | with_reducible refine g_test ?_ | with_reducible refine g_B ?_ | with_reducible refine g_ifS ?_ | with_reducible refine g_retN ?_ | with_reducible refine g_next ?_
  | with_reducible refine g_CB ?_ | with_reducible refine g_sub ?_ | with_reducible refine g_drop ?_ | with_reducible refine g_not ?_ | with_reducible refine g_and ?_ | with_reducible refine g_or ?_ | with_reducible refine g_andV ?_ | with_reducible refine g_orV ?_ | with_reducible refine g_notV ?_ | with_reducible refine g_ifE ?_ | with_reducible refine g_isN ?_
  | with_reducible refine g_par ?_ | with_reducible refine g_expar ?_ | with_reducible refine g_chain ?_ | with_reducible refine g_un ?_ | with_reducible refine g_U ?_ | with_reducible refine g_bits ?_ | ((with_reducible show rEq _ _ _ _); refine g_eq rfl ?_) | ((with_reducible show rNe _ _ _ _); refine g_ne rfl ?_)
  | with_reducible refine g_for ?_ | with_reducible refine g_iRng1 ?_ | with_reducible refine g_iRng2 ?_ | with_reducible refine g_iList ?_ | with_reducible refine g_iTup ?_
  | ((with_reducible refine g_Imul ?hc ?_); (case hc => (first | (refine Or.inl ⟨?_, ?_⟩ <;> first | decide | omega) | (refine Or.inr ⟨?_, ?_⟩ <;> first | decide | omega))))
  | ((with_reducible refine g_Idiv ?hc ?_); (case hc => (first | (exact ⟨by decide, by decide⟩) | assumption)))
  | ((with_reducible refine g_Imod ?hc ?_); (case hc => (first | assumption | omega | decide)))
  | ((with_reducible refine g_exR1 ?hlo ?hhi ?_); (case hlo => omega); (case hhi => omega))
  | ((with_reducible refine g_exR2 ?hb ?_); (case hb => omega))
  | with_reducible refine g_lst ?_ | with_reducible refine g_tup ?_ | with_reducible refine g_call ?_ | with_reducible refine g_BM ?_ | with_reducible refine g_BM0 ?_
  | with_reducible refine g_intB ?_ | with_reducible refine g_lc ?_ | with_reducible refine g_yes ?_ | with_reducible refine g_iZip ?_ | with_reducible refine g_sl ?_ | with_reducible refine g_noP ?_ | with_reducible refine g_part ?_ | with_reducible refine g_gcons ?_ | with_reducible refine g_gnil ?_
  | with_reducible refine g_tfld ?_ | with_reducible refine g_tmeth ?_ | with_reducible refine g_tmake ?_ | with_reducible refine g_sfld ?_ | with_reducible refine g_tprop ?_ | with_reducible refine g_tstar ?_ | with_reducible refine g_tmethK ?_ | with_reducible refine g_isN1 ?_ | with_reducible refine g_notN1 ?_ | with_reducible refine g_callK0 ?_ | with_reducible refine g_m1 ?_ | with_reducible refine g_isstr ?_ | with_reducible refine g_iStr ?_ | with_reducible refine g_exS ?_ | with_reducible refine g_iEnum ?_))
local macro_rules | `(tactic| walk_at "gx1") => `(tactic| (first
  | with_reducible refine g_seq ?_ | with_reducible refine g_asg ?_ | ((with_reducible show tVar _ _ _ _); refine g_var rfl ?_) | with_reducible refine g_c ?_ | with_reducible refine g_name ?_ | with_reducible refine g_op ?_ | with_reducible refine g_I0 ?_
  | with_reducible refine g_cons ?_ | with_reducible refine g_nil ?_ | with_reducible refine g_exbl ?_ | with_reducible refine g_exint ?_ | with_reducible refine g_test ?_ | with_reducible refine g_B ?_ | with_reducible refine g_ifS ?_ | with_reducible refine g_retN ?_ | with_reducible refine g_next ?_
  | with_reducible refine g_CB ?_ | with_reducible refine g_sub ?_ | with_reducible refine g_drop ?_ | with_reducible refine g_not ?_ | with_reducible refine g_and ?_ | with_reducible refine g_or ?_ | with_reducible refine g_andV ?_ | with_reducible refine g_orV ?_ | with_reducible refine g_notV ?_ | with_reducible refine g_ret ?_ | with_reducible refine g_isN ?_
  | with_reducible refine g_par ?_ | with_reducible refine g_expar ?_ | with_reducible refine g_chain ?_ | with_reducible refine g_un ?_ | with_reducible refine g_U ?_ | with_reducible refine g_bits ?_ | ((with_reducible show rEq _ _ _ _); refine g_eq rfl ?_) | ((with_reducible show rNe _ _ _ _); refine g_ne rfl ?_)
  | with_reducible refine g_for ?_ | with_reducible refine g_iRng1 ?_ | with_reducible refine g_iRng2 ?_ | with_reducible refine g_iList ?_ | with_reducible refine g_iTup ?_
  | ((with_reducible refine g_Imul ?hc ?_); (case hc => (first | (refine Or.inl ⟨?_, ?_⟩ <;> first | decide | omega) | (refine Or.inr ⟨?_, ?_⟩ <;> first | decide | omega))))
  | ((with_reducible refine g_Idiv ?hc ?_); (case hc => (first | (exact ⟨by decide, by decide⟩) | assumption)))
  | ((with_reducible refine g_Imod ?hc ?_); (case hc => (first | assumption | omega | decide)))
  | ((with_reducible refine g_exR1 ?hlo ?hhi ?_); (case hlo => omega); (case hhi => omega))
  | ((with_reducible refine g_exR2 ?hb ?_); (case hb => omega))
  | with_reducible refine g_lst ?_ | with_reducible refine g_tup ?_ | with_reducible refine g_call ?_ | with_reducible refine g_BM ?_ | with_reducible refine g_BM0 ?_
  | with_reducible refine g_intB ?_ | with_reducible refine g_lc ?_ | with_reducible refine g_yes ?_ | with_reducible refine g_iZip ?_ | with_reducible refine g_sl ?_ | with_reducible refine g_noP ?_ | with_reducible refine g_part ?_ | with_reducible refine g_gcons ?_ | with_reducible refine g_gnil ?_
  | with_reducible refine g_tfld ?_ | with_reducible refine g_tmeth ?_ | with_reducible refine g_tmake ?_ | with_reducible refine g_sfld ?_ | with_reducible refine g_tprop ?_ | with_reducible refine g_tstar ?_ | with_reducible refine g_tmethK ?_ | with_reducible refine g_isN1 ?_ | with_reducible refine g_notN1 ?_ | with_reducible refine g_callK0 ?_ | with_reducible refine g_m1 ?_ | with_reducible refine g_isstr ?_ | with_reducible refine g_iStr ?_ | with_reducible refine g_exS ?_ | with_reducible refine g_iEnum ?_))
local macro_rules | `(tactic| walk_at "hp") => `(tactic| (first | assumption | exact upd_same | (refine same_get (by assumption) ?_; walk_at "hp")))
local macro_rules | `(tactic| walk_at "sm") => `(tactic| (first | assumption | exact Same.refl _ | (refine Same.trans ?ha (by assumption); walk_at "sm")))
local macro_rules | `(tactic| walk_at "nn") => `(tactic| (first | assumption | (refine same_free (by assumption) ?_; walk_at "nn")))
local macro_rules | `(tactic| walk_at "sb") => `(tactic| (first | decide | (refine small_bits ?_ ?_ <;> omega)))
local macro_rules | `(tactic| walk_at "ln") => `(tactic| (simp only [List.length_cons, List.length_nil]; omega))
local macro_rules | `(tactic| walk_at "gg") => `(tactic| (repeat walk_at "g"))
local macro_rules | `(tactic| walk_at "gs") => `(tactic| (repeat walk_at "gs1"))
local macro_rules | `(tactic| walk_at "gx") => `(tactic| (repeat walk_at "gx1"))

section
variable {P : Program} {w : World} {K : PySem.W.Frag} {mg : Str → Option Value} {base : Heap} {X : Cx}
theorem hDig : (Str.ofString "0123456789").cps.toList = [48, 49, 50, 51, 52, 53, 54, 55, 56, 57] := by decide +kernel
theorem dig_mem (c : Nat) : decide (c ∈ (Str.ofString "0123456789").cps.toList) = isDig c := by
  rw [hDig]
  unfold isDig
  rw [Bool.eq_iff_iff]
  simp
  omega
def noDig : V → Bool
  | .str z => !(tl z).all isDig
  | _ => false
theorem noDigs : ∀ a : List Nat, ((a.map fun c => V.str (S [c])).filter noDig).map (fun x => x) = ((a.filter fun c => !isDig c).map fun c => S [c]).map V.str
  | [] => rfl
  | c :: r => by
    have ih := noDigs r
    have e : noDig (.str (S [c])) = !isDig c := by
      show (!([c].all isDig)) = !isDig c
      simp
    rw [List.map_cons, List.filter_cons, List.filter_cons, e]
    cases isDig c with
    | true => exact ih
    | false =>
      show V.str (S [c]) :: _ = V.str (S [c]) :: _
      rw [ih]
theorem noDigs_nil (a : List Nat) : decide (((a.filter fun c => !isDig c).map fun c => S [c]) = []) = a.all isDig := by
  rw [Bool.eq_iff_iff, decide_eq_true_eq, List.map_eq_nil_iff, List.filter_eq_nil_iff, List.all_eq_true]
  exact ⟨fun h x hx => by simpa using h x hx, fun h x hx => by rw [h x hx]; decide⟩
theorem low_digs {a : List Nat} (h : Low a) : Low (digs a) := by
  unfold digs
  split
  · exact fun c hc => h c (List.mem_of_mem_drop hc)
  · exact h
def spIsInt : Sp := fun vs H Q _ => ∃ a : List Nat, vs = [.str (S a)] ∧ a.length ≤ 5000 ∧ Low a ∧ ∀ H', Same H H' → Q (.bl (goodI a)) H'
abbrev s_integer : Stmt := top 17
abbrev N_integer : List Str := ["_law_word", "_law_digits", "_law_sign"]
theorem sc_integer : FnScope N_integer ["_law_word"] (defScope s_integer) := ⟨rfl, rfl, rfl, by decide +kernel, rfl, by decide +kernel, by decide +kernel⟩

theorem ok_isInt {f : Addr} {fd : FuncData} (D : Dn K mg "_law_integer" s_integer ["_law_word"] f fd) (T : Bt mg) : Cal P w K mg base 1 "_law_integer" spIsInt [] := by
  refine cal_of D (D.fn.ok sc_integer (fun vs H Q E h => ?_) (fun cdv A outer s H vs Q E hr h => ?_))
  · obtain ⟨n, rfl, _⟩ := h
    rfl
  · obtain ⟨a, rfl, la, lo, k⟩ := h
    refine ⟨_, (pss_cons (ps_set (i := 1) sc_integer.nd rfl (Or.inl rfl) (pe_ifExp (pt_val (pe_bm PySem.F.plainAttrs_str PySem.F.slot_str_startswith PySem.F.type_str_startswith mt_startswith (pv 0) (pa_cons pe_str pa_nil))) (pe_slice sl_str (pv 0) (po_some pe_int) po_none) (pv 0)))
    (pss_cons (ps_if (PW.pt (pw_or (pt_cmpR op_eq (pv 1) pe_str (nomark _)) (pw_or1 (pt_cmpR op_gt (pe_callB call_len_str (by rfl) T.n_len bt_len (pa_cons (pv 1) pa_nil)) pe_int (nomark _))))) (pss_one (ps_ret pe_bl)) pss_nil)
    (pss_cons (ps_if (pt_cmpR (op_neD hr.units) (pe_lc (own := [("_law_sign", 2)]) (g := gName 2) rfl sc_integer.nd (pi_str (pv 1)) (blkOk_by (own := [("_law_sign", 2)]) (N := N_integer) (sc := defScope s_integer) (by decide +kernel)) (fun _ _ _ _ _ => pg_name (i := 2) sc_integer.nd rfl (Or.inl rfl)) (fun _ _ _ _ _ => (pts_one (pt_cmpR op_notIn_sign (pv 2) pe_str (by rfl)))) (fun _ _ _ _ _ => (pv 2))) (pe_lst pa_nil) (nomark _)) (pss_one (ps_ret pe_bl)) pss_nil)
    (pss_one (ps_ret (pe_or (pe_cmpR op_eq (pv 0) pe_str (nomark _)) (pe_one (pe_cmpR op_ne (pe_ix ix_str (pv 1) pe_int (fun _ _ => rfl)) pe_str (nomark _))))))))), ?_⟩
    have ld := digs_len a
    have sz : a.length ≤ sizeLine := Nat.le_trans la (by decide)
    walk_at "gx"
    refine g_cutE (fun v H' => v = .str (S (digs a)) ∧ H = H') (fun Q' kq => ?_) ?_
    · walk_at "gg"
      refine ⟨rfl, ?_⟩
      walk_at "gg"
      refine ⟨_, _, rfl, rfl, ?_⟩
      rw [starts_minus]
      walk_at "gg"
      by_cases c : a.take 1 = [45]
      · refine g_ifT (decide_eq_true c) ?_
        walk_at "gg"
        refine ⟨_, rfl, by rw [S_len]; exact sz, ?_⟩
        rw [cut_from1]
        exact kq _ _ ⟨by unfold digs; rw [if_pos c], rfl⟩
      · refine g_ifF (decide_eq_false c) ?_
        walk_at "gg"
        exact kq _ _ ⟨by unfold digs; rw [if_neg c], rfl⟩
    · rintro _ _ ⟨rfl, rfl⟩
      walk_at "gg"
      by_cases z : digs a = []
      · refine g_ifT (decide_eq_true (by rw [z]; rfl)) ?_
        repeat refine g_ifT rfl ?_
        walk_at "gg"
        have e : goodI a = false := by
          unfold goodI
          rw [z]
          rfl
        rw [e] at k
        exact k H (Same.refl _)
      · have z1 : 1 ≤ (digs a).length := List.length_pos_iff.mpr z
        refine g_ifF (decide_eq_false fun y => z (S_inj (show S (digs a) = S [] from V.str.inj y))) ?_
        walk_at "gg"
        refine ⟨_, rfl, by rw [S_len]; omega, ?_⟩
        rw [S_len]
        walk_at "gg"
        by_cases c2 : (digs a).length ≤ 60
        · refine g_ifF (decide_eq_false (by omega)) ?_
          walk_at "gg"
          refine lc_filter (src_strL (a := digs a)) (fun _ _ _ h => h) (by rw [List.length_map]; omega) noDig (fun x => x) (fun i x H' Nx No hx S1 k1 k2 => ?_) fun D1 H1 n1 S1 e1 => ?_
          · rw [List.getElem?_map] at hx
            cases er : (digs a)[i]? with
            | none =>
              rw [er] at hx
              cases hx
            | some c =>
              rw [er] at hx
              obtain rfl := Option.some.inj hx
              have ed : noDig (.str (S [c])) = !isDig c := by
                show (!([c].all isDig)) = !isDig c
                simp
              walk_at "gg"
              refine ⟨rfl, ?_⟩
              walk_at "gg"
              refine ⟨c, _, rfl, rfl, ?_⟩
              rw [dig_mem]
              walk_at "gg"
              cases q : isDig c with
              | true =>
                rw [q] at ed
                refine g_ifF rfl ?_
                exact k2 _ (Same.refl _) ed
              | false =>
                rw [q] at ed
                refine g_ifT rfl ?_
                walk_at "gg"
                exact k1 _ (Same.refl _) ed
          · rw [noDigs] at e1
            walk_at "gg"
            refine g_mkL (by walk_at "ln") fun D2 H2 n2 S2 e2 => ?_
            refine g_neS (ms := []) (SqL.of (S2 _ _ e1)) (SqL.of e2) (fun x hx => ?_) nofun ?_
            · obtain ⟨c, hc, rfl⟩ := List.mem_map.mp hx
              refine ok_S fun d hd => ?_
              rw [List.mem_singleton.mp hd]
              exact low_digs lo c (List.mem_filter.mp hc).1
            rw [noDigs_nil]
            have S02 := S1.trans S2
            walk_at "gg"
            cases q : (digs a).all isDig with
            | false =>
              refine g_ifT rfl ?_
              walk_at "gg"
              have e : goodI a = false := by
                unfold goodI
                rw [q]
                simp
              rw [e] at k
              exact k H2 S02
            | true =>
              refine g_ifF rfl ?_
              walk_at "gg"
              have e : goodI a = !(decide ((digs a).head? = some 48) && !decide (a = [48])) := by
                unfold goodI
                rw [q, decide_eq_true z1, decide_eq_true c2]
                rfl
              have e0 : decide (V.str (S a) = V.str "0") = decide (a = [48]) := by
                by_cases z : a = [48]
                · rw [decide_eq_true z, z]
                  decide +kernel
                · rw [decide_eq_false z]
                  exact decide_eq_false fun y => z (S_inj (show S a = S [48] from V.str.inj y))
              by_cases c3 : a = [48]
              · rw [e0, decide_eq_true c3]
                refine g_ifT rfl ?_
                have e4 : goodI a = true := by rw [e, decide_eq_true c3]; simp
                rw [e4] at k
                exact k H2 S02
              · rw [e0, decide_eq_false c3]
                refine g_ifF rfl ?_
                walk_at "gg"
                cases q5 : digs a with
                | nil => exact absurd q5 z
                | cons x r =>
                  have ld2 : r.length + 1 ≤ a.length := by rw [q5] at ld; exact ld
                  refine ⟨_, _, x, rfl, rfl, by rw [S_len, List.length_cons]; exact Nat.le_trans (Nat.le_trans ld2 la) (by decide), atI_headN rfl, ?_⟩
                  walk_at "gg"
                  have e4 : goodI a = !decide (V.str (S [x]) = V.str "0") := by
                    rw [e, decide_eq_false c3, q5]
                    congr 1
                    by_cases c : x = 48
                    · subst c
                      rw [decide_eq_true (show V.str (S [48]) = V.str "0" by decide +kernel)]
                      simp
                    · have h1 : ¬ V.str (S [x]) = V.str "0" := fun z => c (List.cons.inj (S_inj (show S [x] = S [48] from V.str.inj z))).1
                      rw [decide_eq_false h1]
                      simp [c]
                  rw [e4] at k
                  exact k H2 S02
        · refine g_ifT (decide_eq_true (by omega)) ?_
          walk_at "gg"
          have e : goodI a = false := by
            unfold goodI
            rw [decide_eq_false c2]
            simp
          rw [e] at k
          exact k H (Same.refl _)
end
end Gk

namespace Gk
open PySem L2 Gx SX TL
open C8 (Cal Met Mak pe_c pe_mt pe_mt0 pe_mk pe_gc)
local macro_rules | `(tactic| walk_at "g") => `(tactic| (first
  | with_reducible refine g_seq ?_ | with_reducible refine g_asg ?_ | ((with_reducible show tVar _ _ _ _); refine g_var rfl ?_) | with_reducible refine g_c ?_ | with_reducible refine g_name ?_ | with_reducible refine g_op ?_ | with_reducible refine g_I0 ?_
  | with_reducible refine g_cons ?_ | with_reducible refine g_nil ?_ | with_reducible refine g_exbl ?_ | with_reducible refine g_exint ?_ | with_reducible refine g_test ?_ | with_reducible refine g_B ?_ | with_reducible refine g_ifS ?_ | with_reducible refine g_ret ?_ | with_reducible refine g_retN ?_ | with_reducible refine g_next ?_
  | with_reducible refine g_CB ?_ | with_reducible refine g_sub ?_ | with_reducible refine g_drop ?_ | with_reducible refine g_not ?_ | with_reducible refine g_and ?_ | with_reducible refine g_or ?_ | with_reducible refine g_andV ?_ | with_reducible refine g_orV ?_ | with_reducible refine g_notV ?_ | with_reducible refine g_ifE ?_ | with_reducible refine g_isN ?_
  | with_reducible refine g_par ?_ | with_reducible refine g_expar ?_ | with_reducible refine g_chain ?_ | with_reducible refine g_un ?_ | with_reducible refine g_U ?_ | with_reducible refine g_bits ?_ | ((with_reducible show rEq _ _ _ _); refine g_eq rfl ?_) | ((with_reducible show rNe _ _ _ _); refine g_ne rfl ?_)
  | with_reducible refine g_for ?_ | with_reducible refine g_iRng1 ?_ | with_reducible refine g_iRng2 ?_ | with_reducible refine g_iList ?_ | with_reducible refine g_iTup ?_
  | ((with_reducible refine g_Imul ?hc ?_); (case hc => (first | (refine Or.inl ⟨?_, ?_⟩ <;> first | decide | omega) | (refine Or.inr ⟨?_, ?_⟩ <;> first | decide | omega))))
  | ((with_reducible refine g_Idiv ?hc ?_); (case hc => (first | (exact ⟨by decide, by decide⟩) | assumption)))
  | ((with_reducible refine g_Imod ?hc ?_); (case hc => (first | assumption | omega | decide)))
  | ((with_reducible refine g_exR1 ?hlo ?hhi ?_); (case hlo => omega); (case hhi => omega))
  | ((with_reducible refine g_exR2 ?hb ?_); (case hb => omega))
  | with_reducible refine g_lst ?_ | with_reducible refine g_tup ?_ | with_reducible refine g_call ?_ | with_reducible refine g_BM ?_ | with_reducible refine g_BM0 ?_
  | with_reducible refine g_intB ?_ | with_reducible refine g_lc ?_ | with_reducible refine g_yes ?_ | with_reducible refine g_iZip ?_ | with_reducible refine g_sl ?_ | with_reducible refine g_noP ?_ | with_reducible refine g_part ?_ | with_reducible refine g_gcons ?_ | with_reducible refine g_gnil ?_
  | with_reducible refine g_tfld ?_ | with_reducible refine g_tmeth ?_ | with_reducible refine g_tmake ?_ | with_reducible refine g_sfld ?_ | with_reducible refine g_tprop ?_ | with_reducible refine g_tstar ?_ | with_reducible refine g_tmethK ?_ | with_reducible refine g_isN1 ?_ | with_reducible refine g_notN1 ?_ | with_reducible refine g_callK0 ?_ | with_reducible refine g_m1 ?_ | with_reducible refine g_isstr ?_ | with_reducible refine g_iStr ?_ | with_reducible refine g_exS ?_ | with_reducible refine g_iEnum ?_))
local macro_rules | `(tactic| walk_at "gs1") => `(tactic| (first
  | with_reducible refine g_seq ?_ | with_reducible refine g_asg ?_ | ((with_reducible show tVar _ _ _ _); refine g_var rfl ?_) | with_reducible refine g_c ?_ | with_reducible refine g_name ?_ | with_reducible refine g_op ?_ | with_reducible refine g_I0 ?_
  | with_reducible refine g_cons ?_ | with_reducible refine g_nil ?_ | with_reducible refine g_exbl ?_ | with_reducible refine g_exint ?_ | with_reducible refine g_test ?_ | with_reducible refine g_B ?_ | with_reducible refine g_ifS ?_ | with_reducible refine g_retN ?_ | with_reducible refine g_next ?_
  | with_reducible refine g_CB ?_ | with_reducible refine g_sub ?_ | with_reducible refine g_drop ?_ | with_reducible refine g_not ?_ | with_reducible refine g_and ?_ | with_reducible refine g_or ?_ | with_reducible refine g_andV ?_ | with_reducible refine g_orV ?_ | with_reducible refine g_notV ?_ | with_reducible refine g_ifE ?_ | with_reducible refine g_isN ?_
  | with_reducible refine g_par ?_ | with_reducible refine g_expar ?_ | with_reducible refine g_chain ?_ | with_reducible refine g_un ?_ | with_reducible refine g_U ?_ | with_reducible refine g_bits ?_ | ((with_reducible show rEq _ _ _ _); refine g_eq rfl ?_) | ((with_reducible show rNe _ _ _ _); refine g_ne rfl ?_)
  | with_reducible refine g_for ?_ | with_reducible refine g_iRng1 ?_ | with_reducible refine g_iRng2 ?_ | with_reducible refine g_iList ?_ | with_reducible refine g_iTup ?_
  | ((with_reducible refine g_Imul ?hc ?_); (case hc => (first | (refine Or.inl ⟨?_, ?_⟩ <;> first | decide | omega) | (refine Or.inr ⟨?_, ?_⟩ <;> first | decide | omega))))
  | ((with_reducible refine g_Idiv ?hc ?_); (case hc => (first | (exact ⟨by decide, by decide⟩) | assumption)))
  | ((with_reducible refine g_Imod ?hc ?_); (case hc => (first | assumption | omega | decide)))
  | ((with_reducible refine g_exR1 ?hlo ?hhi ?_); (case hlo => omega); (case hhi => omega))
  | ((with_reducible refine g_exR2 ?hb ?_); (case hb => omega))
  | with_reducible refine g_lst ?_ | with_reducible refine g_tup ?_ | with_reducible refine g_call ?_ | with_reducible refine g_BM ?_ | with_reducible refine g_BM0 ?_
  | with_reducible refine g_intB ?_ | with_reducible refine g_lc ?_ | with_reducible refine g_yes ?_ | with_reducible refine g_iZip ?_ | with_reducible refine g_sl ?_ | with_reducible refine g_noP ?_ | with_reducible refine g_part ?_ | with_reducible refine g_gcons ?_ | with_reducible refine g_gnil ?_
  | with_reducible refine g_tfld ?_ | with_reducible refine g_tmeth ?_ | with_reducible refine g_tmake ?_ | with_reducible refine g_sfld ?_ | with_reducible refine g_tprop ?_ | with_reducible refine g_tstar ?_ | with_reducible refine g_tmethK ?_ | with_reducible refine g_isN1 ?_ | with_reducible refine g_notN1 ?_ | with_reducible refine g_callK0 ?_ | with_reducible refine g_m1 ?_ | with_reducible refine g_isstr ?_ | with_reducible refine g_iStr ?_ | with_reducible refine g_exS ?_ | with_reducible refine g_iEnum ?_))
local macro_rules | `(tactic| walk_at "gx1") => `(tactic| (first
  | with_reducible refine g_seq ?_ | with_reducible refine g_asg ?_ | ((with_reducible show tVar _ _ _ _); refine g_var rfl ?_) | with_reducible refine g_c ?_ | with_reducible refine g_name ?_ | with_reducible refine g_op ?_ | with_reducible refine g_I0 ?_
  | with_reducible refine g_cons ?_ | with_reducible refine g_nil ?_ | with_reducible refine g_exbl ?_ | with_reducible refine g_exint ?_ | with_reducible refine g_test ?_ | with_reducible refine g_B ?_ | with_reducible refine g_ifS ?_ | with_reducible refine g_retN ?_ | with_reducible refine g_next ?_
  | with_reducible refine g_CB ?_ | with_reducible refine g_sub ?_ | with_reducible refine g_drop ?_ | with_reducible refine g_not ?_ | with_reducible refine g_and ?_ | with_reducible refine g_or ?_ | with_reducible refine g_andV ?_ | with_reducible refine g_orV ?_ | with_reducible refine g_notV ?_ | with_reducible refine g_ret ?_ | with_reducible refine g_isN ?_
  | with_reducible refine g_par ?_ | with_reducible refine g_expar ?_ | with_reducible refine g_chain ?_ | with_reducible refine g_un ?_ | with_reducible refine g_U ?_ | with_reducible refine g_bits ?_ | ((with_reducible show rEq _ _ _ _); refine g_eq rfl ?_) | ((with_reducible show rNe _ _ _ _); refine g_ne rfl ?_)
  | with_reducible refine g_for ?_ | with_reducible refine g_iRng1 ?_ | with_reducible refine g_iRng2 ?_ | with_reducible refine g_iList ?_ | with_reducible refine g_iTup ?_
  | ((with_reducible refine g_Imul ?hc ?_); (case hc => (first | (refine Or.inl ⟨?_, ?_⟩ <;> first | decide | omega) | (refine Or.inr ⟨?_, ?_⟩ <;> first | decide | omega))))
  | ((with_reducible refine g_Idiv ?hc ?_); (case hc => (first | (exact ⟨by decide, by decide⟩) | assumption)))
  | ((with_reducible refine g_Imod ?hc ?_); (case hc => (first | assumption | omega | decide)))
  | ((with_reducible refine g_exR1 ?hlo ?hhi ?_); (case hlo => omega); (case hhi => omega))
  | ((with_reducible refine g_exR2 ?hb ?_); (case hb => omega))
  | with_reducible refine g_lst ?_ | with_reducible refine g_tup ?_ | with_reducible refine g_call ?_ | with_reducible refine g_BM ?_ | with_reducible refine g_BM0 ?_
  | with_reducible refine g_intB ?_ | with_reducible refine g_lc ?_ | with_reducible refine g_yes ?_ | with_reducible refine g_iZip ?_ | with_reducible refine g_sl ?_ | with_reducible refine g_noP ?_ | with_reducible refine g_part ?_ | with_reducible refine g_gcons ?_ | with_reducible refine g_gnil ?_
  | with_reducible refine g_tfld ?_ | with_reducible refine g_tmeth ?_ | with_reducible refine g_tmake ?_ | with_reducible refine g_sfld ?_ | with_reducible refine g_tprop ?_ | with_reducible refine g_tstar ?_ | with_reducible refine g_tmethK ?_ | with_reducible refine g_isN1 ?_ | with_reducible refine g_notN1 ?_ | with_reducible refine g_callK0 ?_ | with_reducible refine g_m1 ?_ | with_reducible refine g_isstr ?_ | with_reducible refine g_iStr ?_ | with_reducible refine g_exS ?_ | with_reducible refine g_iEnum ?_))
local macro_rules | `(tactic| walk_at "hp") => `(tactic| (first | assumption | exact upd_same | (refine same_get (by assumption) ?_; walk_at "hp")))
local macro_rules | `(tactic| walk_at "sm") => `(tactic| (first | assumption | exact Same.refl _ | (refine Same.trans ?ha (by assumption); walk_at "sm")))
local macro_rules | `(tactic| walk_at "nn") => `(tactic| (first | assumption | (refine same_free (by assumption) ?_; walk_at "nn")))
local macro_rules | `(tactic| walk_at "sb") => `(tactic| (first | decide | (refine small_bits ?_ ?_ <;> omega)))
local macro_rules | `(tactic| walk_at "ln") => `(tactic| (simp only [List.length_cons, List.length_nil]; omega))
local macro_rules | `(tactic| walk_at "gg") => `(tactic| (repeat walk_at "g"))
local macro_rules | `(tactic| walk_at "gs") => `(tactic| (repeat walk_at "gs1"))
local macro_rules | `(tactic| walk_at "gx") => `(tactic| (repeat walk_at "gx1"))

section
variable {P : Program} {w : World} {K : PySem.W.Frag} {mg : Str → Option Value} {base : Heap} {X : Cx}
/-- es: the entries of t by ascending keys -/
structure Of (t es : Tab) : Prop where
  asc : AscT es
  perm : (keysT es).Perm (keysT t)
  val : ∀ p ∈ es, getT t p.1 = some p.2
theorem Of.keys {t es : Tab} (o : Of t es) {ys : List Int} (p : ys.Perm (keysT t)) (le : ys.Pairwise (· ≤ ·)) : ys = keysT es := by
  have a := keys_asc o.asc.asc
  have nd : (keysT t).Nodup := o.perm.nodup_iff.mp (List.Pairwise.imp (fun h => Int.ne_of_lt h) a)
  exact asc_one (asc_of p nd le) a (p.trans o.perm.symm)
theorem Of.len {t es : Tab} (o : Of t es) : es.length = t.length := by
  have := o.perm.length_eq
  unfold keysT at this
  rw [List.length_map, List.length_map] at this
  exact this
theorem ent_S (q : Int × Int) : Str.empty ++ numS q.1 ++ Str.ofString "=" ++ numS q.2 = S (entL q) := by
  refine ext_tl ?_
  have e1 : tl (Str.ofString "=") = [61] := by decide +kernel
  have e2 : tl Str.empty = [] := rfl
  rw [tl_append, tl_append, tl_append, tl_numS, tl_numS, e1, e2]
  show [] ++ numI q.1 ++ [61] ++ numI q.2 = numI q.1 ++ (61 :: numI q.2)
  simp
theorem ent_len {q : Int × Int} (h1 : In60 q.1) (h2 : In60 q.2) : (entL q).length ≤ 123 := by
  have a := numI_le (Nat.lt_of_lt_of_le h1 (by decide))
  have b := numI_le (Nat.lt_of_lt_of_le h2 (by decide))
  unfold entL
  rw [List.length_append, List.length_cons]
  omega
theorem ents_sum : ∀ {es : Tab}, (∀ p ∈ es, In60 p.1 ∧ In60 p.2) → (((es.map entL).map S).map (·.length)).sum ≤ 123 * es.length
  | [], _ => Nat.le_refl _
  | q :: es, h => by
    have ih := ents_sum fun p hp => h p (List.mem_cons_of_mem _ hp)
    obtain ⟨h1, h2⟩ := h q List.mem_cons_self
    have := ent_len h1 h2
    rw [List.map_cons, List.map_cons, List.map_cons, List.sum_cons, List.length_cons, S_len]
    omega
def spWriteE : Sp := fun vs H Q _ => ∃ (d : Addr) (t es : Tab), vs = [.ref d] ∧ H d = some (.dK (tabK t)) ∧ Of t es ∧ t.length ≤ 201 ∧ ∀ H', Same H H' → Q (.str (S (lineL es))) H'
abbrev s_write_entries : Stmt := top 11
abbrev N_write_entries : List Str := ["entries", "key"]
theorem sc_write_entries : FnScope N_write_entries ["entries"] (defScope s_write_entries) := ⟨rfl, rfl, rfl, by decide +kernel, rfl, by decide +kernel, by decide +kernel⟩

theorem ok_writeE {f : Addr} {fd : FuncData} (D : Dn K mg "write_entries" s_write_entries ["entries"] f fd) (T : Bt mg) (g_NONE : ∃ u, mg "NONE" = some u ∧ RelV (.str "-") u) : FnOk P w K mg base CX0 2 f fd ["entries"] spWriteE := by
  refine D.fn.ok sc_write_entries (fun vs H Q E h => ?_) (fun cdv A outer s H vs Q E hr h => ?_)
  · obtain ⟨t, r, _, rfl, _⟩ := h
    rfl
  · obtain ⟨d, t, es, rfl, hd, o, l201, k⟩ := h
    have hu := hu_of hr
    refine ⟨_, (pss_cons (ps_if (pt_cmpR (op_eqTab hr.units) (pv 0) pe_dnewK (nomark _)) (pss_one (ps_ret (pe_gc (by rfl) g_NONE))) pss_nil)
    (pss_one (ps_ret (pe_join pe_str (pe_lc (own := [("key", 1)]) (g := gName 1) (tt := tYes) rfl sc_write_entries.nd (pi_list (pe_callB (cr_sortTab rfl) (by rfl) T.n_sorted bt_sorted (pa_cons (pv 0) pa_nil))) (blkOk_by (own := [("key", 1)]) (N := N_write_entries) (sc := defScope s_write_entries) (by decide +kernel)) (fun _ _ _ _ _ => pg_name (i := 1) sc_write_entries.nd rfl (Or.inl rfl)) (fun _ _ _ _ _ => pts_nil) (fun _ _ _ _ _ => (pe_joinT (.cons (pe_fmt (pv 1)) (.cons pe_str (.cons (pe_fmt (pe_dget hu (pv 0) (pv 1) (fun _ _ => rfl))) .nil)))))))))), ?_⟩
    have ol := o.len
    walk_at "gg"
    refine fun p np => ?_
    have S1 : Same H (upd H p (.dK [])) := same_new np
    generalize hH1 : upd H p (.dK []) = H1 at S1 ⊢
    have e1 : H1 p = some (.dK (tabK [])) := by rw [← hH1]; exact upd_same
    have d1 := S1 _ _ hd
    refine ⟨d, p, t, [], rfl, rfl, .inl d1, .inl e1, ?_⟩
    walk_at "gg"
    by_cases te : t = []
    · subst te
      refine g_ifT rfl ?_
      walk_at "gg"
      have ee : es = [] := List.length_eq_zero_iff.mp ol
      rw [ee] at k
      exact k H1 S1
    · refine g_ifF ?_ ?_
      · cases t with
        | nil => exact absurd rfl te
        | cons q t => rfl
      walk_at "gg"
      refine ⟨d, t, rfl, .inl d1, fun ys l py ly nl => ?_⟩
      rw [o.keys py ly]
      have S2 : Same H1 (upd H1 l (.lst ((keysT es).map V.int))) := same_new nl
      generalize hH2 : upd H1 l (.lst ((keysT es).map V.int)) = H2 at S2 ⊢
      have e2 : H2 l = some (.lst ((keysT es).map V.int)) := by rw [← hH2]; exact upd_same
      have d2 := S2 _ _ d1
      walk_at "gg"
      refine g_exL (SqL.of e2) ?_
      have lk : ((keysT es).map V.int).length = es.length := by unfold keysT; rw [List.length_map, List.length_map]
      refine lc_map (src_list (SqL.of e2)) (by omega) (fun i y => ∀ q, es[i]? = some q → y = .str (S (entL q))) (fun i x H3 Nx hi S3 hx kx => ?_) fun l4 acc H4 n4 S4 e4 la pa => ?_
      · unfold keysT at hx
        rw [List.getElem?_map, List.getElem?_map] at hx
        cases eq : es[i]? with
        | none =>
          rw [eq] at hx
          cases hx
        | some q =>
          rw [eq] at hx
          obtain rfl := Option.some.inj hx
          have mq := List.mem_of_getElem? eq
          obtain ⟨q1, q2⟩ := o.asc.short q mq
          have l1 := numS_len (Nat.lt_of_lt_of_le q1 (by decide))
          have l2 := numS_len (Nat.lt_of_lt_of_le q2 (by decide))
          walk_at "gg"
          refine ⟨rfl, ?_⟩
          walk_at "gg"
          have le : (Str.ofString "=").length = 1 := rfl
          have l0 : Str.empty.length = 0 := rfl
          have app : ∀ x y : Str, (x ++ y).length = x.length + y.length := fun x y => by rw [len_tl, tl_append, List.length_append, ← len_tl, ← len_tl]
          refine g_join3 (g_fmt ?_)
          walk_at "gg"
          refine .inr ⟨q.1, rfl, log_60 q1, numS q.1, rfl, by rw [app, sizeLine_eq]; omega, ?_⟩
          walk_at "gg"
          refine ⟨by rw [app, app, sizeLine_eq]; omega, ?_⟩
          refine g_fmt (g_dget ?_)
          walk_at "gg"
          refine ⟨d, .int q.2, rfl, ?_, ?_⟩
          · have g := DGet.k (k := .inl q.1) (S3 _ _ d2)
            rw [tab_val, o.val q mq] at g
            exact g
          refine .inr ⟨q.2, rfl, log_60 q2, numS q.2, rfl, by rw [app, app, app, sizeLine_eq]; omega, ?_⟩
          refine kx _ _ (Same.refl _) fun q' hq' => ?_
          rw [eq] at hq'
          rw [← Option.some.inj hq', ent_S]
      · rw [lk] at la
        rw [map_ofA la pa] at e4
        walk_at "gg"
        have el : es.map (fun q => V.str (S (entL q))) = ((es.map entL).map S).map V.str := by rw [List.map_map, List.map_map]; rfl
        rw [el] at e4
        have sm := ents_sum o.asc.short
        refine ⟨_, l4, (es.map entL).map S, rfl, rfl, .inl (SqL.of e4), ?_, ?_⟩
        · have e : (Str.ofString " ").length = 1 := rfl
          rw [e, List.length_map, List.length_map]
          omega
        · rw [join_S]
          have ne : es ≠ [] := fun z => te (List.length_eq_zero_iff.mp (by rw [← ol, z]; rfl))
          have e : lineL es = joinL [32] (es.map entL) := by
            unfold lineL
            rw [if_neg ne]
            rfl
          rw [e] at k
          exact k H4 ((S1.trans S2).trans S4)
end
end Gk

namespace Gk
open PySem L2 Gx SX TL
open C8 (Cal Met Mak pe_c pe_mt pe_mt0 pe_mk pe_gc)
local macro_rules | `(tactic| walk_at "g") => `(tactic| (first
  | with_reducible refine g_seq ?_ | with_reducible refine g_asg ?_ | ((with_reducible show tVar _ _ _ _); refine g_var rfl ?_) | with_reducible refine g_c ?_ | with_reducible refine g_name ?_ | with_reducible refine g_op ?_ | with_reducible refine g_I0 ?_
  | with_reducible refine g_cons ?_ | with_reducible refine g_nil ?_ | with_reducible refine g_exbl ?_ | with_reducible refine g_exint ?_ | with_reducible refine g_test ?_ | with_reducible refine g_B ?_ | with_reducible refine g_ifS ?_ | with_reducible refine g_ret ?_ | with_reducible refine g_retN ?_ | with_reducible refine g_next ?_
  | with_reducible refine g_CB ?_ | with_reducible refine g_sub ?_ | with_reducible refine g_drop ?_ | with_reducible refine g_not ?_ | with_reducible refine g_and ?_ | with_reducible refine g_or ?_ | with_reducible refine g_andV ?_ | with_reducible refine g_orV ?_ | with_reducible refine g_notV ?_ | with_reducible refine g_ifE ?_ | with_reducible refine g_isN ?_
  | with_reducible refine g_par ?_ | with_reducible refine g_expar ?_ | with_reducible refine g_chain ?_ | with_reducible refine g_un ?_ | with_reducible refine g_U ?_ | with_reducible refine g_bits ?_ | ((with_reducible show rEq _ _ _ _); refine g_eq rfl ?_) | ((with_reducible show rNe _ _ _ _); refine g_ne rfl ?_)
  | with_reducible refine g_for ?_ | with_reducible refine g_iRng1 ?_ | with_reducible refine g_iRng2 ?_ | with_reducible refine g_iList ?_ | with_reducible refine g_iTup ?_
  | ((with_reducible refine g_Imul ?hc ?_); (case hc => (first | (refine Or.inl ⟨?_, ?_⟩ <;> first | decide | omega) | (refine Or.inr ⟨?_, ?_⟩ <;> first | decide | omega))))
  | ((with_reducible refine g_Idiv ?hc ?_); (case hc => (first | (exact ⟨by decide, by decide⟩) | assumption)))
  | ((with_reducible refine g_Imod ?hc ?_); (case hc => (first | assumption | omega | decide)))
  | ((with_reducible refine g_exR1 ?hlo ?hhi ?_); (case hlo => omega); (case hhi => omega))
  | ((with_reducible refine g_exR2 ?hb ?_); (case hb => omega))
  | with_reducible refine g_lst ?_ | with_reducible refine g_tup ?_ | with_reducible refine g_call ?_ | with_reducible refine g_BM ?_ | with_reducible refine g_BM0 ?_
  | with_reducible refine g_intB ?_ | with_reducible refine g_lc ?_ | with_reducible refine g_yes ?_ | with_reducible refine g_iZip ?_ | with_reducible refine g_sl ?_ | with_reducible refine g_noP ?_ | with_reducible refine g_part ?_ | with_reducible refine g_gcons ?_ | with_reducible refine g_gnil ?_
  | with_reducible refine g_tfld ?_ | with_reducible refine g_tmeth ?_ | with_reducible refine g_tmake ?_ | with_reducible refine g_sfld ?_ | with_reducible refine g_tprop ?_ | with_reducible refine g_tstar ?_ | with_reducible refine g_tmethK ?_ | with_reducible refine g_isN1 ?_ | with_reducible refine g_notN1 ?_ | with_reducible refine g_callK0 ?_ | with_reducible refine g_m1 ?_ | with_reducible refine g_isstr ?_ | with_reducible refine g_iStr ?_ | with_reducible refine g_exS ?_ | with_reducible refine g_iEnum ?_))
local macro_rules | `(tactic| walk_at "gs1") => `(tactic| (first
  | with_reducible refine g_seq ?_ | with_reducible refine g_asg ?_ | ((with_reducible show tVar _ _ _ _); refine g_var rfl ?_) | with_reducible refine g_c ?_ | with_reducible refine g_name ?_ | with_reducible refine g_op ?_ | with_reducible refine g_I0 ?_
  | with_reducible refine g_cons ?_ | with_reducible refine g_nil ?_ | with_reducible refine g_exbl ?_ | with_reducible refine g_exint ?_ | with_reducible refine g_test ?_ | with_reducible refine g_B ?_ | with_reducible refine g_ifS ?_ | with_reducible refine g_retN ?_ | with_reducible refine g_next ?_
  | with_reducible refine g_CB ?_ | with_reducible refine g_sub ?_ | with_reducible refine g_drop ?_ | with_reducible refine g_not ?_ | with_reducible refine g_and ?_ | with_reducible refine g_or ?_ | with_reducible refine g_andV ?_ | with_reducible refine g_orV ?_ | with_reducible refine g_notV ?_ | with_reducible refine g_ifE ?_ | with_reducible refine g_isN ?_
  | with_reducible refine g_par ?_ | with_reducible refine g_expar ?_ | with_reducible refine g_chain ?_ | with_reducible refine g_un ?_ | with_reducible refine g_U ?_ | with_reducible refine g_bits ?_ | ((with_reducible show rEq _ _ _ _); refine g_eq rfl ?_) | ((with_reducible show rNe _ _ _ _); refine g_ne rfl ?_)
  | with_reducible refine g_for ?_ | with_reducible refine g_iRng1 ?_ | with_reducible refine g_iRng2 ?_ | with_reducible refine g_iList ?_ | with_reducible refine g_iTup ?_
  | ((with_reducible refine g_Imul ?hc ?_); (case hc => (first | (refine Or.inl ⟨?_, ?_⟩ <;> first | decide | omega) | (refine Or.inr ⟨?_, ?_⟩ <;> first | decide | omega))))
  | ((with_reducible refine g_Idiv ?hc ?_); (case hc => (first | (exact ⟨by decide, by decide⟩) | assumption)))
  | ((with_reducible refine g_Imod ?hc ?_); (case hc => (first | assumption | omega | decide)))
  | ((with_reducible refine g_exR1 ?hlo ?hhi ?_); (case hlo => omega); (case hhi => omega))
  | ((with_reducible refine g_exR2 ?hb ?_); (case hb => omega))
  | with_reducible refine g_lst ?_ | with_reducible refine g_tup ?_ | with_reducible refine g_call ?_ | with_reducible refine g_BM ?_ | with_reducible refine g_BM0 ?_
  | with_reducible refine g_intB ?_ | with_reducible refine g_lc ?_ | with_reducible refine g_yes ?_ | with_reducible refine g_iZip ?_ | with_reducible refine g_sl ?_ | with_reducible refine g_noP ?_ | with_reducible refine g_part ?_ | with_reducible refine g_gcons ?_ | with_reducible refine g_gnil ?_
  | with_reducible refine g_tfld ?_ | with_reducible refine g_tmeth ?_ | with_reducible refine g_tmake ?_ | with_reducible refine g_sfld ?_ | with_reducible refine g_tprop ?_ | with_reducible refine g_tstar ?_ | with_reducible refine g_tmethK ?_ | with_reducible refine g_isN1 ?_ | with_reducible refine g_notN1 ?_ | with_reducible refine g_callK0 ?_ | with_reducible refine g_m1 ?_ | with_reducible refine g_isstr ?_ | with_reducible refine g_iStr ?_ | with_reducible refine g_exS ?_ | with_reducible refine g_iEnum ?_))
local macro_rules | `(tactic| walk_at "gx1") => `(tactic| (first
  | with_reducible refine g_seq ?_ | with_reducible refine g_asg ?_ | ((with_reducible show tVar _ _ _ _); refine g_var rfl ?_) | with_reducible refine g_c ?_ | with_reducible refine g_name ?_ | with_reducible refine g_op ?_ | with_reducible refine g_I0 ?_
  | with_reducible refine g_cons ?_ | with_reducible refine g_nil ?_ | with_reducible refine g_exbl ?_ | with_reducible refine g_exint ?_ | with_reducible refine g_test ?_ | with_reducible refine g_B ?_ | with_reducible refine g_ifS ?_ | with_reducible refine g_retN ?_ | with_reducible refine g_next ?_
  | with_reducible refine g_CB ?_ | with_reducible refine g_sub ?_ | with_reducible refine g_drop ?_ | with_reducible refine g_not ?_ | with_reducible refine g_and ?_ | with_reducible refine g_or ?_ | with_reducible refine g_andV ?_ | with_reducible refine g_orV ?_ | with_reducible refine g_notV ?_ | with_reducible refine g_ret ?_ | with_reducible refine g_isN ?_
  | with_reducible refine g_par ?_ | with_reducible refine g_expar ?_ | with_reducible refine g_chain ?_ | with_reducible refine g_un ?_ | with_reducible refine g_U ?_ | with_reducible refine g_bits ?_ | ((with_reducible show rEq _ _ _ _); refine g_eq rfl ?_) | ((with_reducible show rNe _ _ _ _); refine g_ne rfl ?_)
  | with_reducible refine g_for ?_ | with_reducible refine g_iRng1 ?_ | with_reducible refine g_iRng2 ?_ | with_reducible refine g_iList ?_ | with_reducible refine g_iTup ?_
  | ((with_reducible refine g_Imul ?hc ?_); (case hc => (first | (refine Or.inl ⟨?_, ?_⟩ <;> first | decide | omega) | (refine Or.inr ⟨?_, ?_⟩ <;> first | decide | omega))))
  | ((with_reducible refine g_Idiv ?hc ?_); (case hc => (first | (exact ⟨by decide, by decide⟩) | assumption)))
  | ((with_reducible refine g_Imod ?hc ?_); (case hc => (first | assumption | omega | decide)))
  | ((with_reducible refine g_exR1 ?hlo ?hhi ?_); (case hlo => omega); (case hhi => omega))
  | ((with_reducible refine g_exR2 ?hb ?_); (case hb => omega))
  | with_reducible refine g_lst ?_ | with_reducible refine g_tup ?_ | with_reducible refine g_call ?_ | with_reducible refine g_BM ?_ | with_reducible refine g_BM0 ?_
  | with_reducible refine g_intB ?_ | with_reducible refine g_lc ?_ | with_reducible refine g_yes ?_ | with_reducible refine g_iZip ?_ | with_reducible refine g_sl ?_ | with_reducible refine g_noP ?_ | with_reducible refine g_part ?_ | with_reducible refine g_gcons ?_ | with_reducible refine g_gnil ?_
  | with_reducible refine g_tfld ?_ | with_reducible refine g_tmeth ?_ | with_reducible refine g_tmake ?_ | with_reducible refine g_sfld ?_ | with_reducible refine g_tprop ?_ | with_reducible refine g_tstar ?_ | with_reducible refine g_tmethK ?_ | with_reducible refine g_isN1 ?_ | with_reducible refine g_notN1 ?_ | with_reducible refine g_callK0 ?_ | with_reducible refine g_m1 ?_ | with_reducible refine g_isstr ?_ | with_reducible refine g_iStr ?_ | with_reducible refine g_exS ?_ | with_reducible refine g_iEnum ?_))
local macro_rules | `(tactic| walk_at "hp") => `(tactic| (first | assumption | exact upd_same | (refine same_get (by assumption) ?_; walk_at "hp")))
local macro_rules | `(tactic| walk_at "sm") => `(tactic| (first | assumption | exact Same.refl _ | (refine Same.trans ?ha (by assumption); walk_at "sm")))
local macro_rules | `(tactic| walk_at "nn") => `(tactic| (first | assumption | (refine same_free (by assumption) ?_; walk_at "nn")))
local macro_rules | `(tactic| walk_at "sb") => `(tactic| (first | decide | (refine small_bits ?_ ?_ <;> omega)))
local macro_rules | `(tactic| walk_at "ln") => `(tactic| (simp only [List.length_cons, List.length_nil]; omega))
local macro_rules | `(tactic| walk_at "gg") => `(tactic| (repeat walk_at "g"))
local macro_rules | `(tactic| walk_at "gs") => `(tactic| (repeat walk_at "gs1"))
local macro_rules | `(tactic| walk_at "gx") => `(tactic| (repeat walk_at "gx1"))

section
variable {P : Program} {w : World} {K : PySem.W.Frag} {mg : Str → Option Value} {base : Heap} {X : Cx} {C : Addr}
theorem entI_none {p : List Nat} (h : ((spl [61] 0 [] p).any fun a => (readI a).isNone) = true) : entI p = none := by
  unfold entI
  split
  · rename_i a b e
    rw [e, List.any_cons, List.any_cons, List.any_nil, Bool.or_false, Bool.or_eq_true] at h
    cases ea : readI a with
    | none => rfl
    | some k =>
      cases eb : readI b with
      | none => rfl
      | some v =>
        rw [ea, eb] at h
        rcases h with h | h <;> cases h
  · rfl
theorem entI_len {p : List Nat} (h : (spl [61] 0 [] p).length ≠ 2) : entI p = none := by
  unfold entI
  split
  · rename_i a b e
    rw [e] at h
    exact absurd rfl h
  · rfl
theorem entI_two {p : List Nat} {k v : Int} (h : (spl [61] 0 [] p).map readI = [k, v].map some) : entI p = some (k, v) := by
  unfold entI
  cases e : spl [61] 0 [] p with
  | nil => rw [e] at h; cases h
  | cons a r =>
    rw [e] at h
    cases r with
    | nil => exact absurd (congrArg List.length h) (by simp)
    | cons b r =>
      cases r with
      | cons _ _ => exact absurd (congrArg List.length h) (by simp)
      | nil =>
        obtain ⟨h1, h2⟩ := List.cons.inj h
        obtain ⟨h3, _⟩ := List.cons.inj h2
        simp only [h1, h3]
theorem put_new {t : Tab} {k v : Int} (h : ∀ p ∈ t, p.1 < k) : putT t k v = t ++ [(k, v)] := by
  unfold putT
  rw [if_neg]
  intro z
  obtain ⟨p, hp, e⟩ := List.any_eq_true.mp z
  have := h p hp
  have := of_decide_eq_true e
  omega
def spReadE (C : Addr) : Sp := fun vs H Q E => ∃ a : List Nat, vs = [.str (S a)] ∧ a.length ≤ 30000 ∧ Low a ∧ (∀ p ∈ spl [32] 0 [] a, p.length ≤ 5000) ∧ (spl [32] 0 [] a).length ≤ 5000 ∧
  (∀ i, readE a = .error i → ∀ (d : Addr) (H' : Hp), Same H H' → H d = none → H' d = some (.xd [("place", .int (i : Nat))]) → E (.ref C) (some d) H') ∧
  (∀ t, readE a = .ok t → ∀ (d : Addr) (H' : Hp), H d = none → Same H H' → H' d = some (.dK (tabK t)) → Q (.ref d) H')
abbrev s_read_entries : Stmt := top 12
abbrev N_read_entries : List Str := ["text", "words", "found", "last", "place", "word", "parts"]
theorem sc_read_entries : FnScope N_read_entries ["text"] (defScope s_read_entries) := ⟨rfl, rfl, rfl, by decide +kernel, rfl, by decide +kernel, by decide +kernel⟩

theorem ok_readE {f : Addr} {fd : FuncData} (D : Dn K mg "read_entries" s_read_entries ["text"] f fd) (T : Bt mg) (g_NONE : ∃ u, mg "NONE" = some u ∧ RelV (.str "-") u) (g_MOST_ENTRIES : ∃ u, mg "MOST_ENTRIES" = some u ∧ RelV (.int 200) u)
    (c_integers_in : Cal P w K mg base 2 "integers_in" (spIntsAny K) []) (b_InvalidText : BadC P w K mg base 1 "InvalidText" C) : FnOk P w K mg base (L2.CX P w) 3 f fd ["text"] (spReadE C) := by
  refine D.fn.okX sc_read_entries (fun vs H Q E h => ?_) (fun cdv A outer s H vs Q E hr h => ?_)
  · obtain ⟨r, rfl, _⟩ := h
    rfl
  · obtain ⟨a, rfl, la, lo, lw, ln, kE, kQ⟩ := h
    have hu := hu_of hr
    refine ⟨_, (pss_cons (ps_set (i := 1) sc_read_entries.nd rfl (Or.inl rfl) (pe_split (pv 0) pe_str))
    (pss_cons (ps_if (pt_cmpR op_eq (pe_ix ix_list (pv 1) pe_int (fun _ _ => rfl)) (pe_gc (by rfl) g_NONE) (nomark _)) (pss_cons (ps_if (pt_cmpR op_gt (pe_callB cr_lenQ (by rfl) T.n_len bt_len (pa_cons (pv 1) pa_nil)) pe_int (nomark _)) (pss_one (ps_bad b_InvalidText hr (by decide) rfl (takes_of rfl rfl rfl rfl) (by rfl) (pa_cons pe_int pa_nil))) pss_nil)
    (pss_one (ps_ret pe_dnewK))) pss_nil)
    (pss_cons (ps_par (i := 2) (j := 3) (by rfl) sc_read_entries.nd rfl rfl (by decide) rfl rfl (pa_cons pe_dnewK (pa_cons pe_non pa_nil)) (by rfl))
    (pss_cons (ps_for (passes_of rfl) rfl (pi_enum (by rfl) T.n_enumerate (pa_cons (pv 1) pa_nil)) (pg_tup (by rfl) (pgs_cons (pg_name (i := 4) sc_read_entries.nd rfl (Or.inl rfl)) (pgs_cons (pg_name (i := 5) sc_read_entries.nd rfl (Or.inl rfl)) pgs_nil))) (pss_cons (ps_set (i := 6) sc_read_entries.nd rfl (Or.inl rfl) (pe_c c_integers_in hr (by decide) (by rfl) (pa_cons (pe_split (pv 5) pe_str) pa_nil)))
    (pss_cons (ps_if (PW.pt (pw_or (pt_cmpR op_isN1 (pv 6) pe_non (nomark _)) (pw_or (pt_cmpR op_ne (pe_callB cr_lenQ (by rfl) T.n_len bt_len (pa_cons (pv 6) pa_nil)) pe_int (nomark _)) (pw_or (pt_cmpR op_eq (pv 4) (pe_gc (by rfl) g_MOST_ENTRIES) (nomark _)) (pw_or1 (PW.pt (pw_and (pt_cmpR op_notN1 (pv 3) pe_non (nomark _)) (pw_and1 (pt_cmpR op_le (pe_ix ix_list (pv 6) pe_int (fun _ _ => rfl)) (pv 3) (nomark _)))))))))) (pss_one (ps_bad b_InvalidText hr (by decide) rfl (takes_of rfl rfl rfl rfl) (by rfl) (pa_cons (pv 4) pa_nil))) pss_nil)
    (pss_cons (ps_set (i := 3) sc_read_entries.nd rfl (Or.inl rfl) (pe_ix ix_list (pv 6) pe_int (fun _ _ => rfl)))
    (pss_one (ps_dput hu (pv 2) (pv 3) (pe_ix ix_list (pv 6) pe_int (fun _ _ => rfl)) (by rfl)))))))
    (pss_one (ps_ret (pv 2))))))), ?_⟩
    have los := low_spl (sep := [32]) lo
    have sne := (spl_lens [32] a 0 []).2.2
    have es : Txt.split (S a) (Str.ofString " ") = (spl [32] 0 [] a).map S := split_S (a := a) (b := [32]) (by simp) (by decide)
    unfold readE at kE kQ
    cases q : spl [32] 0 [] a with
    | nil => exact absurd q sne
    | cons x ws =>
      rw [q] at los es kE kQ lw ln
      simp only at kE kQ
      walk_at "gg"
      refine g_split rfl (by rw [S_len]; exact Nat.le_trans (Nat.add_le_add_right la 2) (by decide)) fun p1 H1 n1 S1 e1 => ?_
      rw [es] at e1
      walk_at "gg"
      refine g_ixL (v := .str (S x)) (SqL.of e1) (atI_head rfl) ?_
      walk_at "gg"
      have e0 : decide (V.str (S x) = V.str "-") = decide (x = [45]) := by
        by_cases z : x = [45]
        · rw [decide_eq_true z, z]
          decide +kernel
        · rw [decide_eq_false z]
          exact decide_eq_false fun y => z (S_inj (show S x = S [45] from V.str.inj y))
      rw [e0]
      by_cases x45 : x = [45]
      · rw [if_pos x45] at kE kQ
        refine g_ifT (decide_eq_true x45) ?_
        walk_at "gg"
        refine g_len (SqL.of e1) ?_
        rw [List.length_map, List.length_map, List.length_cons]
        walk_at "gg"
        by_cases w0 : ws = []
        · rw [if_pos w0] at kQ
          refine g_ifF (by rw [w0]; rfl) ?_
          walk_at "gg"
          refine fun p np => ?_
          exact kQ [] rfl p _ (same_free S1 np) (S1.trans (same_new np)) upd_same
        · rw [if_neg w0] at kE
          have := List.length_pos_iff.mpr w0
          refine g_ifT (decide_eq_true (by omega)) ?_
          walk_at "gg"
          refine g_bad ?_
          walk_at "gg"
          refine bad_end fun d H6 S6 nd ed => ?_
          exact kE 1 rfl d H6 (S1.trans S6) (same_free S1 nd) ed
      · rw [if_neg x45] at kE kQ
        refine g_ifF (decide_eq_false x45) ?_
        generalize x :: ws = ps at e1 los kE kQ lw ln
        walk_at "gg"
        refine fun d nd => ?_
        have S2 : Same H1 (upd H1 d (.dK [])) := same_new nd
        generalize hH2 : upd H1 d (.dK []) = H2 at S2 ⊢
        have e2 : H2 d = some (.dK (tabK [])) := by rw [← hH2]; exact upd_same
        walk_at "gg"
        have S02 := S1.trans S2
        have e12 := S2 _ _ e1
        refine g_exEn (SqL.of e12) ?_
        refine fw_enum (xs := (ps.map S).map V.str) (fun i σ H' => ∃ (t : Tab) (l : Option Int) (v4 v5 v6 : Option V), σ = [some (.str (S a)), some (.ref p1), some (.ref d), some (oV l), v4, v5, v6] ∧ Same H H' ∧ H' d = some (.dK (tabK t)) ∧ H' p1 = some (.lst ((ps.map S).map V.str)) ∧ i ≤ 200 ∧ t.length = i ∧
            walkE 0 none [] ps = walkE i l t (ps.drop i) ∧ ∀ p ∈ t, ∃ m, l = some m ∧ p.1 ≤ m)
          ⟨[], none, none, none, none, rfl, S02, e2, e12, Nat.zero_le _, rfl, rfl, nofun⟩ (fun i σ H' _ ⟨_, _, _, _, _, _, _, _, e, _⟩ => SqL.of e) ?_ ?_
        · rintro i y t σ H3 H4 hx ⟨tt, l, v4, v5, v6, rfl, S3, e3, q3, i200, lt_, wk, tl_⟩ S4 e4
          rw [List.getElem?_map, List.getElem?_map] at hx
          cases er : ps[i]? with
          | none =>
            rw [er] at hx
            cases hx
          | some p =>
            rw [er] at hx
            obtain rfl := Option.some.inj hx
            obtain ⟨il, ep⟩ := List.getElem?_eq_some_iff.mp er
            have dr : ps.drop i = p :: ps.drop (i + 1) := by rw [← ep]; exact List.drop_eq_getElem_cons il
            rw [dr] at wk
            have mp := List.mem_of_getElem? er
            have lp := lw p mp
            refine g_gtup (SqT.of e4) rfl ?_
            walk_at "gg"
            have es2 : Txt.split (S p) (Str.ofString "=") = (spl [61] 0 [] p).map S := split_S (a := p) (b := [61]) (by simp) (by decide)
            obtain ⟨sl2, sn2, _⟩ := spl_lens [61] p 0 []
            refine g_split rfl (by rw [S_len]; exact Nat.le_trans (Nat.add_le_add_right lp 2) (by decide)) fun p5 H5 n5 S5 e5 => ?_
            rw [es2] at e5
            have e5' : H5 p5 = some (.lst ((spl [61] 0 [] p).map fun a => V.str (S a))) := by rw [e5, List.map_map]; rfl
            walk_at "gg"
            have S35 := S4.trans S5
            refine ⟨p5, spl [61] 0 [] p, rfl, SqL.of e5', fun y hy => ?_, by omega, fun hn H6 S6 => ?_, fun ns eni l6 H6 n6 S6 e6 => ?_⟩
            · have := sl2 y hy
              rw [List.length_nil] at this
              omega
            · rw [walkE_none (entI_none hn)] at wk
              have S06 := S3.trans (S35.trans S6)
              walk_at "gg"
              repeat refine g_ifT rfl ?_
              walk_at "gg"
              refine g_bad ?_
              walk_at "gg"
              refine bad_end fun d' H9 S9 nd9 ed9 => ?_
              exact kE i wk d' H9 (S06.trans S9) (same_free S06 nd9) ed9
            · have S06 := S3.trans (S35.trans S6)
              have S36 := S35.trans S6
              walk_at "gg"
              refine g_ifF rfl ?_
              walk_at "gg"
              refine g_len (SqL.of e6) ?_
              rw [List.length_map]
              walk_at "gg"
              have lns : ns.length = (spl [61] 0 [] p).length := by
                have := congrArg List.length eni
                rw [List.length_map, List.length_map] at this
                exact this.symm
              by_cases two : ns.length = 2
              · refine g_ifF (by rw [two]; rfl) ?_
                obtain ⟨kk, vv, rfl⟩ : ∃ i j, ns = [i, j] := by
                  match ns, two with
                  | [i, j], _ => exact ⟨i, j, rfl⟩
                have ei := entI_two eni
                rw [walkE_some ei] at wk
                walk_at "gg"
                by_cases i2 : i = 200
                · rw [if_pos (.inl i2)] at wk
                  refine g_ifT (decide_eq_true (by rw [i2]; rfl)) ?_
                  refine g_ifT rfl ?_
                  walk_at "gg"
                  refine g_bad ?_
                  walk_at "gg"
                  refine bad_end fun d' H9 S9 nd9 ed9 => ?_
                  exact kE i wk d' H9 (S06.trans S9) (same_free S06 nd9) ed9
                · refine g_ifF (decide_eq_false fun z => i2 ?_) ?_
                  · have := V.int.inj z
                    omega
                  walk_at "gg"
                  cases l with
                  | none =>
                    rw [if_neg (by rintro (z | z); exact i2 z; cases z)] at wk
                    have lt : ∀ p ∈ tt, p.1 < kk := fun q hq => by
                      obtain ⟨m, hm, _⟩ := tl_ q hq
                      cases hm
                    refine g_ifF rfl ?_
                    refine g_ifF rfl ?_
                    walk_at "gg"
                    refine g_ixL (v := .int kk) (SqL.of e6) (atI_head rfl) ?_
                    walk_at "gg"
                    with_reducible refine g_dput ?_
                    walk_at "gg"
                    refine g_ixL (v := .int vv) (SqL.of e6) rfl ?_
                    walk_at "gg"
                    have e36 := S36 _ _ e3
                    refine ⟨d, _, rfl, DPut.k (k := .inl kk) e36 (by rw [tab_len, sizeLine_eq]; omega), ?_⟩
                    rw [tab_put, put_new lt]
                    refine ⟨tt ++ [(kk, vv)], some kk, _, _, _, rfl, same_mut S06 (same_free S1 nd), upd_same, ?_, by omega, by rw [List.length_append, lt_]; rfl, wk, fun q hq => ⟨kk, rfl, ?_⟩⟩
                    · rw [upd_ne fun z => by rw [z, e2] at e12; cases e12]
                      exact S36 _ _ q3
                    · rcases List.mem_append.mp hq with z | z
                      · exact Int.le_of_lt (lt q z)
                      · rw [List.mem_singleton.mp z]
                        exact Int.le_refl _
                  | some m =>
                    refine g_ifT rfl ?_
                    walk_at "gg"
                    refine g_ixL (v := .int kk) (SqL.of e6) (atI_head rfl) ?_
                    walk_at "gg"
                    by_cases le : kk ≤ m
                    · rw [if_pos (.inr (decide_eq_true le))] at wk
                      refine g_ifT (decide_eq_true le) ?_
                      walk_at "gg"
                      refine g_bad ?_
                      walk_at "gg"
                      refine bad_end fun d' H9 S9 nd9 ed9 => ?_
                      exact kE i wk d' H9 (S06.trans S9) (same_free S06 nd9) ed9
                    · rw [if_neg (by rintro (z | z); exact i2 z; exact le (of_decide_eq_true z))] at wk
                      have lt : ∀ p ∈ tt, p.1 < kk := fun q hq => by
                        obtain ⟨m2, hm, hle⟩ := tl_ q hq
                        obtain rfl := Option.some.inj hm
                        omega
                      refine g_ifF (decide_eq_false le) ?_
                      walk_at "gg"
                      refine g_ixL (v := .int kk) (SqL.of e6) (atI_head rfl) ?_
                      walk_at "gg"
                      with_reducible refine g_dput ?_
                      walk_at "gg"
                      refine g_ixL (v := .int vv) (SqL.of e6) rfl ?_
                      walk_at "gg"
                      have e36 := S36 _ _ e3
                      refine ⟨d, _, rfl, DPut.k (k := .inl kk) e36 (by rw [tab_len, sizeLine_eq]; omega), ?_⟩
                      rw [tab_put, put_new lt]
                      refine ⟨tt ++ [(kk, vv)], some kk, _, _, _, rfl, same_mut S06 (same_free S1 nd), upd_same, ?_, by omega, by rw [List.length_append, lt_]; rfl, wk, fun q hq => ⟨kk, rfl, ?_⟩⟩
                      · rw [upd_ne fun z => by rw [z, e2] at e12; cases e12]
                        exact S36 _ _ q3
                      · rcases List.mem_append.mp hq with z | z
                        · exact Int.le_of_lt (lt q z)
                        · rw [List.mem_singleton.mp z]
                          exact Int.le_refl _
              · rw [walkE_none (entI_len fun z => two (lns.trans z))] at wk
                refine g_ifT (by rw [decide_eq_false fun z => two (by have := V.int.inj z; omega)]; rfl) ?_
                refine g_ifT rfl ?_
                walk_at "gg"
                refine g_bad ?_
                walk_at "gg"
                refine bad_end fun d' H9 S9 nd9 ed9 => ?_
                exact kE i wk d' H9 (S06.trans S9) (same_free S06 nd9) ed9
        · rintro σ H3 ⟨tt, l, v4, v5, v6, rfl, S3, e3, q3, i200, lt_, wk, tl_⟩
          rw [List.length_map, List.length_map, List.drop_length, walkE_nil] at wk
          walk_at "gg"
          exact kQ tt wk d H3 (same_free S1 nd) S3 e3
end
end Gk

namespace Gk
open PySem L2 Gx SX TL
open C8 (Cal Met Mak pe_c pe_mt pe_mt0 pe_mk pe_gc)
local macro_rules | `(tactic| walk_at "g") => `(tactic| (first
  | with_reducible refine g_seq ?_ | with_reducible refine g_asg ?_ | ((with_reducible show tVar _ _ _ _); refine g_var rfl ?_) | with_reducible refine g_c ?_ | with_reducible refine g_name ?_ | with_reducible refine g_op ?_ | with_reducible refine g_I0 ?_
  | with_reducible refine g_cons ?_ | with_reducible refine g_nil ?_ | with_reducible refine g_exbl ?_ | with_reducible refine g_exint ?_ | with_reducible refine g_test ?_ | with_reducible refine g_B ?_ | with_reducible refine g_ifS ?_ | with_reducible refine g_ret ?_ | with_reducible refine g_retN ?_ | with_reducible refine g_next ?_
  | with_reducible refine g_CB ?_ | with_reducible refine g_sub ?_ | with_reducible refine g_drop ?_ | with_reducible refine g_not ?_ | with_reducible refine g_and ?_ | with_reducible refine g_or ?_ | with_reducible refine g_andV ?_ | with_reducible refine g_orV ?_ | with_reducible refine g_notV ?_ | with_reducible refine g_ifE ?_ | with_reducible refine g_isN ?_
  | with_reducible refine g_par ?_ | with_reducible refine g_expar ?_ | with_reducible refine g_chain ?_ | with_reducible refine g_un ?_ | with_reducible refine g_U ?_ | with_reducible refine g_bits ?_ | ((with_reducible show rEq _ _ _ _); refine g_eq rfl ?_) | ((with_reducible show rNe _ _ _ _); refine g_ne rfl ?_)
  | with_reducible refine g_for ?_ | with_reducible refine g_iRng1 ?_ | with_reducible refine g_iRng2 ?_ | with_reducible refine g_iList ?_ | with_reducible refine g_iTup ?_
  | ((with_reducible refine g_Imul ?hc ?_); (case hc => (first | (refine Or.inl ⟨?_, ?_⟩ <;> first | decide | omega) | (refine Or.inr ⟨?_, ?_⟩ <;> first | decide | omega))))
  | ((with_reducible refine g_Idiv ?hc ?_); (case hc => (first | (exact ⟨by decide, by decide⟩) | assumption)))
  | ((with_reducible refine g_Imod ?hc ?_); (case hc => (first | assumption | omega | decide)))
  | ((with_reducible refine g_exR1 ?hlo ?hhi ?_); (case hlo => omega); (case hhi => omega))
  | ((with_reducible refine g_exR2 ?hb ?_); (case hb => omega))
  | with_reducible refine g_lst ?_ | with_reducible refine g_tup ?_ | with_reducible refine g_call ?_ | with_reducible refine g_BM ?_ | with_reducible refine g_BM0 ?_
  | with_reducible refine g_intB ?_ | with_reducible refine g_lc ?_ | with_reducible refine g_yes ?_ | with_reducible refine g_iZip ?_ | with_reducible refine g_sl ?_ | with_reducible refine g_noP ?_ | with_reducible refine g_part ?_ | with_reducible refine g_gcons ?_ | with_reducible refine g_gnil ?_
  | with_reducible refine g_tfld ?_ | with_reducible refine g_tmeth ?_ | with_reducible refine g_tmake ?_ | with_reducible refine g_sfld ?_ | with_reducible refine g_tprop ?_ | with_reducible refine g_tstar ?_ | with_reducible refine g_tmethK ?_ | with_reducible refine g_isN1 ?_ | with_reducible refine g_notN1 ?_ | with_reducible refine g_callK0 ?_ | with_reducible refine g_m1 ?_ | with_reducible refine g_isstr ?_ | with_reducible refine g_iStr ?_ | with_reducible refine g_exS ?_ | with_reducible refine g_iEnum ?_))
local macro_rules | `(tactic| walk_at "gs1") => `(tactic| (first
  | with_reducible refine g_seq ?_ | with_reducible refine g_asg ?_ | ((with_reducible show tVar _ _ _ _); refine g_var rfl ?_) | with_reducible refine g_c ?_ | with_reducible refine g_name ?_ | with_reducible refine g_op ?_ | with_reducible refine g_I0 ?_
  | with_reducible refine g_cons ?_ | with_reducible refine g_nil ?_ | with_reducible refine g_exbl ?_ | with_reducible refine g_exint ?_ | with_reducible refine g_test ?_ | with_reducible refine g_B ?_ | with_reducible refine g_ifS ?_ | with_reducible refine g_retN ?_ | with_reducible refine g_next ?_
  | with_reducible refine g_CB ?_ | with_reducible refine g_sub ?_ | with_reducible refine g_drop ?_ | with_reducible refine g_not ?_ | with_reducible refine g_and ?_ | with_reducible refine g_or ?_ | with_reducible refine g_andV ?_ | with_reducible refine g_orV ?_ | with_reducible refine g_notV ?_ | with_reducible refine g_ifE ?_ | with_reducible refine g_isN ?_
  | with_reducible refine g_par ?_ | with_reducible refine g_expar ?_ | with_reducible refine g_chain ?_ | with_reducible refine g_un ?_ | with_reducible refine g_U ?_ | with_reducible refine g_bits ?_ | ((with_reducible show rEq _ _ _ _); refine g_eq rfl ?_) | ((with_reducible show rNe _ _ _ _); refine g_ne rfl ?_)
  | with_reducible refine g_for ?_ | with_reducible refine g_iRng1 ?_ | with_reducible refine g_iRng2 ?_ | with_reducible refine g_iList ?_ | with_reducible refine g_iTup ?_
  | ((with_reducible refine g_Imul ?hc ?_); (case hc => (first | (refine Or.inl ⟨?_, ?_⟩ <;> first | decide | omega) | (refine Or.inr ⟨?_, ?_⟩ <;> first | decide | omega))))
  | ((with_reducible refine g_Idiv ?hc ?_); (case hc => (first | (exact ⟨by decide, by decide⟩) | assumption)))
  | ((with_reducible refine g_Imod ?hc ?_); (case hc => (first | assumption | omega | decide)))
  | ((with_reducible refine g_exR1 ?hlo ?hhi ?_); (case hlo => omega); (case hhi => omega))
  | ((with_reducible refine g_exR2 ?hb ?_); (case hb => omega))
  | with_reducible refine g_lst ?_ | with_reducible refine g_tup ?_ | with_reducible refine g_call ?_ | with_reducible refine g_BM ?_ | with_reducible refine g_BM0 ?_
  | with_reducible refine g_intB ?_ | with_reducible refine g_lc ?_ | with_reducible refine g_yes ?_ | with_reducible refine g_iZip ?_ | with_reducible refine g_sl ?_ | with_reducible refine g_noP ?_ | with_reducible refine g_part ?_ | with_reducible refine g_gcons ?_ | with_reducible refine g_gnil ?_
  | with_reducible refine g_tfld ?_ | with_reducible refine g_tmeth ?_ | with_reducible refine g_tmake ?_ | with_reducible refine g_sfld ?_ | with_reducible refine g_tprop ?_ | with_reducible refine g_tstar ?_ | with_reducible refine g_tmethK ?_ | with_reducible refine g_isN1 ?_ | with_reducible refine g_notN1 ?_ | with_reducible refine g_callK0 ?_ | with_reducible refine g_m1 ?_ | with_reducible refine g_isstr ?_ | with_reducible refine g_iStr ?_ | with_reducible refine g_exS ?_ | with_reducible refine g_iEnum ?_))
local macro_rules | `(tactic| walk_at "gx1") => `(tactic| (first
  | with_reducible refine g_seq ?_ | with_reducible refine g_asg ?_ | ((with_reducible show tVar _ _ _ _); refine g_var rfl ?_) | with_reducible refine g_c ?_ | with_reducible refine g_name ?_ | with_reducible refine g_op ?_ | with_reducible refine g_I0 ?_
  | with_reducible refine g_cons ?_ | with_reducible refine g_nil ?_ | with_reducible refine g_exbl ?_ | with_reducible refine g_exint ?_ | with_reducible refine g_test ?_ | with_reducible refine g_B ?_ | with_reducible refine g_ifS ?_ | with_reducible refine g_retN ?_ | with_reducible refine g_next ?_
  | with_reducible refine g_CB ?_ | with_reducible refine g_sub ?_ | with_reducible refine g_drop ?_ | with_reducible refine g_not ?_ | with_reducible refine g_and ?_ | with_reducible refine g_or ?_ | with_reducible refine g_andV ?_ | with_reducible refine g_orV ?_ | with_reducible refine g_notV ?_ | with_reducible refine g_ret ?_ | with_reducible refine g_isN ?_
  | with_reducible refine g_par ?_ | with_reducible refine g_expar ?_ | with_reducible refine g_chain ?_ | with_reducible refine g_un ?_ | with_reducible refine g_U ?_ | with_reducible refine g_bits ?_ | ((with_reducible show rEq _ _ _ _); refine g_eq rfl ?_) | ((with_reducible show rNe _ _ _ _); refine g_ne rfl ?_)
  | with_reducible refine g_for ?_ | with_reducible refine g_iRng1 ?_ | with_reducible refine g_iRng2 ?_ | with_reducible refine g_iList ?_ | with_reducible refine g_iTup ?_
  | ((with_reducible refine g_Imul ?hc ?_); (case hc => (first | (refine Or.inl ⟨?_, ?_⟩ <;> first | decide | omega) | (refine Or.inr ⟨?_, ?_⟩ <;> first | decide | omega))))
  | ((with_reducible refine g_Idiv ?hc ?_); (case hc => (first | (exact ⟨by decide, by decide⟩) | assumption)))
  | ((with_reducible refine g_Imod ?hc ?_); (case hc => (first | assumption | omega | decide)))
  | ((with_reducible refine g_exR1 ?hlo ?hhi ?_); (case hlo => omega); (case hhi => omega))
  | ((with_reducible refine g_exR2 ?hb ?_); (case hb => omega))
  | with_reducible refine g_lst ?_ | with_reducible refine g_tup ?_ | with_reducible refine g_call ?_ | with_reducible refine g_BM ?_ | with_reducible refine g_BM0 ?_
  | with_reducible refine g_intB ?_ | with_reducible refine g_lc ?_ | with_reducible refine g_yes ?_ | with_reducible refine g_iZip ?_ | with_reducible refine g_sl ?_ | with_reducible refine g_noP ?_ | with_reducible refine g_part ?_ | with_reducible refine g_gcons ?_ | with_reducible refine g_gnil ?_
  | with_reducible refine g_tfld ?_ | with_reducible refine g_tmeth ?_ | with_reducible refine g_tmake ?_ | with_reducible refine g_sfld ?_ | with_reducible refine g_tprop ?_ | with_reducible refine g_tstar ?_ | with_reducible refine g_tmethK ?_ | with_reducible refine g_isN1 ?_ | with_reducible refine g_notN1 ?_ | with_reducible refine g_callK0 ?_ | with_reducible refine g_m1 ?_ | with_reducible refine g_isstr ?_ | with_reducible refine g_iStr ?_ | with_reducible refine g_exS ?_ | with_reducible refine g_iEnum ?_))
local macro_rules | `(tactic| walk_at "hp") => `(tactic| (first | assumption | exact upd_same | (refine same_get (by assumption) ?_; walk_at "hp")))
local macro_rules | `(tactic| walk_at "sm") => `(tactic| (first | assumption | exact Same.refl _ | (refine Same.trans ?ha (by assumption); walk_at "sm")))
local macro_rules | `(tactic| walk_at "nn") => `(tactic| (first | assumption | (refine same_free (by assumption) ?_; walk_at "nn")))
local macro_rules | `(tactic| walk_at "sb") => `(tactic| (first | decide | (refine small_bits ?_ ?_ <;> omega)))
local macro_rules | `(tactic| walk_at "ln") => `(tactic| (simp only [List.length_cons, List.length_nil]; omega))
local macro_rules | `(tactic| walk_at "gg") => `(tactic| (repeat walk_at "g"))
local macro_rules | `(tactic| walk_at "gs") => `(tactic| (repeat walk_at "gs1"))
local macro_rules | `(tactic| walk_at "gx") => `(tactic| (repeat walk_at "gx1"))

section
variable {P : Program} {w : World} {K : PySem.W.Frag} {mg : Str → Option Value} {base : Heap} {X : Cx} {C LE IE : Addr}
/-- the classes of errors that the law names -/
structure ErrE (K : PySem.W.Frag) (mg : Str → Option Value) (C LE IE : Addr) : Prop where
  lock : mg "LockError" = some (.ref LE)
  te : PySem.W.exmOne K (.ref C) (.ref LE) = some true
  er : ErrC K C
  np : PySem.W.findIn K (.ref C) "place" = some none
  g1 : ∃ u, mg "InvalidEntries" = some u ∧ RelV (.ref IE) u
  g3 : ∃ u, mg "InvalidText" = some u ∧ RelV (.ref C) u
  k1 : PySem.W.kitOne K (.ref C) (.ref IE) = some false
  k2 : PySem.W.kitOne K (.ref C) (.ref C) = some true
/-- a text that may be asked -/
structure Short (a : List Nat) : Prop where
  len : a.length ≤ 30000
  low : Low a
  word : ∀ p ∈ spl [32] 0 [] a, p.length ≤ 5000
  few : (spl [32] 0 [] a).length ≤ 5000
def spToldE : Sp := fun vs H Q _ => ∃ (wy : Int) (a : List Nat), vs = [.int wy, .str (S a)] ∧ Short a ∧
  (∀ i, readE a = .error i → ∀ (l : Addr) (H' : Hp), H l = none → Same H H' → H' l = some (.lst [.int (i : Nat)]) → Q (.ref l) H') ∧
  (∀ t, readE a = .ok t → ∀ (d : Addr) (H' : Hp), H d = none → Same H H' → H' d = some (.dK (tabK t)) → Q (.ref d) H')
abbrev s_told : Stmt := top 19
abbrev N_told : List Str := ["_law_way", "_law_page", "e", "_law_odd"]
theorem sc_told : FnScope N_told ["_law_way", "_law_page"] (defScope s_told) := ⟨rfl, rfl, rfl, by decide +kernel, rfl, by decide +kernel, by decide +kernel⟩

theorem ok_told {f : Addr} {fd : FuncData} (D : Dn K mg "_law_told" s_told ["_law_way", "_law_page"] f fd) (T : Bt mg) (ET : ErrE K mg C LE IE)
    (c_read_entries : CalX P w K mg base 3 "read_entries" (spReadE C)) (k_read_entries : CalKX P w K mg base 3 "read_entries" ["text"] soleV (spReadE C)) : Cal P w K mg base 4 "_law_told" (spToldE) [] := by
  have x_LockError := ET.lock
  have g_InvalidEntries := ET.g1
  have g_InvalidText := ET.g3
  refine cal_of D (D.fn.ok sc_told (fun vs H Q E h => ?_) (fun cdv A outer s H vs Q E hr h => ?_))
  · obtain ⟨x, r, rfl, _⟩ := h
    rfl
  · obtain ⟨wy, a, rfl, sh, kE, kQ⟩ := h
    refine ⟨_, (pss_one (ps_try_as (i := 2) (Wout := fun _ _ _ _ => False) rfl rfl sc_told.nd rfl rfl ⟨rfl, by decide, Or.inl x_LockError⟩ takes0 (fun W pn xe tk _ => (pss_one (ps_ret (pe_ifExp (pt_cmpR op_eq (pv 0) pe_int (nomark _)) (pe_cX (E := WE W) c_read_entries hr (by decide) (by rfl) (fun σ => passAt tk σ) (pa_cons (pv 1) pa_nil)) (pe_cKX (E := WE W) k_read_entries hr (by decide) (by rfl) (fun σ => passAt tk σ) (pk_cons (pv 1) pk_nil)))))) (fun ae oe cls de pn hz hf => (pss_cons (ps_set (i := 3) sc_told.nd rfl (Or.inl rfl) (pe_or (pe_callB (call_isD hz hf) (by rfl) T.n_isinstance bt_isinstance (pa_cons (pv 2) (pa_cons (pe_gc (by rfl) g_InvalidEntries) pa_nil))) (pe_one (pe_not (pe_callB (call_isD hz hf) (by rfl) T.n_isinstance bt_isinstance (pa_cons (pv 2) (pa_cons (pe_gc (by rfl) g_InvalidText) pa_nil)))))))
    (pss_one (ps_ret (pe_ifExp (pt_val (pv 3)) (pe_lst (pa_cons pe_str pa_nil)) (pe_lst (pa_cons (pe_err hz hf (pv 2)) pa_nil))))))))), ?_⟩
    walk_at "gg"
    by_cases c : wy = 0
    · refine g_ifT (decide_eq_true (by rw [c])) ?_
      refine g_cX ?_
      walk_at "gg"
      refine ⟨a, rfl, sh.len, sh.low, sh.word, sh.few, fun i ei d H1 S1 nd ed => ?_, fun t et d H' nd S' ed => ?_⟩
      · refine ⟨true, ET.te, fun _ a0 n0 => ?_, fun z => nomatch z⟩
        walk_at "gg"
        refine ⟨C, d, _, _, false, rfl, rfl, rfl, ed, ET.er, .inl ⟨_, .own IE, ET.k1⟩, ?_⟩
        walk_at "gg"
        refine g_ifF rfl ?_
        walk_at "gg"
        refine ⟨C, d, _, _, true, rfl, rfl, rfl, ed, ET.er, .inl ⟨_, .own C, ET.k2⟩, ?_⟩
        walk_at "gg"
        refine g_ifF rfl ?_
        walk_at "gg"
        refine g_err ?_
        walk_at "gg"
        refine ⟨rfl, C, d, _, _, rfl, rfl, ed, rfl, ET.er, ET.np, ?_⟩
        walk_at "gg"
        refine g_mkL (by walk_at "ln") fun p3 H3 n3 S3 e3 => ?_
        exact kE i ei p3 H3 (same_free S1 n3) (S1.trans S3) e3
      · exact kQ t et d H' nd S' ed
    · refine g_ifF (decide_eq_false fun z => c (V.int.inj z)) ?_
      refine g_cKX ?_
      walk_at "gg"
      refine ⟨a, rfl, sh.len, sh.low, sh.word, sh.few, fun i ei d H1 S1 nd ed => ?_, fun t et d H' nd S' ed => ?_⟩
      · refine ⟨true, ET.te, fun _ a0 n0 => ?_, fun z => nomatch z⟩
        walk_at "gg"
        refine ⟨C, d, _, _, false, rfl, rfl, rfl, ed, ET.er, .inl ⟨_, .own IE, ET.k1⟩, ?_⟩
        walk_at "gg"
        refine g_ifF rfl ?_
        walk_at "gg"
        refine ⟨C, d, _, _, true, rfl, rfl, rfl, ed, ET.er, .inl ⟨_, .own C, ET.k2⟩, ?_⟩
        walk_at "gg"
        refine g_ifF rfl ?_
        walk_at "gg"
        refine g_err ?_
        walk_at "gg"
        refine ⟨rfl, C, d, _, _, rfl, rfl, ed, rfl, ET.er, ET.np, ?_⟩
        walk_at "gg"
        refine g_mkL (by walk_at "ln") fun p3 H3 n3 S3 e3 => ?_
        exact kE i ei p3 H3 (same_free S1 n3) (S1.trans S3) e3
      · exact kQ t et d H' nd S' ed
end
end Gk

namespace Gk
open PySem L2 Gx SX TL
open C8 (Cal Met Mak pe_c pe_mt pe_mt0 pe_mk pe_gc)
local macro_rules | `(tactic| walk_at "g") => `(tactic| (first
  | with_reducible refine g_seq ?_ | with_reducible refine g_asg ?_ | ((with_reducible show tVar _ _ _ _); refine g_var rfl ?_) | with_reducible refine g_c ?_ | with_reducible refine g_name ?_ | with_reducible refine g_op ?_ | with_reducible refine g_I0 ?_
  | with_reducible refine g_cons ?_ | with_reducible refine g_nil ?_ | with_reducible refine g_exbl ?_ | with_reducible refine g_exint ?_ | with_reducible refine g_test ?_ | with_reducible refine g_B ?_ | with_reducible refine g_ifS ?_ | with_reducible refine g_ret ?_ | with_reducible refine g_retN ?_ | with_reducible refine g_next ?_
  | with_reducible refine g_CB ?_ | with_reducible refine g_sub ?_ | with_reducible refine g_drop ?_ | with_reducible refine g_not ?_ | with_reducible refine g_and ?_ | with_reducible refine g_or ?_ | with_reducible refine g_andV ?_ | with_reducible refine g_orV ?_ | with_reducible refine g_notV ?_ | with_reducible refine g_ifE ?_ | with_reducible refine g_isN ?_
  | with_reducible refine g_par ?_ | with_reducible refine g_expar ?_ | with_reducible refine g_chain ?_ | with_reducible refine g_un ?_ | with_reducible refine g_U ?_ | with_reducible refine g_bits ?_ | ((with_reducible show rEq _ _ _ _); refine g_eq rfl ?_) | ((with_reducible show rNe _ _ _ _); refine g_ne rfl ?_)
  | with_reducible refine g_for ?_ | with_reducible refine g_iRng1 ?_ | with_reducible refine g_iRng2 ?_ | with_reducible refine g_iList ?_ | with_reducible refine g_iTup ?_
  | ((with_reducible refine g_Imul ?hc ?_); (case hc => (first | (refine Or.inl ⟨?_, ?_⟩ <;> first | decide | omega) | (refine Or.inr ⟨?_, ?_⟩ <;> first | decide | omega))))
  | ((with_reducible refine g_Idiv ?hc ?_); (case hc => (first | (exact ⟨by decide, by decide⟩) | assumption)))
  | ((with_reducible refine g_Imod ?hc ?_); (case hc => (first | assumption | omega | decide)))
  | ((with_reducible refine g_exR1 ?hlo ?hhi ?_); (case hlo => omega); (case hhi => omega))
  | ((with_reducible refine g_exR2 ?hb ?_); (case hb => omega))
  | with_reducible refine g_lst ?_ | with_reducible refine g_tup ?_ | with_reducible refine g_call ?_ | with_reducible refine g_BM ?_ | with_reducible refine g_BM0 ?_
  | with_reducible refine g_intB ?_ | with_reducible refine g_lc ?_ | with_reducible refine g_yes ?_ | with_reducible refine g_iZip ?_ | with_reducible refine g_sl ?_ | with_reducible refine g_noP ?_ | with_reducible refine g_part ?_ | with_reducible refine g_gcons ?_ | with_reducible refine g_gnil ?_
  | with_reducible refine g_tfld ?_ | with_reducible refine g_tmeth ?_ | with_reducible refine g_tmake ?_ | with_reducible refine g_sfld ?_ | with_reducible refine g_tprop ?_ | with_reducible refine g_tstar ?_ | with_reducible refine g_tmethK ?_ | with_reducible refine g_isN1 ?_ | with_reducible refine g_notN1 ?_ | with_reducible refine g_callK0 ?_ | with_reducible refine g_m1 ?_ | with_reducible refine g_isstr ?_ | with_reducible refine g_iStr ?_ | with_reducible refine g_exS ?_ | with_reducible refine g_iEnum ?_))
local macro_rules | `(tactic| walk_at "gs1") => `(tactic| (first
  | with_reducible refine g_seq ?_ | with_reducible refine g_asg ?_ | ((with_reducible show tVar _ _ _ _); refine g_var rfl ?_) | with_reducible refine g_c ?_ | with_reducible refine g_name ?_ | with_reducible refine g_op ?_ | with_reducible refine g_I0 ?_
  | with_reducible refine g_cons ?_ | with_reducible refine g_nil ?_ | with_reducible refine g_exbl ?_ | with_reducible refine g_exint ?_ | with_reducible refine g_test ?_ | with_reducible refine g_B ?_ | with_reducible refine g_ifS ?_ | with_reducible refine g_retN ?_ | with_reducible refine g_next ?_
  | with_reducible refine g_CB ?_ | with_reducible refine g_sub ?_ | with_reducible refine g_drop ?_ | with_reducible refine g_not ?_ | with_reducible refine g_and ?_ | with_reducible refine g_or ?_ | with_reducible refine g_andV ?_ | with_reducible refine g_orV ?_ | with_reducible refine g_notV ?_ | with_reducible refine g_ifE ?_ | with_reducible refine g_isN ?_
  | with_reducible refine g_par ?_ | with_reducible refine g_expar ?_ | with_reducible refine g_chain ?_ | with_reducible refine g_un ?_ | with_reducible refine g_U ?_ | with_reducible refine g_bits ?_ | ((with_reducible show rEq _ _ _ _); refine g_eq rfl ?_) | ((with_reducible show rNe _ _ _ _); refine g_ne rfl ?_)
  | with_reducible refine g_for ?_ | with_reducible refine g_iRng1 ?_ | with_reducible refine g_iRng2 ?_ | with_reducible refine g_iList ?_ | with_reducible refine g_iTup ?_
  | ((with_reducible refine g_Imul ?hc ?_); (case hc => (first | (refine Or.inl ⟨?_, ?_⟩ <;> first | decide | omega) | (refine Or.inr ⟨?_, ?_⟩ <;> first | decide | omega))))
  | ((with_reducible refine g_Idiv ?hc ?_); (case hc => (first | (exact ⟨by decide, by decide⟩) | assumption)))
  | ((with_reducible refine g_Imod ?hc ?_); (case hc => (first | assumption | omega | decide)))
  | ((with_reducible refine g_exR1 ?hlo ?hhi ?_); (case hlo => omega); (case hhi => omega))
  | ((with_reducible refine g_exR2 ?hb ?_); (case hb => omega))
  | with_reducible refine g_lst ?_ | with_reducible refine g_tup ?_ | with_reducible refine g_call ?_ | with_reducible refine g_BM ?_ | with_reducible refine g_BM0 ?_
  | with_reducible refine g_intB ?_ | with_reducible refine g_lc ?_ | with_reducible refine g_yes ?_ | with_reducible refine g_iZip ?_ | with_reducible refine g_sl ?_ | with_reducible refine g_noP ?_ | with_reducible refine g_part ?_ | with_reducible refine g_gcons ?_ | with_reducible refine g_gnil ?_
  | with_reducible refine g_tfld ?_ | with_reducible refine g_tmeth ?_ | with_reducible refine g_tmake ?_ | with_reducible refine g_sfld ?_ | with_reducible refine g_tprop ?_ | with_reducible refine g_tstar ?_ | with_reducible refine g_tmethK ?_ | with_reducible refine g_isN1 ?_ | with_reducible refine g_notN1 ?_ | with_reducible refine g_callK0 ?_ | with_reducible refine g_m1 ?_ | with_reducible refine g_isstr ?_ | with_reducible refine g_iStr ?_ | with_reducible refine g_exS ?_ | with_reducible refine g_iEnum ?_))
local macro_rules | `(tactic| walk_at "gx1") => `(tactic| (first
  | with_reducible refine g_seq ?_ | with_reducible refine g_asg ?_ | ((with_reducible show tVar _ _ _ _); refine g_var rfl ?_) | with_reducible refine g_c ?_ | with_reducible refine g_name ?_ | with_reducible refine g_op ?_ | with_reducible refine g_I0 ?_
  | with_reducible refine g_cons ?_ | with_reducible refine g_nil ?_ | with_reducible refine g_exbl ?_ | with_reducible refine g_exint ?_ | with_reducible refine g_test ?_ | with_reducible refine g_B ?_ | with_reducible refine g_ifS ?_ | with_reducible refine g_retN ?_ | with_reducible refine g_next ?_
  | with_reducible refine g_CB ?_ | with_reducible refine g_sub ?_ | with_reducible refine g_drop ?_ | with_reducible refine g_not ?_ | with_reducible refine g_and ?_ | with_reducible refine g_or ?_ | with_reducible refine g_andV ?_ | with_reducible refine g_orV ?_ | with_reducible refine g_notV ?_ | with_reducible refine g_ret ?_ | with_reducible refine g_isN ?_
  | with_reducible refine g_par ?_ | with_reducible refine g_expar ?_ | with_reducible refine g_chain ?_ | with_reducible refine g_un ?_ | with_reducible refine g_U ?_ | with_reducible refine g_bits ?_ | ((with_reducible show rEq _ _ _ _); refine g_eq rfl ?_) | ((with_reducible show rNe _ _ _ _); refine g_ne rfl ?_)
  | with_reducible refine g_for ?_ | with_reducible refine g_iRng1 ?_ | with_reducible refine g_iRng2 ?_ | with_reducible refine g_iList ?_ | with_reducible refine g_iTup ?_
  | ((with_reducible refine g_Imul ?hc ?_); (case hc => (first | (refine Or.inl ⟨?_, ?_⟩ <;> first | decide | omega) | (refine Or.inr ⟨?_, ?_⟩ <;> first | decide | omega))))
  | ((with_reducible refine g_Idiv ?hc ?_); (case hc => (first | (exact ⟨by decide, by decide⟩) | assumption)))
  | ((with_reducible refine g_Imod ?hc ?_); (case hc => (first | assumption | omega | decide)))
  | ((with_reducible refine g_exR1 ?hlo ?hhi ?_); (case hlo => omega); (case hhi => omega))
  | ((with_reducible refine g_exR2 ?hb ?_); (case hb => omega))
  | with_reducible refine g_lst ?_ | with_reducible refine g_tup ?_ | with_reducible refine g_call ?_ | with_reducible refine g_BM ?_ | with_reducible refine g_BM0 ?_
  | with_reducible refine g_intB ?_ | with_reducible refine g_lc ?_ | with_reducible refine g_yes ?_ | with_reducible refine g_iZip ?_ | with_reducible refine g_sl ?_ | with_reducible refine g_noP ?_ | with_reducible refine g_part ?_ | with_reducible refine g_gcons ?_ | with_reducible refine g_gnil ?_
  | with_reducible refine g_tfld ?_ | with_reducible refine g_tmeth ?_ | with_reducible refine g_tmake ?_ | with_reducible refine g_sfld ?_ | with_reducible refine g_tprop ?_ | with_reducible refine g_tstar ?_ | with_reducible refine g_tmethK ?_ | with_reducible refine g_isN1 ?_ | with_reducible refine g_notN1 ?_ | with_reducible refine g_callK0 ?_ | with_reducible refine g_m1 ?_ | with_reducible refine g_isstr ?_ | with_reducible refine g_iStr ?_ | with_reducible refine g_exS ?_ | with_reducible refine g_iEnum ?_))
local macro_rules | `(tactic| walk_at "hp") => `(tactic| (first | assumption | exact upd_same | (refine same_get (by assumption) ?_; walk_at "hp")))
local macro_rules | `(tactic| walk_at "sm") => `(tactic| (first | assumption | exact Same.refl _ | (refine Same.trans ?ha (by assumption); walk_at "sm")))
local macro_rules | `(tactic| walk_at "nn") => `(tactic| (first | assumption | (refine same_free (by assumption) ?_; walk_at "nn")))
local macro_rules | `(tactic| walk_at "sb") => `(tactic| (first | decide | (refine small_bits ?_ ?_ <;> omega)))
local macro_rules | `(tactic| walk_at "ln") => `(tactic| (simp only [List.length_cons, List.length_nil]; omega))
local macro_rules | `(tactic| walk_at "gg") => `(tactic| (repeat walk_at "g"))
local macro_rules | `(tactic| walk_at "gs") => `(tactic| (repeat walk_at "gs1"))
local macro_rules | `(tactic| walk_at "gx") => `(tactic| (repeat walk_at "gx1"))

section
variable {P : Program} {w : World} {K : PySem.W.Frag} {mg : Str → Option Value} {base : Heap} {X : Cx}
theorem entI_good {p x y : List Nat} (e : spl [61] 0 [] p = [x, y]) (hx : goodI x = true) (hy : goodI y = true) : entI p = some (valI x, valI y) := by
  refine entI_two ?_
  rw [e]
  unfold readI
  rw [List.map_cons, List.map_cons, List.map_nil, if_pos hx, if_pos hy]
  rfl
theorem entI_bad {p x y : List Nat} (e : spl [61] 0 [] p = [x, y]) (h : goodI x = false ∨ goodI y = false) : entI p = none := by
  refine entI_none ?_
  rw [e, List.any_cons, List.any_cons, List.any_nil, Bool.or_false, Bool.or_eq_true]
  have no : ∀ {z : List Nat}, goodI z = false → (readI z).isNone = true := fun {z} g => by
    unfold readI
    rw [g]
    rfl
  rcases h with h | h
  · exact .inl (no h)
  · exact .inr (no h)
theorem good_val2 {a : List Nat} (h : goodI a = true) : intText? (S a) = some (valI a) ∧ a.length ≤ 61 := by
  unfold goodI at h
  rw [Bool.and_eq_true, Bool.and_eq_true, Bool.and_eq_true, decide_eq_true_eq, decide_eq_true_eq] at h
  exact int_good h.1.1.1 h.1.1.2 h.1.2
def placeE : Except Nat Tab → V
  | .error i => .int (i : Nat)
  | .ok _ => .non
def spWrongE : Sp := fun vs H Q _ => ∃ a : List Nat, vs = [.str (S a)] ∧ Short a ∧ ∀ H', Same H H' → Q (placeE (readE a)) H'
abbrev s_wrong : Stmt := top 18
abbrev N_wrong : List Str := ["_law_page", "_law_words", "_law_before", "_law_at", "_law_word", "_law_some"]
theorem sc_wrong : FnScope N_wrong ["_law_page"] (defScope s_wrong) := ⟨rfl, rfl, rfl, by decide +kernel, rfl, by decide +kernel, by decide +kernel⟩

theorem ok_wrongE {f : Addr} {fd : FuncData} (D : Dn K mg "_law_wrong" s_wrong ["_law_page"] f fd) (T : Bt mg) (c__law_integer : Cal P w K mg base 1 "_law_integer" spIsInt []) : Cal P w K mg base 2 "_law_wrong" spWrongE [] := by
  refine cal_of D (D.fn.ok sc_wrong (fun vs H Q E h => ?_) (fun cdv A outer s H vs Q E hr h => ?_))
  · obtain ⟨n, rfl, _⟩ := h
    rfl
  · obtain ⟨a, rfl, sh, k⟩ := h
    refine ⟨_, (pss_cons (ps_par (i := 1) (j := 2) (by rfl) sc_wrong.nd rfl rfl (by decide) rfl rfl (pa_cons (pe_split (pv 0) pe_str) (pa_cons pe_non pa_nil)) (by rfl))
    (pss_cons (ps_if (pt_cmpR op_eq (pe_ix ix_list (pv 1) pe_int (fun _ _ => rfl)) pe_str (nomark _)) (pss_one (ps_ret (pe_ifExp (pt_cmpR (op_eqD hr.units) (pv 1) (pe_lst (pa_cons pe_str pa_nil)) (nomark _)) pe_non pe_int))) pss_nil)
    (pss_cons (ps_for PassesOwn.never rfl (pi_enum (by rfl) T.n_enumerate (pa_cons (pv 1) pa_nil)) (pg_tup (by rfl) (pgs_cons (pg_name (i := 3) sc_wrong.nd rfl (Or.inl rfl)) (pgs_cons (pg_name (i := 4) sc_wrong.nd rfl (Or.inl rfl)) pgs_nil))) (pss_cons (ps_set (i := 5) sc_wrong.nd rfl (Or.inl rfl) (pe_split (pv 4) pe_str))
    (pss_cons (ps_if (PW.pt (pw_or (pt_cmpR op_ne (pe_callB cr_lenQ (by rfl) T.n_len bt_len (pa_cons (pv 5) pa_nil)) pe_int (nomark _)) (pw_or (pt_not (pt_val (pe_c c__law_integer hr (by decide) (by rfl) (pa_cons (pe_ix ix_list (pv 5) pe_int (fun _ _ => rfl)) pa_nil)))) (pw_or (pt_not (pt_val (pe_c c__law_integer hr (by decide) (by rfl) (pa_cons (pe_ix ix_list (pv 5) pe_int (fun _ _ => rfl)) pa_nil)))) (pw_or1 (pt_cmpR op_gt (pv 3) pe_int (nomark _))))))) (pss_one (ps_ret (pv 3))) pss_nil)
    (pss_cons (ps_if (PW.pt (pw_and (pt_cmpR op_notN1 (pv 2) pe_non (nomark _)) (pw_and1 (pt_cmpR op_le (pe_callTy call_int_str (by rfl) T.n_int bt_int (pa_cons (pe_ix ix_list (pv 5) pe_int (fun _ _ => rfl)) pa_nil)) (pv 2) (nomark _))))) (pss_one (ps_ret (pv 3))) pss_nil)
    (pss_one (ps_set (i := 2) sc_wrong.nd rfl (Or.inl rfl) (pe_callTy call_int_str (by rfl) T.n_int bt_int (pa_cons (pe_ix ix_list (pv 5) pe_int (fun _ _ => rfl)) pa_nil))))))))
    (pss_one (ps_ret pe_non))))), ?_⟩
    have los := low_spl (sep := [32]) sh.low
    have lw := sh.word
    have ln := sh.few
    have sne := (spl_lens [32] a 0 []).2.2
    have es : Txt.split (S a) (Str.ofString " ") = (spl [32] 0 [] a).map S := split_S (a := a) (b := [32]) (by simp) (by decide)
    unfold readE at k
    cases q : spl [32] 0 [] a with
    | nil => exact absurd q sne
    | cons x ws =>
      rw [q] at los es k lw ln
      simp only at k
      walk_at "gg"
      refine g_split rfl (by rw [S_len]; exact Nat.le_trans (Nat.add_le_add_right sh.len 2) (by decide)) fun p1 H1 n1 S1 e1 => ?_
      rw [es] at e1
      walk_at "gg"
      refine g_ixL (v := .str (S x)) (SqL.of e1) (atI_head rfl) ?_
      walk_at "gg"
      have e0 : decide (V.str (S x) = V.str "-") = decide (x = [45]) := by
        by_cases z : x = [45]
        · rw [decide_eq_true z, z]
          decide +kernel
        · rw [decide_eq_false z]
          exact decide_eq_false fun y => z (S_inj (show S x = S [45] from V.str.inj y))
      rw [e0]
      by_cases x45 : x = [45]
      · rw [if_pos x45] at k
        refine g_ifT (decide_eq_true x45) ?_
        walk_at "gg"
        refine g_mkL (by walk_at "ln") fun p2 H2 n2 S2 e2 => ?_
        refine g_eqS (ms := ["-"]) (SqL.of (S2 _ _ e1)) (SqL.of e2) (fun y hy => ?_) (fun y hy => ?_) ?_
        · obtain ⟨b, hb, rfl⟩ := List.mem_map.mp hy
          exact ok_S (los b hb)
        · rw [List.mem_singleton.mp hy]
          decide +kernel
        walk_at "gg"
        by_cases w0 : ws = []
        · rw [if_pos w0] at k
          refine g_ifT (decide_eq_true (by rw [w0, x45]; rfl)) ?_
          walk_at "gg"
          exact k H2 (S1.trans S2)
        · rw [if_neg w0] at k
          refine g_ifF (decide_eq_false fun z => w0 ?_) ?_
          · have := congrArg List.length z
            rw [List.length_map, List.length_cons] at this
            exact List.length_eq_zero_iff.mp (Nat.succ.inj this)
          walk_at "gg"
          exact k H2 (S1.trans S2)
      · rw [if_neg x45] at k
        refine g_ifF (decide_eq_false x45) ?_
        generalize x :: ws = ps at e1 los k lw ln
        walk_at "gg"
        refine g_exEn (SqL.of e1) ?_
        refine fw_enum (xs := (ps.map S).map V.str) (fun i σ H' => ∃ (t : Tab) (l : Option Int) (v3 v4 v5 : Option V), σ = [some (.str (S a)), some (.ref p1), some (oV l), v3, v4, v5] ∧ Same H1 H' ∧ i ≤ 200 ∧
            walkE 0 none [] ps = walkE i l t (ps.drop i))
          ⟨[], none, none, none, none, rfl, Same.refl _, Nat.zero_le _, rfl⟩ (fun i σ H' _ ⟨_, _, _, _, _, _, s, _⟩ => SqL.of (s _ _ e1)) ?_ ?_
        · rintro i y t σ H3 H4 hx ⟨tt, l, v3, v4, v5, rfl, S3, i200, wk⟩ S4 e4
          rw [List.getElem?_map, List.getElem?_map] at hx
          cases er : ps[i]? with
          | none =>
            rw [er] at hx
            cases hx
          | some p =>
            rw [er] at hx
            obtain rfl := Option.some.inj hx
            obtain ⟨il, ep⟩ := List.getElem?_eq_some_iff.mp er
            have dr : ps.drop i = p :: ps.drop (i + 1) := by rw [← ep]; exact List.drop_eq_getElem_cons il
            rw [dr] at wk
            have mp := List.mem_of_getElem? er
            have lp := lw p mp
            have lo2 := low_spl (sep := [61]) (los p mp)
            refine g_gtup (SqT.of e4) rfl ?_
            walk_at "gg"
            have es2 : Txt.split (S p) (Str.ofString "=") = (spl [61] 0 [] p).map S := split_S (a := p) (b := [61]) (by simp) (by decide)
            obtain ⟨sl2, sn2, _⟩ := spl_lens [61] p 0 []
            refine g_split rfl (by rw [S_len]; exact Nat.le_trans (Nat.add_le_add_right lp 2) (by decide)) fun p5 H5 n5 S5 e5 => ?_
            rw [es2] at e5
            have S15 := (S3.trans S4).trans S5
            walk_at "gg"
            refine g_len (SqL.of e5) ?_
            rw [List.length_map, List.length_map]
            walk_at "gg"
            by_cases two : (spl [61] 0 [] p).length = 2
            · refine g_ifF (by rw [two]; rfl) ?_
              obtain ⟨u, v, euv⟩ : ∃ u v, spl [61] 0 [] p = [u, v] := by
                match hs : spl [61] 0 [] p, two with
                | [u, v], _ => exact ⟨u, v, rfl⟩
              rw [euv] at e5 lo2 sl2
              have lu := sl2 u (by simp)
              have lv := sl2 v (by simp)
              rw [List.length_nil] at lu lv
              have lou := lo2 u (by simp)
              have lov := lo2 v (by simp)
              walk_at "gg"
              refine g_ixL (v := .str (S u)) (SqL.of e5) (atI_head rfl) ?_
              walk_at "gg"
              refine ⟨u, rfl, by omega, lou, fun H6 S6 => ?_⟩
              walk_at "gg"
              cases gu : goodI u with
              | false =>
                rw [walkE_none (entI_bad euv (.inl gu))] at wk
                refine g_ifT rfl ?_
                refine g_ifT rfl ?_
                walk_at "gg"
                rw [wk] at k
                exact k H6 (S1.trans (S15.trans S6))
              | true =>
                refine g_ifF rfl ?_
                walk_at "gg"
                refine g_ixL (v := .str (S v)) (SqL.of (S6 _ _ e5)) rfl ?_
                walk_at "gg"
                refine ⟨v, rfl, by omega, lov, fun H7 S7 => ?_⟩
                have S67 := S6.trans S7
                have S17 := S15.trans S67
                walk_at "gg"
                cases gv : goodI v with
                | false =>
                  rw [walkE_none (entI_bad euv (.inr gv))] at wk
                  refine g_ifT rfl ?_
                  refine g_ifT rfl ?_
                  walk_at "gg"
                  rw [wk] at k
                  exact k H7 (S1.trans S17)
                | true =>
                  refine g_ifF rfl ?_
                  walk_at "gg"
                  rw [walkE_some (entI_good euv gu gv)] at wk
                  obtain ⟨iu, lu61⟩ := good_val2 gu
                  by_cases i2 : i = 200
                  · rw [if_pos (.inl i2)] at wk
                    refine g_ifT (decide_eq_true (by omega)) ?_
                    walk_at "gg"
                    rw [wk] at k
                    exact k H7 (S1.trans S17)
                  · refine g_ifF (decide_eq_false (by omega)) ?_
                    walk_at "gg"
                    cases l with
                    | none =>
                      rw [if_neg (by rintro (z | z); exact i2 z; cases z)] at wk
                      refine g_ifF rfl ?_
                      refine g_ifF rfl ?_
                      walk_at "gg"
                      refine g_ixL (v := .str (S u)) (SqL.of (S67 _ _ e5)) (atI_head rfl) ?_
                      walk_at "gg"
                      refine ⟨_, _, rfl, iu, by rw [S_len]; omega, ?_⟩
                      walk_at "gg"
                      exact ⟨_, some (valI u), _, _, _, rfl, S17, by omega, wk⟩
                    | some m =>
                      refine g_ifT rfl ?_
                      walk_at "gg"
                      refine g_ixL (v := .str (S u)) (SqL.of (S67 _ _ e5)) (atI_head rfl) ?_
                      walk_at "gg"
                      refine ⟨_, _, rfl, iu, by rw [S_len]; omega, ?_⟩
                      walk_at "gg"
                      by_cases le : valI u ≤ m
                      · rw [if_pos (.inr (decide_eq_true le))] at wk
                        refine g_ifT (decide_eq_true le) ?_
                        walk_at "gg"
                        rw [wk] at k
                        exact k H7 (S1.trans S17)
                      · rw [if_neg (by rintro (z | z); exact i2 z; exact le (of_decide_eq_true z))] at wk
                        refine g_ifF (decide_eq_false le) ?_
                        walk_at "gg"
                        refine g_ixL (v := .str (S u)) (SqL.of (S67 _ _ e5)) (atI_head rfl) ?_
                        walk_at "gg"
                        refine ⟨_, _, rfl, iu, by rw [S_len]; omega, ?_⟩
                        walk_at "gg"
                        exact ⟨_, some (valI u), _, _, _, rfl, S17, by omega, wk⟩
            · rw [walkE_none (entI_len two)] at wk
              refine g_ifT (by rw [decide_eq_false fun z => two (by have := V.int.inj z; omega)]; rfl) ?_
              refine g_ifT rfl ?_
              walk_at "gg"
              rw [wk] at k
              exact k H5 (S1.trans S15)
        · rintro σ H3 ⟨tt, l, v3, v4, v5, rfl, S3, i200, wk⟩
          rw [List.length_map, List.length_map, List.drop_length, walkE_nil] at wk
          walk_at "gg"
          rw [wk] at k
          exact k H3 (S1.trans S3)
end
end Gk

namespace Gk
open PySem L2 Gx SX TL
open C8 (Cal Met Mak pe_c pe_mt pe_mt0 pe_mk pe_gc)
local macro_rules | `(tactic| walk_at "g") => `(tactic| (first
  | with_reducible refine g_seq ?_ | with_reducible refine g_asg ?_ | ((with_reducible show tVar _ _ _ _); refine g_var rfl ?_) | with_reducible refine g_c ?_ | with_reducible refine g_name ?_ | with_reducible refine g_op ?_ | with_reducible refine g_I0 ?_
  | with_reducible refine g_cons ?_ | with_reducible refine g_nil ?_ | with_reducible refine g_exbl ?_ | with_reducible refine g_exint ?_ | with_reducible refine g_test ?_ | with_reducible refine g_B ?_ | with_reducible refine g_ifS ?_ | with_reducible refine g_ret ?_ | with_reducible refine g_retN ?_ | with_reducible refine g_next ?_
  | with_reducible refine g_CB ?_ | with_reducible refine g_sub ?_ | with_reducible refine g_drop ?_ | with_reducible refine g_not ?_ | with_reducible refine g_and ?_ | with_reducible refine g_or ?_ | with_reducible refine g_andV ?_ | with_reducible refine g_orV ?_ | with_reducible refine g_notV ?_ | with_reducible refine g_ifE ?_ | with_reducible refine g_isN ?_
  | with_reducible refine g_par ?_ | with_reducible refine g_expar ?_ | with_reducible refine g_chain ?_ | with_reducible refine g_un ?_ | with_reducible refine g_U ?_ | with_reducible refine g_bits ?_ | ((with_reducible show rEq _ _ _ _); refine g_eq rfl ?_) | ((with_reducible show rNe _ _ _ _); refine g_ne rfl ?_)
  | with_reducible refine g_for ?_ | with_reducible refine g_iRng1 ?_ | with_reducible refine g_iRng2 ?_ | with_reducible refine g_iList ?_ | with_reducible refine g_iTup ?_
  | ((with_reducible refine g_Imul ?hc ?_); (case hc => (first | (refine Or.inl ⟨?_, ?_⟩ <;> first | decide | omega) | (refine Or.inr ⟨?_, ?_⟩ <;> first | decide | omega))))
  | ((with_reducible refine g_Idiv ?hc ?_); (case hc => (first | (exact ⟨by decide, by decide⟩) | assumption)))
  | ((with_reducible refine g_Imod ?hc ?_); (case hc => (first | assumption | omega | decide)))
  | ((with_reducible refine g_exR1 ?hlo ?hhi ?_); (case hlo => omega); (case hhi => omega))
  | ((with_reducible refine g_exR2 ?hb ?_); (case hb => omega))
  | with_reducible refine g_lst ?_ | with_reducible refine g_tup ?_ | with_reducible refine g_call ?_ | with_reducible refine g_BM ?_ | with_reducible refine g_BM0 ?_
  | with_reducible refine g_intB ?_ | with_reducible refine g_lc ?_ | with_reducible refine g_yes ?_ | with_reducible refine g_iZip ?_ | with_reducible refine g_sl ?_ | with_reducible refine g_noP ?_ | with_reducible refine g_part ?_ | with_reducible refine g_gcons ?_ | with_reducible refine g_gnil ?_
  | with_reducible refine g_tfld ?_ | with_reducible refine g_tmeth ?_ | with_reducible refine g_tmake ?_ | with_reducible refine g_sfld ?_ | with_reducible refine g_tprop ?_ | with_reducible refine g_tstar ?_ | with_reducible refine g_tmethK ?_ | with_reducible refine g_isN1 ?_ | with_reducible refine g_notN1 ?_ | with_reducible refine g_callK0 ?_ | with_reducible refine g_m1 ?_ | with_reducible refine g_isstr ?_ | with_reducible refine g_iStr ?_ | with_reducible refine g_exS ?_ | with_reducible refine g_iEnum ?_))
local macro_rules | `(tactic| walk_at "gs1") => `(tactic| (first
  | with_reducible refine g_seq ?_ | with_reducible refine g_asg ?_ | ((with_reducible show tVar _ _ _ _); refine g_var rfl ?_) | with_reducible refine g_c ?_ | with_reducible refine g_name ?_ | with_reducible refine g_op ?_ | with_reducible refine g_I0 ?_
  | with_reducible refine g_cons ?_ | with_reducible refine g_nil ?_ | with_reducible refine g_exbl ?_ | with_reducible refine g_exint ?_ | with_reducible refine g_test ?_ | with_reducible refine g_B ?_ | with_reducible refine g_ifS ?_ | with_reducible refine g_retN ?_ | with_reducible refine g_next ?_
  | with_reducible refine g_CB ?_ | with_reducible refine g_sub ?_ | with_reducible refine g_drop ?_ | with_reducible refine g_not ?_ | with_reducible refine g_and ?_ | with_reducible refine g_or ?_ | with_reducible refine g_andV ?_ | with_reducible refine g_orV ?_ | with_reducible refine g_notV ?_ | with_reducible refine g_ifE ?_ | with_reducible refine g_isN ?_
  | with_reducible refine g_par ?_ | with_reducible refine g_expar ?_ | with_reducible refine g_chain ?_ | with_reducible refine g_un ?_ | with_reducible refine g_U ?_ | with_reducible refine g_bits ?_ | ((with_reducible show rEq _ _ _ _); refine g_eq rfl ?_) | ((with_reducible show rNe _ _ _ _); refine g_ne rfl ?_)
  | with_reducible refine g_for ?_ | with_reducible refine g_iRng1 ?_ | with_reducible refine g_iRng2 ?_ | with_reducible refine g_iList ?_ | with_reducible refine g_iTup ?_
  | ((with_reducible refine g_Imul ?hc ?_); (case hc => (first | (refine Or.inl ⟨?_, ?_⟩ <;> first | decide | omega) | (refine Or.inr ⟨?_, ?_⟩ <;> first | decide | omega))))
  | ((with_reducible refine g_Idiv ?hc ?_); (case hc => (first | (exact ⟨by decide, by decide⟩) | assumption)))
  | ((with_reducible refine g_Imod ?hc ?_); (case hc => (first | assumption | omega | decide)))
  | ((with_reducible refine g_exR1 ?hlo ?hhi ?_); (case hlo => omega); (case hhi => omega))
  | ((with_reducible refine g_exR2 ?hb ?_); (case hb => omega))
  | with_reducible refine g_lst ?_ | with_reducible refine g_tup ?_ | with_reducible refine g_call ?_ | with_reducible refine g_BM ?_ | with_reducible refine g_BM0 ?_
  | with_reducible refine g_intB ?_ | with_reducible refine g_lc ?_ | with_reducible refine g_yes ?_ | with_reducible refine g_iZip ?_ | with_reducible refine g_sl ?_ | with_reducible refine g_noP ?_ | with_reducible refine g_part ?_ | with_reducible refine g_gcons ?_ | with_reducible refine g_gnil ?_
  | with_reducible refine g_tfld ?_ | with_reducible refine g_tmeth ?_ | with_reducible refine g_tmake ?_ | with_reducible refine g_sfld ?_ | with_reducible refine g_tprop ?_ | with_reducible refine g_tstar ?_ | with_reducible refine g_tmethK ?_ | with_reducible refine g_isN1 ?_ | with_reducible refine g_notN1 ?_ | with_reducible refine g_callK0 ?_ | with_reducible refine g_m1 ?_ | with_reducible refine g_isstr ?_ | with_reducible refine g_iStr ?_ | with_reducible refine g_exS ?_ | with_reducible refine g_iEnum ?_))
local macro_rules | `(tactic| walk_at "gx1") => `(tactic| (first
  | with_reducible refine g_seq ?_ | with_reducible refine g_asg ?_ | ((with_reducible show tVar _ _ _ _); refine g_var rfl ?_) | with_reducible refine g_c ?_ | with_reducible refine g_name ?_ | with_reducible refine g_op ?_ | with_reducible refine g_I0 ?_
  | with_reducible refine g_cons ?_ | with_reducible refine g_nil ?_ | with_reducible refine g_exbl ?_ | with_reducible refine g_exint ?_ | with_reducible refine g_test ?_ | with_reducible refine g_B ?_ | with_reducible refine g_ifS ?_ | with_reducible refine g_retN ?_ | with_reducible refine g_next ?_
  | with_reducible refine g_CB ?_ | with_reducible refine g_sub ?_ | with_reducible refine g_drop ?_ | with_reducible refine g_not ?_ | with_reducible refine g_and ?_ | with_reducible refine g_or ?_ | with_reducible refine g_andV ?_ | with_reducible refine g_orV ?_ | with_reducible refine g_notV ?_ | with_reducible refine g_ret ?_ | with_reducible refine g_isN ?_
  | with_reducible refine g_par ?_ | with_reducible refine g_expar ?_ | with_reducible refine g_chain ?_ | with_reducible refine g_un ?_ | with_reducible refine g_U ?_ | with_reducible refine g_bits ?_ | ((with_reducible show rEq _ _ _ _); refine g_eq rfl ?_) | ((with_reducible show rNe _ _ _ _); refine g_ne rfl ?_)
  | with_reducible refine g_for ?_ | with_reducible refine g_iRng1 ?_ | with_reducible refine g_iRng2 ?_ | with_reducible refine g_iList ?_ | with_reducible refine g_iTup ?_
  | ((with_reducible refine g_Imul ?hc ?_); (case hc => (first | (refine Or.inl ⟨?_, ?_⟩ <;> first | decide | omega) | (refine Or.inr ⟨?_, ?_⟩ <;> first | decide | omega))))
  | ((with_reducible refine g_Idiv ?hc ?_); (case hc => (first | (exact ⟨by decide, by decide⟩) | assumption)))
  | ((with_reducible refine g_Imod ?hc ?_); (case hc => (first | assumption | omega | decide)))
  | ((with_reducible refine g_exR1 ?hlo ?hhi ?_); (case hlo => omega); (case hhi => omega))
  | ((with_reducible refine g_exR2 ?hb ?_); (case hb => omega))
  | with_reducible refine g_lst ?_ | with_reducible refine g_tup ?_ | with_reducible refine g_call ?_ | with_reducible refine g_BM ?_ | with_reducible refine g_BM0 ?_
  | with_reducible refine g_intB ?_ | with_reducible refine g_lc ?_ | with_reducible refine g_yes ?_ | with_reducible refine g_iZip ?_ | with_reducible refine g_sl ?_ | with_reducible refine g_noP ?_ | with_reducible refine g_part ?_ | with_reducible refine g_gcons ?_ | with_reducible refine g_gnil ?_
  | with_reducible refine g_tfld ?_ | with_reducible refine g_tmeth ?_ | with_reducible refine g_tmake ?_ | with_reducible refine g_sfld ?_ | with_reducible refine g_tprop ?_ | with_reducible refine g_tstar ?_ | with_reducible refine g_tmethK ?_ | with_reducible refine g_isN1 ?_ | with_reducible refine g_notN1 ?_ | with_reducible refine g_callK0 ?_ | with_reducible refine g_m1 ?_ | with_reducible refine g_isstr ?_ | with_reducible refine g_iStr ?_ | with_reducible refine g_exS ?_ | with_reducible refine g_iEnum ?_))
local macro_rules | `(tactic| walk_at "hp") => `(tactic| (first | assumption | exact upd_same | (refine same_get (by assumption) ?_; walk_at "hp")))
local macro_rules | `(tactic| walk_at "sm") => `(tactic| (first | assumption | exact Same.refl _ | (refine Same.trans ?ha (by assumption); walk_at "sm")))
local macro_rules | `(tactic| walk_at "nn") => `(tactic| (first | assumption | (refine same_free (by assumption) ?_; walk_at "nn")))
local macro_rules | `(tactic| walk_at "sb") => `(tactic| (first | decide | (refine small_bits ?_ ?_ <;> omega)))
local macro_rules | `(tactic| walk_at "ln") => `(tactic| (simp only [List.length_cons, List.length_nil]; omega))
local macro_rules | `(tactic| walk_at "gg") => `(tactic| (repeat walk_at "g"))
local macro_rules | `(tactic| walk_at "gs") => `(tactic| (repeat walk_at "gs1"))
local macro_rules | `(tactic| walk_at "gx") => `(tactic| (repeat walk_at "gx1"))

section
variable {P : Program} {w : World} {K : PySem.W.Frag} {mg : Str → Option Value} {base : Heap} {X : Cx}
theorem short_of {a : List Nat} (h : a.length ≤ 4000) (lo : Low a) : Short a := by
  obtain ⟨h1, h2, _⟩ := spl_lens [32] a 0 []
  refine ⟨by omega, lo, fun p hp => ?_, by omega⟩
  have := h1 p hp
  rw [List.length_nil] at this
  omega
/-- the texts that are put in -/
def odd1 : List Str := ["", "-", "1", "=", "1=", "=1", "1=1=1", "01=1", "1=01", "-0=1", "1=-0", "+1=1"]
def odd2 : List Str := ["1 =1", "a=1", "1=1,", repS "9" 61 ++ Str.ofString "=1", Str.ofString "1=" ++ repS "9" 61, repS "9" 60 ++ Str.ofString "=1"]
def odd3 : List Str := ["1=1\n", "-1=1", "--1=1", "1:1"]
def odds : List Str := odd1 ++ odd2 ++ odd3
theorem odds_all : odds.all (fun x => (tl x).all (fun c => decide (c < 128)) && decide ((tl x).length ≤ 70)) = true := by decide +kernel
theorem odds_len : odds.length = 22 := rfl
theorem odds_ok {x : Str} (h : x ∈ odds) : Low (tl x) ∧ (tl x).length ≤ 70 := by
  have z := List.all_eq_true.mp odds_all x h
  rw [Bool.and_eq_true, decide_eq_true_eq, List.all_eq_true] at z
  exact ⟨fun c hc => of_decide_eq_true (z.1 c hc), z.2⟩
def lasts : List Nat := [48, 49, 50, 51, 52, 53, 54, 55, 56, 57, 61, 45, 32]
theorem lasts_is : (Str.ofString "0123456789=- ").cps.toList = lasts := by decide +kernel
theorem ixN_nat {n j : Nat} (h : j < n) : ixN n (j : Int) = some j := by
  unfold ixN
  rw [if_pos (by omega), if_pos (by omega)]
  simp
theorem strs_all {xs : List Str} {P : Str → Prop} (h : ∀ x ∈ xs, P x) : ∀ v ∈ xs.map V.str, ∃ x, v = .str x ∧ P x := fun v hv => by
  obtain ⟨x, hx, rfl⟩ := List.mem_map.mp hv
  exact ⟨x, rfl, h x hx⟩
def spBentE : Sp := fun vs H Q _ => ∃ (f : Addr) (c : Nat) (a : List Nat), vs = [.ref f, .str (S a)] ∧ Flask c H f ∧ c ≤ 900000 ∧ a.length ≤ 3900 ∧ Low a ∧
  ∀ (b : List Nat) (c' : Nat) (H' : Hp), b.length ≤ 4000 → Low b → SmV H H' → c' ≤ c + 20 → Flask c' H' f → Q (.str (S b)) H'
abbrev s_bent : Stmt := top 20
abbrev N_bent : List Str := ["_law_flask_here", "_law_page", "_law_words", "_law_odd", "_law_turn", "_law_at", "_law_way"]
theorem sc_bent : FnScope N_bent ["_law_flask_here", "_law_page"] (defScope s_bent) := ⟨rfl, rfl, rfl, by decide +kernel, rfl, by decide +kernel, by decide +kernel⟩

theorem ok_bentE {f : Addr} {fd : FuncData} (D : Dn K mg "_law_bent" s_bent ["_law_flask_here", "_law_page"] f fd) (T : Bt mg) (c__law_drip : Cal P w K mg base 1 "_law_drip" spDrip []) : Cal P w K mg base 2 "_law_bent" spBentE [] := by
  refine cal_of D (D.fn.ok sc_bent (fun vs H Q E h => ?_) (fun cdv A outer s H vs Q E hr h => ?_))
  · obtain ⟨x, n, r, rfl, _⟩ := h
    rfl
  · obtain ⟨f, c, a, rfl, F0, hc, la, lo, k⟩ := h
    refine ⟨_, (pss_cons (ps_set (i := 2) sc_bent.nd rfl (Or.inl rfl) (pe_split (pv 1) pe_str))
    (pss_cons (ps_set (i := 3) sc_bent.nd rfl (Or.inl rfl) (pe_lst (pa_cons pe_str (pa_cons pe_str (pa_cons pe_str (pa_cons pe_str (pa_cons pe_str (pa_cons pe_str (pa_cons pe_str (pa_cons pe_str (pa_cons pe_str (pa_cons pe_str (pa_cons pe_str (pa_cons pe_str pa_nil))))))))))))))
    (pss_cons (ps_set (i := 3) sc_bent.nd rfl (Or.inl rfl) (pe_op op_cat (pv 3) (pe_lst (pa_cons pe_str (pa_cons pe_str (pa_cons pe_str (pa_cons (pe_op op_add_str (pe_op op_repC pe_str pe_int) pe_str) (pa_cons (pe_op op_add_str pe_str (pe_op op_repC pe_str pe_int)) (pa_cons (pe_op op_add_str (pe_op op_repC pe_str pe_int) pe_str) pa_nil)))))))))
    (pss_cons (ps_set (i := 3) sc_bent.nd rfl (Or.inl rfl) (pe_op op_cat (pv 3) (pe_lst (pa_cons pe_str (pa_cons pe_str (pa_cons pe_str (pa_cons pe_str pa_nil)))))))
    (pss_cons (ps_for PassesOwn.never rfl (pi_range1 (by rfl) T.n_range (pa_cons (pe_op op_add pe_int (pe_c c__law_drip hr (by decide) (by rfl) (pa_cons (pv 0) (pa_cons pe_int pa_nil)))) pa_nil)) (pg_name (i := 4) sc_bent.nd rfl (Or.inl rfl)) (pss_cons (ps_par (i := 5) (j := 6) (by rfl) sc_bent.nd rfl rfl (by decide) rfl rfl (pa_cons (pe_c c__law_drip hr (by decide) (by rfl) (pa_cons (pv 0) (pa_cons (pe_callB cr_lenQ (by rfl) T.n_len bt_len (pa_cons (pv 2) pa_nil)) pa_nil))) (pa_cons (pe_c c__law_drip hr (by decide) (by rfl) (pa_cons (pv 0) (pa_cons pe_int pa_nil))) pa_nil)) (by rfl))
    (pss_one (ps_if (pt_cmpR op_lt (pv 6) pe_int (nomark _)) (pss_one (ps_asg (pe_ix ix_list (pv 3) (pe_c c__law_drip hr (by decide) (by rfl) (pa_cons (pv 0) (pa_cons (pe_callB cr_lenQ (by rfl) T.n_len bt_len (pa_cons (pv 3) pa_nil)) pa_nil))) (fun _ _ => rfl)) (pg_sub (pv 2) (pv 5) set_list))) (pss_one (ps_if (pt_cmpR op_eq (pv 6) pe_int (nomark _)) (pss_one (ps_set (i := 2) sc_bent.nd rfl (Or.inl rfl) (pe_op op_cat (pe_op op_cat (pe_slice sl_list (pv 2) po_none (po_some (pv 5))) (pe_lst (pa_cons (pe_ix ix_list (pv 3) (pe_c c__law_drip hr (by decide) (by rfl) (pa_cons (pv 0) (pa_cons (pe_callB cr_lenQ (by rfl) T.n_len bt_len (pa_cons (pv 3) pa_nil)) pa_nil))) (fun _ _ => rfl)) pa_nil))) (pe_slice sl_list (pv 2) (po_some (pv 5)) po_none)))) (pss_one (ps_if (pt_cmpR op_eq (pv 6) pe_int (nomark _)) (pss_one (ps_set (i := 2) sc_bent.nd rfl (Or.inl rfl) (pe_op op_cat (pe_slice sl_list (pv 2) (po_some (pv 5)) po_none) (pe_slice sl_list (pv 2) po_none (po_some (pv 5)))))) (pss_one (ps_asg (pe_op op_add_str (pe_slice sl_str (pe_ix ix_list (pv 2) (pv 5) (fun _ _ => rfl)) po_none (po_some (pe_un un_neg pe_int))) (pe_ix ix_str pe_str (pe_c c__law_drip hr (by decide) (by rfl) (pa_cons (pv 0) (pa_cons pe_int pa_nil))) (fun _ _ => rfl))) (pg_sub (pv 2) (pv 5) set_list)))))))))))
    (pss_one (ps_ret (pe_slice sl_str (pe_join pe_str (pv 2)) po_none (po_some pe_int))))))))), ?_⟩
    have ps0 := (spl_lens [32] a 0 []).2.2
    have los := low_spl (sep := [32]) lo
    have es : Txt.split (S a) (Str.ofString " ") = (spl [32] 0 [] a).map S := split_S (a := a) (b := [32]) (by simp) (by decide)
    have sz := sizeW_spl a
    generalize spl [32] 0 [] a = ps at ps0 los es sz
    walk_at "gg"
    refine g_split rfl (by rw [S_len]; exact Nat.le_trans (Nat.add_le_add_right la 2) (by decide)) fun pw H1 n1 S1 e1 => ?_
    rw [es] at e1
    walk_at "gg"
    refine g_mkL (by walk_at "ln") fun l1 H2 n2 S2 e2 => ?_
    walk_at "gg"
    refine ⟨_, _, rfl, rfl, by decide, by decide, by decide, by decide, ?_⟩
    walk_at "gg"
    refine ⟨_, _, rfl, rfl, by decide +kernel, ?_⟩
    walk_at "gg"
    refine ⟨_, _, rfl, rfl, by decide, by decide, by decide, by decide, ?_⟩
    refine ⟨_, _, rfl, rfl, by decide +kernel, ?_⟩
    walk_at "gg"
    refine ⟨_, _, rfl, rfl, by decide, by decide, by decide, by decide, ?_⟩
    walk_at "gg"
    refine ⟨_, _, rfl, rfl, by decide +kernel, ?_⟩
    walk_at "gg"
    refine g_mkL (by walk_at "ln") fun l2 H3 n3 S3 e3 => ?_
    refine g_cat (S3 _ _ e2) e3 (by simp only [List.length_cons, List.length_nil]; omega) fun l3 H4 n4 S4 e4 => ?_
    walk_at "gg"
    refine g_mkL (by walk_at "ln") fun l4 H5 n5 S5 e5 => ?_
    refine g_cat (S5 _ _ e4) e5 (by simp only [List.length_append, List.length_cons, List.length_nil]; omega) fun o H6 n6 S6 e6 => ?_
    have e6 : H6 o = some (.lst (odds.map V.str)) := e6
    have S26 := (((S2.trans S3).trans S4).trans S5).trans S6
    have S06 := S1.trans S26
    have w6 := S26 _ _ e1
    have pwo : pw ≠ o := fun z => by
      have := ((S2.trans S3).trans (S4.trans S5)) _ _ e1
      rw [z, n6] at this
      cases this
    clear e2 e3 e4 e5
    walk_at "gg"
    refine g_drip (F0.same S06) (by omega) (by decide) (by decide) fun r H7 r0 r1 sm7 F7 => ?_
    walk_at "gg"
    have sm07 := (Same.smv S06).trans sm7
    refine fw_range (fun i σ H' => ∃ (c1 : Nat) (qs : List (List Nat)) (p : Addr) (v4 v5 v6 : Option V), σ = [some (.ref f), some (.str (S a)), some (.ref p), some (.ref o), v4, v5, v6] ∧ sizeW qs ≤ 3901 + 80 * i ∧ qs ≠ [] ∧ (∀ q ∈ qs, Low q) ∧ c1 ≤ c + 1 + 3 * i ∧ Flask c1 H' f ∧ SmV H H' ∧ H' o = some (.lst (odds.map V.str)) ∧ H' p = some (.lst ((qs.map S).map V.str)) ∧ NV H p ∧ p ≠ o)
      ⟨_, ps, pw, none, none, none, rfl, by omega, ps0, los, by omega, F7, sm07, sm7.lst e6, sm7.lst w6, fun u _ e => (by rw [n1] at e; cases e), pwo⟩ ?_ ?_
    · rintro i σ H1 hi ⟨c1, qs, p, v4, v5, v6, rfl, sq, q0, lq, hc1, F1, sm1, o1, p1, nv, po⟩
      have i4 : i < 3 := by omega
      generalize V.int (0 + (i : Int)) = lap
      have few := sizeW_few qs
      walk_at "gg"
      refine g_len (SqL.of p1) ?_
      rw [List.length_map, List.length_map]
      walk_at "gg"
      have lp0 : 0 < qs.length := List.length_pos_iff.mpr q0
      refine g_drip F1 (by omega) (by omega) (by walk_at "sb") fun at_ H3 at0 at1 sm3 F3 => ?_
      walk_at "gg"
      refine g_drip F3 (by omega) (by decide) (by decide) fun way H4 w0 w1 sm4 F4 => ?_
      walk_at "gg"
      have sm14 := sm3.trans sm4
      have sm04 := sm1.trans sm14
      have p4 := sm14.lst p1
      have o4 := sm14.lst o1
      obtain ⟨j, rfl⟩ : ∃ j : Nat, at_ = (j : Int) := ⟨at_.toNat, by omega⟩
      have hj : j < qs.length := by omega
      refine g_ite (fun w2 => ?_) (fun w2 => ?_)
      · walk_at "gg"
        refine g_len (SqL.of o4) ?_
        rw [List.length_map, odds_len]
        walk_at "gg"
        refine g_drip F4 (by omega) (by decide) (by decide) fun r5 H5 r50 r51 sm5 F5 => ?_
        refine g_ixP (fun v => ∃ x, v = .str x ∧ Low (tl x) ∧ (tl x).length ≤ 70) (sm5.lst o4) r50 (by rw [List.length_map, odds_len]; exact r51) (strs_all fun x hx => odds_ok hx) ?_
        rintro _ ⟨x, rfl, lx, x70⟩
        walk_at "gg"
        have p5 := sm5.lst p4
        refine g_setL p5 (ixN_nat (by rw [List.length_map, List.length_map]; exact hj)) ?_
        refine ⟨c1 + 1 + 1 + 1, qs.set j (tl x), p, _, _, _, rfl, ?_, ?_, fun q hq => ?_, by omega, flask_mut F5 p5, smv_mutV (sm04.trans sm5) nv, ?_, ?_, nv, po⟩
        · have := sizeW_set (o := tl x) hj
          omega
        · intro z
          have := congrArg List.length z
          rw [List.length_set, List.length_nil] at this
          omega
        · rcases List.mem_or_eq_of_mem_set hq with z | z
          · exact lq q z
          · rw [z]
            exact lx
        · rw [upd_ne (Ne.symm po)]
          exact sm5.lst o4
        · rw [upd_same, List.map_set, List.map_set]
      · walk_at "gg"
        refine g_ite (fun w3 => ?_) (fun w3 => ?_)
        · walk_at "gg"
          refine g_slL (SqL.of p4) fun p5 H5 n5 S5 e5 => ?_
          walk_at "gg"
          refine g_len (SqL.of (S5 _ _ o4)) ?_
          rw [List.length_map, odds_len]
          walk_at "gg"
          refine g_drip (F4.same S5) (by omega) (by decide) (by decide) fun r6 H6 r60 r61 sm6 F6 => ?_
          refine g_ixP (fun v => ∃ x, v = .str x ∧ Low (tl x) ∧ (tl x).length ≤ 70) (sm6.lst (S5 _ _ o4)) r60 (by rw [List.length_map, odds_len]; exact r61) (strs_all fun x hx => odds_ok hx) ?_
          rintro _ ⟨x, rfl, lx, x70⟩
          walk_at "gg"
          refine g_mkL (by walk_at "ln") fun p7 H7 n7 S7 e7 => ?_
          rw [cutV_to, ← List.map_take, ← List.map_take] at e5
          have tk : (qs.take j).length ≤ qs.length := by rw [List.length_take]; omega
          refine g_cat (S7 _ _ (sm6.lst e5)) e7 (by rw [List.length_map, List.length_map, List.length_cons, List.length_nil]; omega) fun p8 H8 n8 S8 e8 => ?_
          walk_at "gg"
          have S68 := S7.trans S8
          refine g_slL (SqL.of (S68 _ _ (sm6.lst (S5 _ _ p4)))) fun p9 H9 n9 S9 e9 => ?_
          rw [cutV_from, ← List.map_drop, ← List.map_drop] at e9
          have dk : (qs.drop j).length ≤ qs.length := by rw [List.length_drop]; omega
          have sm69 := (Same.smv S5).trans (sm6.trans (Same.smv (S68.trans S9)))
          refine g_cat (S9 _ _ e8) e9 (by simp only [List.length_append, List.length_map, List.length_cons, List.length_nil]; omega) fun p10 H10 n10 S10 e10 => ?_
          walk_at "gg"
          have smA := sm69.trans (Same.smv S10)
          refine ⟨c1 + 1 + 1 + 1, qs.take j ++ [tl x] ++ qs.drop j, p10, _, _, _, rfl, ?_, by simp, fun q hq => ?_, by omega, F6.same ((S68.trans S9).trans S10), sm04.trans smA, smA.lst o4, ?_, nv_of (sm04.trans sm69) n10, fun z => ?_⟩
          · have := sizeW_cut qs j
            rw [sizeW_append, sizeW_append, sizeW_one]
            omega
          · rcases List.mem_append.mp hq with z | z
            · rcases List.mem_append.mp z with z | z
              · exact lq q (List.mem_of_mem_take z)
              · rw [List.mem_singleton.mp z]
                exact lx
            · exact lq q (List.mem_of_mem_drop z)
          · rw [e10, List.map_append, List.map_append, List.map_append, List.map_append]
            rfl
          · have := sm69.lst o4
            rw [← z, n10] at this
            cases this
        · walk_at "gg"
          refine g_ite (fun w4 => ?_) (fun w4 => ?_)
          · walk_at "gg"
            refine g_slL (SqL.of p4) fun p5 H5 n5 S5 e5 => ?_
            walk_at "gg"
            refine g_slL (SqL.of (S5 _ _ p4)) fun p6 H6 n6 S6 e6 => ?_
            rw [cutV_from, ← List.map_drop, ← List.map_drop] at e5
            rw [cutV_to, ← List.map_take, ← List.map_take] at e6
            have S46 := S5.trans S6
            refine g_cat (S6 _ _ e5) e6 (by rw [List.length_map, List.length_map, List.length_map, List.length_map, List.length_drop, List.length_take]; omega) fun p7 H7 n7 S7 e7 => ?_
            walk_at "gg"
            have S47 := S46.trans S7
            refine ⟨c1 + 1 + 1, qs.drop j ++ qs.take j, p7, _, _, _, rfl, ?_, fun z => ?_, fun q hq => ?_, by omega, F4.same S47, sm04.trans (Same.smv S47), S47 _ _ o4, ?_, nv_of (sm04.trans (Same.smv S46)) n7, fun z => ?_⟩
            · have := sizeW_cut qs j
              rw [sizeW_append]
              omega
            · have := congrArg List.length z
              rw [List.length_append, List.length_drop, List.length_take, List.length_nil] at this
              omega
            · rcases List.mem_append.mp hq with z | z
              · exact lq q (List.mem_of_mem_drop z)
              · exact lq q (List.mem_of_mem_take z)
            · rw [e7, List.map_append, List.map_append]
            · have := S46 _ _ o4
              rw [← z, n7] at this
              cases this
          · walk_at "gg"
            refine g_ixL (v := .str (S qs[j])) (SqL.of p4) (atI_nat (by rw [List.getElem?_map, List.getElem?_map, List.getElem?_eq_getElem hj]; rfl)) ?_
            walk_at "gg"
            have wl : qs[j].length ≤ 5000 := by
              have h1 := sizeW_cut qs j
              have h3 : qs.drop j = qs[j] :: qs.drop (j + 1) := List.drop_eq_getElem_cons hj
              have h4 : sizeW (qs.drop j) = qs[j].length + 1 + sizeW (qs.drop (j + 1)) := by
                rw [h3, ← sizeW_one, ← sizeW_append]
                rfl
              omega
            refine ⟨_, rfl, by rw [S_len]; exact Nat.le_trans wl (by decide), ?_⟩
            rw [cutS_last]
            walk_at "gg"
            refine g_drip F4 (by omega) (by decide) (by decide) fun r5 H5 r50 r51 sm5 F5 => ?_
            obtain ⟨ch, ech, mch⟩ := atI_some (xs := lasts) r50 (by show r5 < (13 : Nat); omega)
            refine ⟨_, _, ch, rfl, rfl, by decide, by rw [lasts_is]; exact ech, ?_⟩
            walk_at "gg"
            have l1 : (S qs[j].dropLast).length ≤ 5000 := by rw [S_len, List.length_dropLast]; omega
            refine ⟨_, _, rfl, rfl, Nat.le_trans (Nat.add_le_add l1 (show (S [ch]).length ≤ 1 by rw [S_len]; exact Nat.le_refl 1)) (by decide), ?_⟩
            rw [show (S qs[j].dropLast ++ (⟨#[ch]⟩ : Str)) = S (qs[j].dropLast ++ [ch]) from S_app _ [ch]]
            walk_at "gg"
            have p5 := sm5.lst p4
            refine g_setL p5 (ixN_nat (by rw [List.length_map, List.length_map]; exact hj)) ?_
            have lch : ch < 128 := by
              have z : lasts.all (fun c => decide (c < 128)) = true := by decide
              exact of_decide_eq_true (List.all_eq_true.mp z ch mch)
            refine ⟨c1 + 1 + 1 + 1, qs.set j (qs[j].dropLast ++ [ch]), p, _, _, _, rfl, ?_, ?_, fun q hq => ?_, by omega, flask_mut F5 p5, smv_mutV (sm04.trans sm5) nv, ?_, ?_, nv, po⟩
            · have h1 := sizeW_set (o := qs[j].dropLast ++ [ch]) hj
              have h2 : (qs[j].dropLast ++ [ch]).length ≤ qs[j].length + 1 := by
                rw [List.length_append, List.length_dropLast]
                simp only [List.length_cons, List.length_nil]
                omega
              omega
            · intro z
              have := congrArg List.length z
              rw [List.length_set, List.length_nil] at this
              omega
            · rcases List.mem_or_eq_of_mem_set hq with z | z
              · exact lq q z
              · rw [z]
                intro d hd
                rcases List.mem_append.mp hd with y | y
                · exact low_dropLast (lq _ (List.getElem_mem hj)) d y
                · rw [List.mem_singleton.mp y]
                  exact lch
            · rw [upd_ne (Ne.symm po)]
              exact sm5.lst o4
            · rw [upd_same, List.map_set, List.map_set]
    · rintro σ H1 ⟨c1, qs, p, v4, v5, v6, rfl, sq, q0, lq, hc1, F1, sm1, o1, p1, nv, po⟩
      walk_at "gg"
      refine ⟨_, p, qs.map S, rfl, rfl, .inl (SqL.of p1), Nat.le_trans (sumW_S qs) (by omega), ?_⟩
      rw [join_S]
      walk_at "gg"
      have lj := sizeW_join qs q0
      refine ⟨_, rfl, by rw [S_len, sizeLine_eq]; omega, ?_⟩
      rw [show (4000 : Int) = ((4000 : Nat) : Int) from rfl, cutS_to]
      have low := low_joinW lq
      exact k _ c1 H1 (by rw [List.length_take]; omega) (fun d hd => low d (List.mem_of_mem_take hd)) sm1 (by omega) F1
end
end Gk

namespace Gk
open PySem L2 Gx SX TL
open C8 (Cal Met Mak pe_c pe_mt pe_mt0 pe_mk pe_gc)
local macro_rules | `(tactic| walk_at "g") => `(tactic| (first
  | with_reducible refine g_seq ?_ | with_reducible refine g_asg ?_ | ((with_reducible show tVar _ _ _ _); refine g_var rfl ?_) | with_reducible refine g_c ?_ | with_reducible refine g_name ?_ | with_reducible refine g_op ?_ | with_reducible refine g_I0 ?_
  | with_reducible refine g_cons ?_ | with_reducible refine g_nil ?_ | with_reducible refine g_exbl ?_ | with_reducible refine g_exint ?_ | with_reducible refine g_test ?_ | with_reducible refine g_B ?_ | with_reducible refine g_ifS ?_ | with_reducible refine g_ret ?_ | with_reducible refine g_retN ?_ | with_reducible refine g_next ?_
  | with_reducible refine g_CB ?_ | with_reducible refine g_sub ?_ | with_reducible refine g_drop ?_ | with_reducible refine g_not ?_ | with_reducible refine g_and ?_ | with_reducible refine g_or ?_ | with_reducible refine g_andV ?_ | with_reducible refine g_orV ?_ | with_reducible refine g_notV ?_ | with_reducible refine g_ifE ?_ | with_reducible refine g_isN ?_
  | with_reducible refine g_par ?_ | with_reducible refine g_expar ?_ | with_reducible refine g_chain ?_ | with_reducible refine g_un ?_ | with_reducible refine g_U ?_ | with_reducible refine g_bits ?_ | ((with_reducible show rEq _ _ _ _); refine g_eq rfl ?_) | ((with_reducible show rNe _ _ _ _); refine g_ne rfl ?_)
  | with_reducible refine g_for ?_ | with_reducible refine g_iRng1 ?_ | with_reducible refine g_iRng2 ?_ | with_reducible refine g_iList ?_ | with_reducible refine g_iTup ?_
  | ((with_reducible refine g_Imul ?hc ?_); (case hc => (first | (refine Or.inl ⟨?_, ?_⟩ <;> first | decide | omega) | (refine Or.inr ⟨?_, ?_⟩ <;> first | decide | omega))))
  | ((with_reducible refine g_Idiv ?hc ?_); (case hc => (first | (exact ⟨by decide, by decide⟩) | assumption)))
  | ((with_reducible refine g_Imod ?hc ?_); (case hc => (first | assumption | omega | decide)))
  | ((with_reducible refine g_exR1 ?hlo ?hhi ?_); (case hlo => omega); (case hhi => omega))
  | ((with_reducible refine g_exR2 ?hb ?_); (case hb => omega))
  | with_reducible refine g_lst ?_ | with_reducible refine g_tup ?_ | with_reducible refine g_call ?_ | with_reducible refine g_BM ?_ | with_reducible refine g_BM0 ?_
  | with_reducible refine g_intB ?_ | with_reducible refine g_lc ?_ | with_reducible refine g_yes ?_ | with_reducible refine g_iZip ?_ | with_reducible refine g_sl ?_ | with_reducible refine g_noP ?_ | with_reducible refine g_part ?_ | with_reducible refine g_gcons ?_ | with_reducible refine g_gnil ?_
  | with_reducible refine g_tfld ?_ | with_reducible refine g_tmeth ?_ | with_reducible refine g_tmake ?_ | with_reducible refine g_sfld ?_ | with_reducible refine g_tprop ?_ | with_reducible refine g_tstar ?_ | with_reducible refine g_tmethK ?_ | with_reducible refine g_isN1 ?_ | with_reducible refine g_notN1 ?_ | with_reducible refine g_callK0 ?_ | with_reducible refine g_m1 ?_ | with_reducible refine g_isstr ?_ | with_reducible refine g_iStr ?_ | with_reducible refine g_exS ?_ | with_reducible refine g_iEnum ?_))
local macro_rules | `(tactic| walk_at "gs1") => `(tactic| (first
  | with_reducible refine g_seq ?_ | with_reducible refine g_asg ?_ | ((with_reducible show tVar _ _ _ _); refine g_var rfl ?_) | with_reducible refine g_c ?_ | with_reducible refine g_name ?_ | with_reducible refine g_op ?_ | with_reducible refine g_I0 ?_
  | with_reducible refine g_cons ?_ | with_reducible refine g_nil ?_ | with_reducible refine g_exbl ?_ | with_reducible refine g_exint ?_ | with_reducible refine g_test ?_ | with_reducible refine g_B ?_ | with_reducible refine g_ifS ?_ | with_reducible refine g_retN ?_ | with_reducible refine g_next ?_
  | with_reducible refine g_CB ?_ | with_reducible refine g_sub ?_ | with_reducible refine g_drop ?_ | with_reducible refine g_not ?_ | with_reducible refine g_and ?_ | with_reducible refine g_or ?_ | with_reducible refine g_andV ?_ | with_reducible refine g_orV ?_ | with_reducible refine g_notV ?_ | with_reducible refine g_ifE ?_ | with_reducible refine g_isN ?_
  | with_reducible refine g_par ?_ | with_reducible refine g_expar ?_ | with_reducible refine g_chain ?_ | with_reducible refine g_un ?_ | with_reducible refine g_U ?_ | with_reducible refine g_bits ?_ | ((with_reducible show rEq _ _ _ _); refine g_eq rfl ?_) | ((with_reducible show rNe _ _ _ _); refine g_ne rfl ?_)
  | with_reducible refine g_for ?_ | with_reducible refine g_iRng1 ?_ | with_reducible refine g_iRng2 ?_ | with_reducible refine g_iList ?_ | with_reducible refine g_iTup ?_
  | ((with_reducible refine g_Imul ?hc ?_); (case hc => (first | (refine Or.inl ⟨?_, ?_⟩ <;> first | decide | omega) | (refine Or.inr ⟨?_, ?_⟩ <;> first | decide | omega))))
  | ((with_reducible refine g_Idiv ?hc ?_); (case hc => (first | (exact ⟨by decide, by decide⟩) | assumption)))
  | ((with_reducible refine g_Imod ?hc ?_); (case hc => (first | assumption | omega | decide)))
  | ((with_reducible refine g_exR1 ?hlo ?hhi ?_); (case hlo => omega); (case hhi => omega))
  | ((with_reducible refine g_exR2 ?hb ?_); (case hb => omega))
  | with_reducible refine g_lst ?_ | with_reducible refine g_tup ?_ | with_reducible refine g_call ?_ | with_reducible refine g_BM ?_ | with_reducible refine g_BM0 ?_
  | with_reducible refine g_intB ?_ | with_reducible refine g_lc ?_ | with_reducible refine g_yes ?_ | with_reducible refine g_iZip ?_ | with_reducible refine g_sl ?_ | with_reducible refine g_noP ?_ | with_reducible refine g_part ?_ | with_reducible refine g_gcons ?_ | with_reducible refine g_gnil ?_
  | with_reducible refine g_tfld ?_ | with_reducible refine g_tmeth ?_ | with_reducible refine g_tmake ?_ | with_reducible refine g_sfld ?_ | with_reducible refine g_tprop ?_ | with_reducible refine g_tstar ?_ | with_reducible refine g_tmethK ?_ | with_reducible refine g_isN1 ?_ | with_reducible refine g_notN1 ?_ | with_reducible refine g_callK0 ?_ | with_reducible refine g_m1 ?_ | with_reducible refine g_isstr ?_ | with_reducible refine g_iStr ?_ | with_reducible refine g_exS ?_ | with_reducible refine g_iEnum ?_))
local macro_rules | `(tactic| walk_at "gx1") => `(tactic| (first
  | with_reducible refine g_seq ?_ | with_reducible refine g_asg ?_ | ((with_reducible show tVar _ _ _ _); refine g_var rfl ?_) | with_reducible refine g_c ?_ | with_reducible refine g_name ?_ | with_reducible refine g_op ?_ | with_reducible refine g_I0 ?_
  | with_reducible refine g_cons ?_ | with_reducible refine g_nil ?_ | with_reducible refine g_exbl ?_ | with_reducible refine g_exint ?_ | with_reducible refine g_test ?_ | with_reducible refine g_B ?_ | with_reducible refine g_ifS ?_ | with_reducible refine g_retN ?_ | with_reducible refine g_next ?_
  | with_reducible refine g_CB ?_ | with_reducible refine g_sub ?_ | with_reducible refine g_drop ?_ | with_reducible refine g_not ?_ | with_reducible refine g_and ?_ | with_reducible refine g_or ?_ | with_reducible refine g_andV ?_ | with_reducible refine g_orV ?_ | with_reducible refine g_notV ?_ | with_reducible refine g_ret ?_ | with_reducible refine g_isN ?_
  | with_reducible refine g_par ?_ | with_reducible refine g_expar ?_ | with_reducible refine g_chain ?_ | with_reducible refine g_un ?_ | with_reducible refine g_U ?_ | with_reducible refine g_bits ?_ | ((with_reducible show rEq _ _ _ _); refine g_eq rfl ?_) | ((with_reducible show rNe _ _ _ _); refine g_ne rfl ?_)
  | with_reducible refine g_for ?_ | with_reducible refine g_iRng1 ?_ | with_reducible refine g_iRng2 ?_ | with_reducible refine g_iList ?_ | with_reducible refine g_iTup ?_
  | ((with_reducible refine g_Imul ?hc ?_); (case hc => (first | (refine Or.inl ⟨?_, ?_⟩ <;> first | decide | omega) | (refine Or.inr ⟨?_, ?_⟩ <;> first | decide | omega))))
  | ((with_reducible refine g_Idiv ?hc ?_); (case hc => (first | (exact ⟨by decide, by decide⟩) | assumption)))
  | ((with_reducible refine g_Imod ?hc ?_); (case hc => (first | assumption | omega | decide)))
  | ((with_reducible refine g_exR1 ?hlo ?hhi ?_); (case hlo => omega); (case hhi => omega))
  | ((with_reducible refine g_exR2 ?hb ?_); (case hb => omega))
  | with_reducible refine g_lst ?_ | with_reducible refine g_tup ?_ | with_reducible refine g_call ?_ | with_reducible refine g_BM ?_ | with_reducible refine g_BM0 ?_
  | with_reducible refine g_intB ?_ | with_reducible refine g_lc ?_ | with_reducible refine g_yes ?_ | with_reducible refine g_iZip ?_ | with_reducible refine g_sl ?_ | with_reducible refine g_noP ?_ | with_reducible refine g_part ?_ | with_reducible refine g_gcons ?_ | with_reducible refine g_gnil ?_
  | with_reducible refine g_tfld ?_ | with_reducible refine g_tmeth ?_ | with_reducible refine g_tmake ?_ | with_reducible refine g_sfld ?_ | with_reducible refine g_tprop ?_ | with_reducible refine g_tstar ?_ | with_reducible refine g_tmethK ?_ | with_reducible refine g_isN1 ?_ | with_reducible refine g_notN1 ?_ | with_reducible refine g_callK0 ?_ | with_reducible refine g_m1 ?_ | with_reducible refine g_isstr ?_ | with_reducible refine g_iStr ?_ | with_reducible refine g_exS ?_ | with_reducible refine g_iEnum ?_))
local macro_rules | `(tactic| walk_at "hp") => `(tactic| (first | assumption | exact upd_same | (refine same_get (by assumption) ?_; walk_at "hp")))
local macro_rules | `(tactic| walk_at "sm") => `(tactic| (first | assumption | exact Same.refl _ | (refine Same.trans ?ha (by assumption); walk_at "sm")))
local macro_rules | `(tactic| walk_at "nn") => `(tactic| (first | assumption | (refine same_free (by assumption) ?_; walk_at "nn")))
local macro_rules | `(tactic| walk_at "sb") => `(tactic| (first | decide | (refine small_bits ?_ ?_ <;> omega)))
local macro_rules | `(tactic| walk_at "ln") => `(tactic| (simp only [List.length_cons, List.length_nil]; omega))
local macro_rules | `(tactic| walk_at "gg") => `(tactic| (repeat walk_at "g"))
local macro_rules | `(tactic| walk_at "gs") => `(tactic| (repeat walk_at "gs1"))
local macro_rules | `(tactic| walk_at "gx") => `(tactic| (repeat walk_at "gx1"))

section
variable {P : Program} {w : World} {K : PySem.W.Frag} {mg : Str → Option Value} {base : Heap} {X : Cx}
theorem ent_S2 (q : Int × Int) : numS q.1 ++ Str.ofString "=" ++ numS q.2 = S (entL q) := by
  rw [← ent_S]
  refine ext_tl ?_
  rw [tl_append, tl_append, tl_append, tl_append, tl_append]
  rfl
theorem ents_ne {es : Tab} (h : es ≠ []) : joinL [32] (es.map entL) ≠ [] := by
  cases es with
  | nil => exact absurd rfl h
  | cons q r =>
    intro z
    have z2 : joinL [32] (entL q :: r.map entL) = [] := z
    rw [join_flat] at z2
    have := (List.append_eq_nil_iff.mp z2).1
    unfold entL at this
    exact absurd this (by simp)
abbrev s_line : Stmt := top 21
abbrev N_line : List Str := ["_law_table_here", "_law_found", "_law_spot"]
theorem sc_line : FnScope N_line ["_law_table_here"] (defScope s_line) := ⟨rfl, rfl, rfl, by decide +kernel, rfl, by decide +kernel, by decide +kernel⟩

theorem ok_lineE {f : Addr} {fd : FuncData} (D : Dn K mg "_law_line" s_line ["_law_table_here"] f fd) (T : Bt mg) : Cal P w K mg base 2 "_law_line" spWriteE [] := by
  refine cal_of D (D.fn.ok sc_line (fun vs H Q E h => ?_) (fun cdv A outer s H vs Q E hr h => ?_))
  · obtain ⟨t, r, _, rfl, _⟩ := h
    rfl
  · obtain ⟨d, t, es, rfl, hd, o, l201, k⟩ := h
    have hu := hu_of hr
    refine ⟨_, (pss_cons (ps_set (i := 1) sc_line.nd rfl (Or.inl rfl) (pe_join pe_str (pe_lc (own := [("_law_spot", 2)]) (g := gName 2) (tt := tYes) rfl sc_line.nd (pi_list (pe_callB (cr_sortTab rfl) (by rfl) T.n_sorted bt_sorted (pa_cons (pv 0) pa_nil))) (blkOk_by (own := [("_law_spot", 2)]) (N := N_line) (sc := defScope s_line) (by decide +kernel)) (fun _ _ _ _ _ => pg_name (i := 2) sc_line.nd rfl (Or.inl rfl)) (fun _ _ _ _ _ => pts_nil) (fun _ _ _ _ _ => (pe_op op_add_str (pe_op op_add_str (pe_callTy call_str_int (by rfl) T.n_str bt_str (pa_cons (pv 2) pa_nil)) pe_str) (pe_callTy call_str_int (by rfl) T.n_str bt_str (pa_cons (pe_dget hu (pv 0) (pv 2) (fun _ _ => rfl)) pa_nil)))))))
    (pss_one (ps_ret (pe_ifExp (pt_cmpR op_ne (pv 1) pe_str (nomark _)) (pv 1) pe_str)))), ?_⟩
    have ol := o.len
    walk_at "gg"
    refine ⟨d, t, rfl, .inl hd, fun ys l py ly nl => ?_⟩
    rw [o.keys py ly]
    have S2 : Same H (upd H l (.lst ((keysT es).map V.int))) := same_new nl
    generalize hH2 : upd H l (.lst ((keysT es).map V.int)) = H2 at S2 ⊢
    have e2 : H2 l = some (.lst ((keysT es).map V.int)) := by rw [← hH2]; exact upd_same
    have d2 := S2 _ _ hd
    walk_at "gg"
    refine g_exL (SqL.of e2) ?_
    have lk : ((keysT es).map V.int).length = es.length := by unfold keysT; rw [List.length_map, List.length_map]
    refine lc_map (src_list (SqL.of e2)) (by omega) (fun i y => ∀ q, es[i]? = some q → y = .str (S (entL q))) (fun i x H3 Nx hi S3 hx kx => ?_) fun l4 acc H4 n4 S4 e4 la pa => ?_
    · unfold keysT at hx
      rw [List.getElem?_map, List.getElem?_map] at hx
      cases eq : es[i]? with
      | none =>
        rw [eq] at hx
        cases hx
      | some q =>
        rw [eq] at hx
        obtain rfl := Option.some.inj hx
        have mq := List.mem_of_getElem? eq
        obtain ⟨q1, q2⟩ := o.asc.short q mq
        have l1 := numS_len (Nat.lt_of_lt_of_le q1 (by decide))
        have l2 := numS_len (Nat.lt_of_lt_of_le q2 (by decide))
        have le : (Str.ofString "=").length = 1 := rfl
        have app : ∀ x y : Str, (x ++ y).length = x.length + y.length := fun x y => by rw [len_tl, tl_append, List.length_append, ← len_tl, ← len_tl]
        walk_at "gg"
        refine ⟨rfl, ?_⟩
        walk_at "gg"
        refine ⟨q.1, rfl, log_60 q1, ?_⟩
        walk_at "gg"
        refine ⟨numS q.1, _, rfl, rfl, by rw [sizeLine_eq]; omega, ?_⟩
        walk_at "gg"
        refine g_dget ?_
        walk_at "gg"
        refine ⟨d, .int q.2, rfl, ?_, ?_⟩
        · have g := DGet.k (k := .inl q.1) (S3 _ _ d2)
          rw [tab_val, o.val q mq] at g
          exact g
        refine ⟨q.2, rfl, log_60 q2, ?_⟩
        refine ⟨numS q.1 ++ Str.ofString "=", numS q.2, rfl, rfl, by rw [app, sizeLine_eq]; omega, ?_⟩
        refine kx _ _ (Same.refl _) fun q' hq' => ?_
        rw [eq] at hq'
        rw [← Option.some.inj hq', ent_S2]
    · rw [lk] at la
      rw [map_ofA la pa] at e4
      walk_at "gg"
      have el : es.map (fun q => V.str (S (entL q))) = ((es.map entL).map S).map V.str := by rw [List.map_map, List.map_map]; rfl
      rw [el] at e4
      have sm := ents_sum o.asc.short
      refine ⟨_, l4, (es.map entL).map S, rfl, rfl, .inl (SqL.of e4), ?_, ?_⟩
      · have e : (Str.ofString " ").length = 1 := rfl
        rw [e, List.length_map, List.length_map]
        omega
      · rw [join_S]
        walk_at "gg"
        by_cases ee : es = []
        · subst ee
          refine g_ifF rfl ?_
          walk_at "gg"
          exact k H4 (S2.trans S4)
        · refine g_ifT (by rw [decide_eq_false (show ¬ V.str (S (joinL [32] (es.map entL))) = V.str (Str.ofString "") from fun z => ents_ne ee (S_inj (show S _ = S [] from V.str.inj z)))]; rfl) ?_
          have e : lineL es = joinL [32] (es.map entL) := by
            unfold lineL
            rw [if_neg ee]
            rfl
          rw [e] at k
          walk_at "gg"
          exact k H4 (S2.trans S4)
end
end Gk

namespace Gk
open PySem L2 Gx SX TL
open C8 (Cal Met Mak pe_c pe_mt pe_mt0 pe_mk pe_gc)
local macro_rules | `(tactic| walk_at "g") => `(tactic| (first
  | with_reducible refine g_seq ?_ | with_reducible refine g_asg ?_ | ((with_reducible show tVar _ _ _ _); refine g_var rfl ?_) | with_reducible refine g_c ?_ | with_reducible refine g_name ?_ | with_reducible refine g_op ?_ | with_reducible refine g_I0 ?_
  | with_reducible refine g_cons ?_ | with_reducible refine g_nil ?_ | with_reducible refine g_exbl ?_ | with_reducible refine g_exint ?_ | with_reducible refine g_test ?_ | with_reducible refine g_B ?_ | with_reducible refine g_ifS ?_ | with_reducible refine g_ret ?_ | with_reducible refine g_retN ?_ | with_reducible refine g_next ?_
  | with_reducible refine g_CB ?_ | with_reducible refine g_sub ?_ | with_reducible refine g_drop ?_ | with_reducible refine g_not ?_ | with_reducible refine g_and ?_ | with_reducible refine g_or ?_ | with_reducible refine g_andV ?_ | with_reducible refine g_orV ?_ | with_reducible refine g_notV ?_ | with_reducible refine g_ifE ?_ | with_reducible refine g_isN ?_
  | with_reducible refine g_par ?_ | with_reducible refine g_expar ?_ | with_reducible refine g_chain ?_ | with_reducible refine g_un ?_ | with_reducible refine g_U ?_ | with_reducible refine g_bits ?_ | ((with_reducible show rEq _ _ _ _); refine g_eq rfl ?_) | ((with_reducible show rNe _ _ _ _); refine g_ne rfl ?_)
  | with_reducible refine g_for ?_ | with_reducible refine g_iRng1 ?_ | with_reducible refine g_iRng2 ?_ | with_reducible refine g_iList ?_ | with_reducible refine g_iTup ?_
  | ((with_reducible refine g_Imul ?hc ?_); (case hc => (first | (refine Or.inl ⟨?_, ?_⟩ <;> first | decide | omega) | (refine Or.inr ⟨?_, ?_⟩ <;> first | decide | omega))))
  | ((with_reducible refine g_Idiv ?hc ?_); (case hc => (first | (exact ⟨by decide, by decide⟩) | assumption)))
  | ((with_reducible refine g_Imod ?hc ?_); (case hc => (first | assumption | omega | decide)))
  | ((with_reducible refine g_exR1 ?hlo ?hhi ?_); (case hlo => omega); (case hhi => omega))
  | ((with_reducible refine g_exR2 ?hb ?_); (case hb => omega))
  | with_reducible refine g_lst ?_ | with_reducible refine g_tup ?_ | with_reducible refine g_call ?_ | with_reducible refine g_BM ?_ | with_reducible refine g_BM0 ?_
  | with_reducible refine g_intB ?_ | with_reducible refine g_lc ?_ | with_reducible refine g_yes ?_ | with_reducible refine g_iZip ?_ | with_reducible refine g_sl ?_ | with_reducible refine g_noP ?_ | with_reducible refine g_part ?_ | with_reducible refine g_gcons ?_ | with_reducible refine g_gnil ?_
  | with_reducible refine g_tfld ?_ | with_reducible refine g_tmeth ?_ | with_reducible refine g_tmake ?_ | with_reducible refine g_sfld ?_ | with_reducible refine g_tprop ?_ | with_reducible refine g_tstar ?_ | with_reducible refine g_tmethK ?_ | with_reducible refine g_isN1 ?_ | with_reducible refine g_notN1 ?_ | with_reducible refine g_callK0 ?_ | with_reducible refine g_m1 ?_ | with_reducible refine g_isstr ?_ | with_reducible refine g_iStr ?_ | with_reducible refine g_exS ?_ | with_reducible refine g_iEnum ?_))
local macro_rules | `(tactic| walk_at "gs1") => `(tactic| (first
  | with_reducible refine g_seq ?_ | with_reducible refine g_asg ?_ | ((with_reducible show tVar _ _ _ _); refine g_var rfl ?_) | with_reducible refine g_c ?_ | with_reducible refine g_name ?_ | with_reducible refine g_op ?_ | with_reducible refine g_I0 ?_
  | with_reducible refine g_cons ?_ | with_reducible refine g_nil ?_ | with_reducible refine g_exbl ?_ | with_reducible refine g_exint ?_ | with_reducible refine g_test ?_ | with_reducible refine g_B ?_ | with_reducible refine g_ifS ?_ | with_reducible refine g_retN ?_ | with_reducible refine g_next ?_
  | with_reducible refine g_CB ?_ | with_reducible refine g_sub ?_ | with_reducible refine g_drop ?_ | with_reducible refine g_not ?_ | with_reducible refine g_and ?_ | with_reducible refine g_or ?_ | with_reducible refine g_andV ?_ | with_reducible refine g_orV ?_ | with_reducible refine g_notV ?_ | with_reducible refine g_ifE ?_ | with_reducible refine g_isN ?_
  | with_reducible refine g_par ?_ | with_reducible refine g_expar ?_ | with_reducible refine g_chain ?_ | with_reducible refine g_un ?_ | with_reducible refine g_U ?_ | with_reducible refine g_bits ?_ | ((with_reducible show rEq _ _ _ _); refine g_eq rfl ?_) | ((with_reducible show rNe _ _ _ _); refine g_ne rfl ?_)
  | with_reducible refine g_for ?_ | with_reducible refine g_iRng1 ?_ | with_reducible refine g_iRng2 ?_ | with_reducible refine g_iList ?_ | with_reducible refine g_iTup ?_
  | ((with_reducible refine g_Imul ?hc ?_); (case hc => (first | (refine Or.inl ⟨?_, ?_⟩ <;> first | decide | omega) | (refine Or.inr ⟨?_, ?_⟩ <;> first | decide | omega))))
  | ((with_reducible refine g_Idiv ?hc ?_); (case hc => (first | (exact ⟨by decide, by decide⟩) | assumption)))
  | ((with_reducible refine g_Imod ?hc ?_); (case hc => (first | assumption | omega | decide)))
  | ((with_reducible refine g_exR1 ?hlo ?hhi ?_); (case hlo => omega); (case hhi => omega))
  | ((with_reducible refine g_exR2 ?hb ?_); (case hb => omega))
  | with_reducible refine g_lst ?_ | with_reducible refine g_tup ?_ | with_reducible refine g_call ?_ | with_reducible refine g_BM ?_ | with_reducible refine g_BM0 ?_
  | with_reducible refine g_intB ?_ | with_reducible refine g_lc ?_ | with_reducible refine g_yes ?_ | with_reducible refine g_iZip ?_ | with_reducible refine g_sl ?_ | with_reducible refine g_noP ?_ | with_reducible refine g_part ?_ | with_reducible refine g_gcons ?_ | with_reducible refine g_gnil ?_
  | with_reducible refine g_tfld ?_ | with_reducible refine g_tmeth ?_ | with_reducible refine g_tmake ?_ | with_reducible refine g_sfld ?_ | with_reducible refine g_tprop ?_ | with_reducible refine g_tstar ?_ | with_reducible refine g_tmethK ?_ | with_reducible refine g_isN1 ?_ | with_reducible refine g_notN1 ?_ | with_reducible refine g_callK0 ?_ | with_reducible refine g_m1 ?_ | with_reducible refine g_isstr ?_ | with_reducible refine g_iStr ?_ | with_reducible refine g_exS ?_ | with_reducible refine g_iEnum ?_))
local macro_rules | `(tactic| walk_at "gx1") => `(tactic| (first
  | with_reducible refine g_seq ?_ | with_reducible refine g_asg ?_ | ((with_reducible show tVar _ _ _ _); refine g_var rfl ?_) | with_reducible refine g_c ?_ | with_reducible refine g_name ?_ | with_reducible refine g_op ?_ | with_reducible refine g_I0 ?_
  | with_reducible refine g_cons ?_ | with_reducible refine g_nil ?_ | with_reducible refine g_exbl ?_ | with_reducible refine g_exint ?_ | with_reducible refine g_test ?_ | with_reducible refine g_B ?_ | with_reducible refine g_ifS ?_ | with_reducible refine g_retN ?_ | with_reducible refine g_next ?_
  | with_reducible refine g_CB ?_ | with_reducible refine g_sub ?_ | with_reducible refine g_drop ?_ | with_reducible refine g_not ?_ | with_reducible refine g_and ?_ | with_reducible refine g_or ?_ | with_reducible refine g_andV ?_ | with_reducible refine g_orV ?_ | with_reducible refine g_notV ?_ | with_reducible refine g_ret ?_ | with_reducible refine g_isN ?_
  | with_reducible refine g_par ?_ | with_reducible refine g_expar ?_ | with_reducible refine g_chain ?_ | with_reducible refine g_un ?_ | with_reducible refine g_U ?_ | with_reducible refine g_bits ?_ | ((with_reducible show rEq _ _ _ _); refine g_eq rfl ?_) | ((with_reducible show rNe _ _ _ _); refine g_ne rfl ?_)
  | with_reducible refine g_for ?_ | with_reducible refine g_iRng1 ?_ | with_reducible refine g_iRng2 ?_ | with_reducible refine g_iList ?_ | with_reducible refine g_iTup ?_
  | ((with_reducible refine g_Imul ?hc ?_); (case hc => (first | (refine Or.inl ⟨?_, ?_⟩ <;> first | decide | omega) | (refine Or.inr ⟨?_, ?_⟩ <;> first | decide | omega))))
  | ((with_reducible refine g_Idiv ?hc ?_); (case hc => (first | (exact ⟨by decide, by decide⟩) | assumption)))
  | ((with_reducible refine g_Imod ?hc ?_); (case hc => (first | assumption | omega | decide)))
  | ((with_reducible refine g_exR1 ?hlo ?hhi ?_); (case hlo => omega); (case hhi => omega))
  | ((with_reducible refine g_exR2 ?hb ?_); (case hb => omega))
  | with_reducible refine g_lst ?_ | with_reducible refine g_tup ?_ | with_reducible refine g_call ?_ | with_reducible refine g_BM ?_ | with_reducible refine g_BM0 ?_
  | with_reducible refine g_intB ?_ | with_reducible refine g_lc ?_ | with_reducible refine g_yes ?_ | with_reducible refine g_iZip ?_ | with_reducible refine g_sl ?_ | with_reducible refine g_noP ?_ | with_reducible refine g_part ?_ | with_reducible refine g_gcons ?_ | with_reducible refine g_gnil ?_
  | with_reducible refine g_tfld ?_ | with_reducible refine g_tmeth ?_ | with_reducible refine g_tmake ?_ | with_reducible refine g_sfld ?_ | with_reducible refine g_tprop ?_ | with_reducible refine g_tstar ?_ | with_reducible refine g_tmethK ?_ | with_reducible refine g_isN1 ?_ | with_reducible refine g_notN1 ?_ | with_reducible refine g_callK0 ?_ | with_reducible refine g_m1 ?_ | with_reducible refine g_isstr ?_ | with_reducible refine g_iStr ?_ | with_reducible refine g_exS ?_ | with_reducible refine g_iEnum ?_))
local macro_rules | `(tactic| walk_at "hp") => `(tactic| (first | assumption | exact upd_same | (refine same_get (by assumption) ?_; walk_at "hp")))
local macro_rules | `(tactic| walk_at "sm") => `(tactic| (first | assumption | exact Same.refl _ | (refine Same.trans ?ha (by assumption); walk_at "sm")))
local macro_rules | `(tactic| walk_at "nn") => `(tactic| (first | assumption | (refine same_free (by assumption) ?_; walk_at "nn")))
local macro_rules | `(tactic| walk_at "sb") => `(tactic| (first | decide | (refine small_bits ?_ ?_ <;> omega)))
local macro_rules | `(tactic| walk_at "ln") => `(tactic| (simp only [List.length_cons, List.length_nil]; omega))
local macro_rules | `(tactic| walk_at "gg") => `(tactic| (repeat walk_at "g"))
local macro_rules | `(tactic| walk_at "gs") => `(tactic| (repeat walk_at "gs1"))
local macro_rules | `(tactic| walk_at "gx") => `(tactic| (repeat walk_at "gx1"))

section
variable {P : Program} {w : World} {K : PySem.W.Frag} {mg : Str → Option Value} {base : Heap} {X : Cx}
theorem pass_no {X : Cx} : ∀ σ, PassesAt (L2.CX X.prog X.w) X σ (fun _ _ _ => False) := fun σ pins H s e s' I h => passL pins σ H s e s' I h
theorem low_num (n : Int) : Low (numI n) := fun c hc => numI_low n c hc
theorem low_ent (q : Int × Int) : Low (entL q) := fun c hc => by
  rcases List.mem_append.mp hc with z | z
  · exact low_num _ c z
  · rcases List.mem_cons.mp z with rfl | z
    · decide
    · exact low_num _ c z
theorem low_line (es : Tab) : Low (lineL es) := by
  unfold lineL
  split
  · intro c hc
    rw [List.mem_singleton.mp hc]
    decide
  · exact low_joinW fun p hp => by
      obtain ⟨q, _, rfl⟩ := List.mem_map.mp hp
      exact low_ent q
theorem size_ents : ∀ {es : Tab}, AscT es → sizeW (es.map entL) ≤ 124 * es.length := by
  have key : ∀ es : Tab, (∀ p ∈ es, In60 p.1 ∧ In60 p.2) → sizeW (es.map entL) ≤ 124 * es.length := by
    intro es
    induction es with
    | nil => intro _; exact Nat.le_refl _
    | cons q es ih =>
      intro h
      have := ih fun p hp => h p (List.mem_cons_of_mem _ hp)
      obtain ⟨h1, h2⟩ := h q List.mem_cons_self
      have := ent_len h1 h2
      have e : sizeW ((q :: es).map entL) = (entL q).length + 1 + sizeW (es.map entL) := by
        rw [List.map_cons, ← sizeW_one, ← sizeW_append]
        rfl
      rw [e, List.length_cons]
      omega
  intro es a
  exact key es a.short
theorem len_line {es : Tab} (a : AscT es) (l : es.length ≤ 201) : (lineL es).length ≤ 25000 := by
  unfold lineL
  split
  · show 1 ≤ 25000
    decide
  · rename_i ne
    have h1 := sizeW_join (es.map entL) (by simpa using ne)
    have h2 := size_ents a
    unfold entsL
    omega
theorem short_line {es : Tab} (a : AscT es) (l : es.length ≤ 201) : Short (lineL es) := by
  refine ⟨Nat.le_trans (len_line a l) (by decide), low_line es, ?_, ?_⟩
  · intro p hp
    by_cases ne : es = []
    · subst ne
      have e : spl [32] 0 [] (lineL []) = [[45]] := rfl
      rw [e] at hp
      rw [List.mem_singleton.mp hp]
      decide
    · have e : spl [32] 0 [] (lineL es) = es.map entL := by
        unfold lineL
        rw [if_neg ne]
        refine spl_join1 (s := 32) _ (by simpa using ne) fun p hp => ?_
        obtain ⟨r, _, rfl⟩ := List.mem_map.mp hp
        exact ent_free
      rw [e] at hp
      obtain ⟨q, hq, rfl⟩ := List.mem_map.mp hp
      obtain ⟨h1, h2⟩ := a.short q hq
      exact Nat.le_trans (ent_len h1 h2) (by decide)
  · by_cases ne : es = []
    · subst ne
      have e : spl [32] 0 [] (lineL []) = [[45]] := rfl
      rw [e]
      decide
    · have e : spl [32] 0 [] (lineL es) = es.map entL := by
        unfold lineL
        rw [if_neg ne]
        refine spl_join1 (s := 32) _ (by simpa using ne) fun p hp => ?_
        obtain ⟨r, _, rfl⟩ := List.mem_map.mp hp
        exact ent_free
      rw [e, List.length_map]
      omega
theorem two_lines {p q : Str} (hp : p.length ≤ 25000) (hq : q.length ≤ 25000) (lp : ∀ c ∈ tl p, c < 128) (lq : ∀ c ∈ tl q, c < 128) :
    SeqAt.shaped (.list [.str p, .str q]) = true ∧ (PyData.list [.str p, .str q]).showable = true ∧ (PyData.list [.str p, .str q]).shown.length ≤ sizeLine := by
  have len : ∀ x : Str, (∀ c ∈ tl x, c < 128) → x.length ≤ 25000 → (PySem.reprText x).length ≤ 250002 := fun x h l => by
    have := PySem.StrLaws.reprText_len x fun c hc => Nat.lt_trans (h c hc) (by decide)
    omega
  refine ⟨?_, by simp [PyData.showable, PyData.showableAll], ?_⟩
  · simp [SeqAt.shaped, PyData.canLay0, PyData.canLayAll0, PyData.depth, PyData.depthAll, strOk_low lp, strOk_low lq]
  · have h := listText_le (PyData.shownAll [.str p, .str q])
    have a := len p lp hp
    have b := len q lq hq
    have e : piled (PyData.shownAll [.str p, .str q]) ≤ (PySem.reprText p).length + (PySem.reprText q).length + 100 := by
      simp [PyData.shownAll, PyData.shown, piled]
      omega
    rw [sizeLine_eq]
    show (listText (PyData.shownAll [.str p, .str q])).length ≤ _
    omega
/-- pairs as data -/
def pairD (q : Int × Int) : PyData := .tuple [.int q.1, .int q.2]
theorem fine_pairs {es : Tab} (h : ∀ p ∈ es, In60 p.1 ∧ In60 p.2) : Fine 2 (3 * es.length + 1) (.list (es.map pairD)) := by
  have f := fine_list (n := 1) (m := 3) (xs := es.map pairD) fun x hx => ?_
  · rw [List.length_map] at f
    exact f
  · obtain ⟨q, hq, rfl⟩ := List.mem_map.mp hx
    obtain ⟨h1, h2⟩ := h q hq
    unfold In60 at h1 h2
    refine (fine_tuple (n := 0) (m := 1) (xs := [.int q.1, .int q.2]) fun y hy => ?_).mono (Nat.le_refl _) (Nat.le_refl _)
    simp only [List.mem_cons, List.not_mem_nil, or_false] at hy
    rcases hy with rfl | rfl
    · exact fine_int (by omega) (by omega)
    · exact fine_int (by omega) (by omega)
theorem bare_pairs (es : Tab) : bare (.list (es.map pairD)) = true := by
  simp only [bare]
  exact bareAll_iff.mpr fun x hx => by
    obtain ⟨q, _, rfl⟩ := List.mem_map.mp hx
    simp [pairD, bare, bareAll]
theorem dp_pairs {K : PySem.W.Frag} {H : Hp} : ∀ {ls : List Addr} {es : Tab}, ls.length = es.length → (∀ (i : Nat) b, ls[i]? = some b → ∃ q, es[i]? = some q ∧ H b = some (.tup [.int q.1, .int q.2])) → DpAll K H (ls.map V.ref) (es.map pairD)
  | [], [], _, _ => .nil
  | [], _ :: _, h, _ => by cases h
  | _ :: _, [], h, _ => by cases h
  | b :: ls, q :: es, h, g => by
    obtain ⟨q2, e, hb⟩ := g 0 b rfl
    obtain rfl := Option.some.inj e
    exact .cons (.tup (SqT.of hb) (.cons (.int _) (.cons (.int _) .nil))) (dp_pairs (Nat.succ.inj h) fun i c hc => g (i + 1) c hc)
theorem Of.self {t : Tab} (a : AscT t) : Of t t := by
  have nd : (keysT t).Nodup := List.Pairwise.imp (fun h => Int.ne_of_lt h) (keys_asc a.asc)
  exact ⟨a, List.Perm.refl _, fun p hp => get_mem nd hp⟩
theorem of_ex {t : Tab} (nd : (keysT t).Nodup) (short : ∀ p ∈ t, In60 p.1 ∧ In60 p.2) : ∃ es, Of t es := by
  have pm := List.mergeSort_perm (keysT t) (fun a b => decide (a ≤ b))
  have pw := List.pairwise_mergeSort (le := fun a b : Int => decide (a ≤ b)) (fun a b c h1 h2 => by
    have := of_decide_eq_true h1
    have := of_decide_eq_true h2
    exact decide_eq_true (by omega)) (fun a b => by
    rcases Int.le_total a b with h | h
    · rw [decide_eq_true h]
      rfl
    · rw [decide_eq_true h, Bool.or_true]) (keysT t)
  generalize (keysT t).mergeSort (fun a b => decide (a ≤ b)) = ks at pm pw
  have le : ks.Pairwise (· ≤ ·) := pw.imp fun h => of_decide_eq_true h
  have lt := asc_of pm nd le
  have at_ : ∀ k ∈ ks, ∃ p ∈ t, p.1 = k ∧ getT t k = some p.2 := fun k hk => by
    obtain ⟨p, hp, e⟩ := List.mem_map.mp (pm.mem_iff.mp hk)
    exact ⟨p, hp, e, by rw [← e]; exact get_mem nd hp⟩
  have keys : keysT (ks.map fun k => (k, (getT t k).getD 0)) = ks := by
    unfold keysT
    rw [List.map_map]
    exact List.map_id' ks
  refine ⟨ks.map fun k => (k, (getT t k).getD 0), ⟨List.pairwise_map.mpr lt, fun p hp => ?_⟩, by rw [keys]; exact pm, fun p hp => ?_⟩
  · obtain ⟨k, hk, rfl⟩ := List.mem_map.mp hp
    obtain ⟨q, hq, e1, e2⟩ := at_ k hk
    obtain ⟨s1, s2⟩ := short q hq
    refine ⟨by rw [← e1]; exact s1, ?_⟩
    show In60 ((getT t k).getD 0)
    rw [e2]
    exact s2
  · obtain ⟨k, hk, rfl⟩ := List.mem_map.mp hp
    obtain ⟨q, hq, e1, e2⟩ := at_ k hk
    show getT t k = some ((getT t k).getD 0)
    rw [e2]
    rfl
/-- what repr of a table needs -/
theorem tab_show {t : Tab} (h : ∀ p ∈ t, In60 p.1 ∧ In60 p.2) (l : t.length ≤ 201) : (tabD t).showable = true ∧ (tabD t).shown.length ≤ sizeLine := by
  have app : ∀ x y : Str, (x ++ y).length = x.length + y.length := fun x y => by rw [len_tl, tl_append, List.length_append, ← len_tl, ← len_tl]
  have key : ∀ t : Tab, (∀ p ∈ t, In60 p.1 ∧ In60 p.2) → PyData.showableKv (t.map fun p => ((.int p.1, .int p.2) : PyData × PyData)) = true ∧ (((PyData.shownKv (t.map fun p => ((.int p.1, .int p.2) : PyData × PyData))).map tl).map (·.length)).sum ≤ 124 * t.length ∧
      (PyData.shownKv (t.map fun p => ((.int p.1, .int p.2) : PyData × PyData))).length = t.length := by
    intro t
    induction t with
    | nil =>
      intro _
      exact ⟨by simp [PyData.showableKv], by simp [PyData.shownKv], by simp [PyData.shownKv]⟩
    | cons p t ih =>
      intro h
      obtain ⟨i1, i2, i3⟩ := ih fun q hq => h q (List.mem_cons_of_mem _ hq)
      obtain ⟨h1, h2⟩ := h p List.mem_cons_self
      have a := numS_len (Nat.lt_of_lt_of_le h1 (by decide))
      have b := numS_len (Nat.lt_of_lt_of_le h2 (by decide))
      refine ⟨?_, ?_, ?_⟩
      · rw [List.map_cons]
        simp only [PyData.showableKv, PyData.showable, decide_eq_true (log_60 h1), decide_eq_true (log_60 h2), i1]
        rfl
      · rw [List.map_cons]
        simp only [PyData.shownKv, PyData.shown, List.map_cons, List.sum_cons, List.length_cons]
        have e : (tl (numS p.1 ++ Str.ofString ": " ++ numS p.2)).length ≤ 124 := by
          rw [← len_tl, app, app]
          have : (Str.ofString ": ").length = 2 := rfl
          omega
        have e2 : (tl (numS p.1 ++ Str.ofString ": " ++ numS p.2)).length + ((((PyData.shownKv (t.map fun p => ((.int p.1, .int p.2) : PyData × PyData))).map tl).map (·.length)).sum) ≤ 124 * (t.length + 1) := by omega
        exact e2
      · rw [List.map_cons]
        simp only [PyData.shownKv, List.length_cons, i3]
  obtain ⟨k1, k2, k3⟩ := key t h
  refine ⟨?_, ?_⟩
  · unfold tabD
    simp only [PyData.showable]
    exact k1
  · unfold tabD
    simp only [PyData.shown]
    have j := join_len (tl ", ") ((PyData.shownKv (t.map fun p => ((.int p.1, .int p.2) : PyData × PyData))).map tl)
    have e : (tl ", ").length = 2 := rfl
    rw [e, List.length_map, k3] at j
    have e2 : (Str.join ", " (PyData.shownKv (t.map fun p => ((.int p.1, .int p.2) : PyData × PyData)))).length ≤ 124 * t.length + t.length * 2 := by
      rw [len_tl, tl_join]
      omega
    unfold dictText
    rw [app, app, sizeLine_eq]
    have e3 : (Str.ofString "{").length = 1 := rfl
    have e4 : (Str.ofString "}").length = 1 := rfl
    have e5 : (Str.ofString "{").length + (Str.join (Str.ofString ", ") (PyData.shownKv (t.map fun p => ((.int p.1, .int p.2) : PyData × PyData)))).length + (Str.ofString "}").length ≤ 16777216 := by
      have e6 : (Str.join (Str.ofString ", ") (PyData.shownKv (t.map fun p => ((.int p.1, .int p.2) : PyData × PyData)))).length ≤ 124 * t.length + t.length * 2 := e2
      omega
    exact e5
end
end Gk

namespace Gk
open PySem L2 Gx SX TL
open C8 (Cal Met Mak pe_c pe_mt pe_mt0 pe_mk pe_gc)
local macro_rules | `(tactic| walk_at "g") => `(tactic| (first
  | with_reducible refine g_seq ?_ | with_reducible refine g_asg ?_ | ((with_reducible show tVar _ _ _ _); refine g_var rfl ?_) | with_reducible refine g_c ?_ | with_reducible refine g_name ?_ | with_reducible refine g_op ?_ | with_reducible refine g_I0 ?_
  | with_reducible refine g_cons ?_ | with_reducible refine g_nil ?_ | with_reducible refine g_exbl ?_ | with_reducible refine g_exint ?_ | with_reducible refine g_test ?_ | with_reducible refine g_B ?_ | with_reducible refine g_ifS ?_ | with_reducible refine g_ret ?_ | with_reducible refine g_retN ?_ | with_reducible refine g_next ?_
  | with_reducible refine g_CB ?_ | with_reducible refine g_sub ?_ | with_reducible refine g_drop ?_ | with_reducible refine g_not ?_ | with_reducible refine g_and ?_ | with_reducible refine g_or ?_ | with_reducible refine g_andV ?_ | with_reducible refine g_orV ?_ | with_reducible refine g_notV ?_ | with_reducible refine g_ifE ?_ | with_reducible refine g_isN ?_
  | with_reducible refine g_par ?_ | with_reducible refine g_expar ?_ | with_reducible refine g_chain ?_ | with_reducible refine g_un ?_ | with_reducible refine g_U ?_ | with_reducible refine g_bits ?_ | ((with_reducible show rEq _ _ _ _); refine g_eq rfl ?_) | ((with_reducible show rNe _ _ _ _); refine g_ne rfl ?_)
  | with_reducible refine g_for ?_ | with_reducible refine g_iRng1 ?_ | with_reducible refine g_iRng2 ?_ | with_reducible refine g_iList ?_ | with_reducible refine g_iTup ?_
  | ((with_reducible refine g_Imul ?hc ?_); (case hc => (first | (refine Or.inl ⟨?_, ?_⟩ <;> first | decide | omega) | (refine Or.inr ⟨?_, ?_⟩ <;> first | decide | omega))))
  | ((with_reducible refine g_Idiv ?hc ?_); (case hc => (first | (exact ⟨by decide, by decide⟩) | assumption)))
  | ((with_reducible refine g_Imod ?hc ?_); (case hc => (first | assumption | omega | decide)))
  | ((with_reducible refine g_exR1 ?hlo ?hhi ?_); (case hlo => omega); (case hhi => omega))
  | ((with_reducible refine g_exR2 ?hb ?_); (case hb => omega))
  | with_reducible refine g_lst ?_ | with_reducible refine g_tup ?_ | with_reducible refine g_call ?_ | with_reducible refine g_BM ?_ | with_reducible refine g_BM0 ?_
  | with_reducible refine g_intB ?_ | with_reducible refine g_lc ?_ | with_reducible refine g_yes ?_ | with_reducible refine g_iZip ?_ | with_reducible refine g_sl ?_ | with_reducible refine g_noP ?_ | with_reducible refine g_part ?_ | with_reducible refine g_gcons ?_ | with_reducible refine g_gnil ?_
  | with_reducible refine g_tfld ?_ | with_reducible refine g_tmeth ?_ | with_reducible refine g_tmake ?_ | with_reducible refine g_sfld ?_ | with_reducible refine g_tprop ?_ | with_reducible refine g_tstar ?_ | with_reducible refine g_tmethK ?_ | with_reducible refine g_isN1 ?_ | with_reducible refine g_notN1 ?_ | with_reducible refine g_callK0 ?_ | with_reducible refine g_m1 ?_ | with_reducible refine g_isstr ?_ | with_reducible refine g_iStr ?_ | with_reducible refine g_exS ?_ | with_reducible refine g_iEnum ?_))
local macro_rules | `(tactic| walk_at "gs1") => `(tactic| (first
  | with_reducible refine g_seq ?_ | with_reducible refine g_asg ?_ | ((with_reducible show tVar _ _ _ _); refine g_var rfl ?_) | with_reducible refine g_c ?_ | with_reducible refine g_name ?_ | with_reducible refine g_op ?_ | with_reducible refine g_I0 ?_
  | with_reducible refine g_cons ?_ | with_reducible refine g_nil ?_ | with_reducible refine g_exbl ?_ | with_reducible refine g_exint ?_ | with_reducible refine g_test ?_ | with_reducible refine g_B ?_ | with_reducible refine g_ifS ?_ | with_reducible refine g_retN ?_ | with_reducible refine g_next ?_
  | with_reducible refine g_CB ?_ | with_reducible refine g_sub ?_ | with_reducible refine g_drop ?_ | with_reducible refine g_not ?_ | with_reducible refine g_and ?_ | with_reducible refine g_or ?_ | with_reducible refine g_andV ?_ | with_reducible refine g_orV ?_ | with_reducible refine g_notV ?_ | with_reducible refine g_ifE ?_ | with_reducible refine g_isN ?_
  | with_reducible refine g_par ?_ | with_reducible refine g_expar ?_ | with_reducible refine g_chain ?_ | with_reducible refine g_un ?_ | with_reducible refine g_U ?_ | with_reducible refine g_bits ?_ | ((with_reducible show rEq _ _ _ _); refine g_eq rfl ?_) | ((with_reducible show rNe _ _ _ _); refine g_ne rfl ?_)
  | with_reducible refine g_for ?_ | with_reducible refine g_iRng1 ?_ | with_reducible refine g_iRng2 ?_ | with_reducible refine g_iList ?_ | with_reducible refine g_iTup ?_
  | ((with_reducible refine g_Imul ?hc ?_); (case hc => (first | (refine Or.inl ⟨?_, ?_⟩ <;> first | decide | omega) | (refine Or.inr ⟨?_, ?_⟩ <;> first | decide | omega))))
  | ((with_reducible refine g_Idiv ?hc ?_); (case hc => (first | (exact ⟨by decide, by decide⟩) | assumption)))
  | ((with_reducible refine g_Imod ?hc ?_); (case hc => (first | assumption | omega | decide)))
  | ((with_reducible refine g_exR1 ?hlo ?hhi ?_); (case hlo => omega); (case hhi => omega))
  | ((with_reducible refine g_exR2 ?hb ?_); (case hb => omega))
  | with_reducible refine g_lst ?_ | with_reducible refine g_tup ?_ | with_reducible refine g_call ?_ | with_reducible refine g_BM ?_ | with_reducible refine g_BM0 ?_
  | with_reducible refine g_intB ?_ | with_reducible refine g_lc ?_ | with_reducible refine g_yes ?_ | with_reducible refine g_iZip ?_ | with_reducible refine g_sl ?_ | with_reducible refine g_noP ?_ | with_reducible refine g_part ?_ | with_reducible refine g_gcons ?_ | with_reducible refine g_gnil ?_
  | with_reducible refine g_tfld ?_ | with_reducible refine g_tmeth ?_ | with_reducible refine g_tmake ?_ | with_reducible refine g_sfld ?_ | with_reducible refine g_tprop ?_ | with_reducible refine g_tstar ?_ | with_reducible refine g_tmethK ?_ | with_reducible refine g_isN1 ?_ | with_reducible refine g_notN1 ?_ | with_reducible refine g_callK0 ?_ | with_reducible refine g_m1 ?_ | with_reducible refine g_isstr ?_ | with_reducible refine g_iStr ?_ | with_reducible refine g_exS ?_ | with_reducible refine g_iEnum ?_))
local macro_rules | `(tactic| walk_at "gx1") => `(tactic| (first
  | with_reducible refine g_seq ?_ | with_reducible refine g_asg ?_ | ((with_reducible show tVar _ _ _ _); refine g_var rfl ?_) | with_reducible refine g_c ?_ | with_reducible refine g_name ?_ | with_reducible refine g_op ?_ | with_reducible refine g_I0 ?_
  | with_reducible refine g_cons ?_ | with_reducible refine g_nil ?_ | with_reducible refine g_exbl ?_ | with_reducible refine g_exint ?_ | with_reducible refine g_test ?_ | with_reducible refine g_B ?_ | with_reducible refine g_ifS ?_ | with_reducible refine g_retN ?_ | with_reducible refine g_next ?_
  | with_reducible refine g_CB ?_ | with_reducible refine g_sub ?_ | with_reducible refine g_drop ?_ | with_reducible refine g_not ?_ | with_reducible refine g_and ?_ | with_reducible refine g_or ?_ | with_reducible refine g_andV ?_ | with_reducible refine g_orV ?_ | with_reducible refine g_notV ?_ | with_reducible refine g_ret ?_ | with_reducible refine g_isN ?_
  | with_reducible refine g_par ?_ | with_reducible refine g_expar ?_ | with_reducible refine g_chain ?_ | with_reducible refine g_un ?_ | with_reducible refine g_U ?_ | with_reducible refine g_bits ?_ | ((with_reducible show rEq _ _ _ _); refine g_eq rfl ?_) | ((with_reducible show rNe _ _ _ _); refine g_ne rfl ?_)
  | with_reducible refine g_for ?_ | with_reducible refine g_iRng1 ?_ | with_reducible refine g_iRng2 ?_ | with_reducible refine g_iList ?_ | with_reducible refine g_iTup ?_
  | ((with_reducible refine g_Imul ?hc ?_); (case hc => (first | (refine Or.inl ⟨?_, ?_⟩ <;> first | decide | omega) | (refine Or.inr ⟨?_, ?_⟩ <;> first | decide | omega))))
  | ((with_reducible refine g_Idiv ?hc ?_); (case hc => (first | (exact ⟨by decide, by decide⟩) | assumption)))
  | ((with_reducible refine g_Imod ?hc ?_); (case hc => (first | assumption | omega | decide)))
  | ((with_reducible refine g_exR1 ?hlo ?hhi ?_); (case hlo => omega); (case hhi => omega))
  | ((with_reducible refine g_exR2 ?hb ?_); (case hb => omega))
  | with_reducible refine g_lst ?_ | with_reducible refine g_tup ?_ | with_reducible refine g_call ?_ | with_reducible refine g_BM ?_ | with_reducible refine g_BM0 ?_
  | with_reducible refine g_intB ?_ | with_reducible refine g_lc ?_ | with_reducible refine g_yes ?_ | with_reducible refine g_iZip ?_ | with_reducible refine g_sl ?_ | with_reducible refine g_noP ?_ | with_reducible refine g_part ?_ | with_reducible refine g_gcons ?_ | with_reducible refine g_gnil ?_
  | with_reducible refine g_tfld ?_ | with_reducible refine g_tmeth ?_ | with_reducible refine g_tmake ?_ | with_reducible refine g_sfld ?_ | with_reducible refine g_tprop ?_ | with_reducible refine g_tstar ?_ | with_reducible refine g_tmethK ?_ | with_reducible refine g_isN1 ?_ | with_reducible refine g_notN1 ?_ | with_reducible refine g_callK0 ?_ | with_reducible refine g_m1 ?_ | with_reducible refine g_isstr ?_ | with_reducible refine g_iStr ?_ | with_reducible refine g_exS ?_ | with_reducible refine g_iEnum ?_))
local macro_rules | `(tactic| walk_at "hp") => `(tactic| (first | assumption | exact upd_same | (refine same_get (by assumption) ?_; walk_at "hp")))
local macro_rules | `(tactic| walk_at "sm") => `(tactic| (first | assumption | exact Same.refl _ | (refine Same.trans ?ha (by assumption); walk_at "sm")))
local macro_rules | `(tactic| walk_at "nn") => `(tactic| (first | assumption | (refine same_free (by assumption) ?_; walk_at "nn")))
local macro_rules | `(tactic| walk_at "sb") => `(tactic| (first | decide | (refine small_bits ?_ ?_ <;> omega)))
local macro_rules | `(tactic| walk_at "ln") => `(tactic| (simp only [List.length_cons, List.length_nil]; omega))
local macro_rules | `(tactic| walk_at "gg") => `(tactic| (repeat walk_at "g"))
local macro_rules | `(tactic| walk_at "gs") => `(tactic| (repeat walk_at "gs1"))
local macro_rules | `(tactic| walk_at "gx") => `(tactic| (repeat walk_at "gx1"))

section
variable {P : Program} {w : World} {K : PySem.W.Frag} {mg : Str → Option Value} {base : Heap} {X : Cx} {C : Addr}
def toldAt (r : Except Nat Tab) (l : Addr) (H : Hp) : Prop := match r with
  | .error i => H l = some (.lst [.int (i : Nat)])
  | .ok t => H l = some (.dK (tabK t))
theorem told_but {r : Except Nat Tab} {l D : Addr} {H H' : Hp} (ne : l ≠ D) (b : But D H H') (h : toldAt r l H) : toldAt r l H' := by
  cases r with
  | error i => exact b _ _ ne h
  | ok t => exact b _ _ ne h
def spRight81 : Sp := fun vs H Q _ => ∃ (f d : Addr) (c : Nat) (t : Tab), vs = [.ref f, .ref d] ∧ Flask c H f ∧ c ≤ 800000 ∧ H d = some (.dK (tabK t)) ∧ (keysT t).Nodup ∧ (∀ p ∈ t, In60 p.1 ∧ In60 p.2) ∧ t.length ≤ 200 ∧ ∀ (c' : Nat) (H' : Hp), SmV H H' → c' ≤ c + 100 → Flask c' H' f → Q (.bl true) H'
abbrev s_right : Stmt := top 22
abbrev N_right : List Str := ["_law_flask_here", "_law_table_here", "_law_page", "_law_kept", "_law_due", "_law_told_here", "_law_turn", "_law_bent_here", "_law_place_here", "_law_spot", "_law_way"]
theorem sc_right : FnScope N_right ["_law_flask_here", "_law_table_here"] (defScope s_right) := ⟨rfl, rfl, rfl, by decide +kernel, rfl, by decide +kernel, by decide +kernel⟩

theorem ok_right {f : Addr} {fd : FuncData} (D : Dn K mg "_law_right" s_right ["_law_flask_here", "_law_table_here"] f fd) (T : Bt mg) (c__law_line : Cal P w K mg base 2 "_law_line" spWriteE []) (c_write_entries : Cal P w K mg base 2 "write_entries" spWriteE []) (k_write_entries : CalK P w K mg base 2 "write_entries" ["entries"] soleV spWriteE)
    (c_read_entries : CalX P w K mg base 3 "read_entries" (spReadE C)) (c__law_bent : Cal P w K mg base 2 "_law_bent" spBentE []) (c__law_wrong : Cal P w K mg base 2 "_law_wrong" spWrongE []) (c__law_told : Cal P w K mg base 4 "_law_told" spToldE []) : FnG P w K mg base 5 f fd ["_law_flask_here", "_law_table_here"] spRight81 := by
  refine fnG_of D.fn sc_right (fun vs H Q E h => ?_) (fun cdv A outer s H vs Q E gd hr h => ?_)
  · obtain ⟨x, y, _, _, rfl, _⟩ := h
    rfl
  · obtain ⟨f, d, c, t, rfl, F0, hc, hd, nd, short, l200, k⟩ := h
    have hu := hu_of hr
    refine ⟨_, (pss_cons (ps_par (i := 2) (j := 3) (by rfl) sc_right.nd rfl rfl (by decide) rfl rfl (pa_cons (pe_c c__law_line hr (by decide) (by rfl) (pa_cons (pv 1) pa_nil)) (pa_cons (pe_callB (cr_reprTab gd hr) (by rfl) T.n_repr bt_repr (pa_cons (pv 1) pa_nil)) pa_nil)) (by rfl))
    (pss_cons (ps_if (pt_cmpR op_ne (pe_callB (cr_repr gd hr) (by rfl) T.n_repr bt_repr (pa_cons (pe_lst (pa_cons (pe_c c_write_entries hr (by decide) (by rfl) (pa_cons (pv 1) pa_nil)) (pa_cons (pe_cK k_write_entries hr (by decide) (by rfl) (pk_cons (pv 1) pk_nil)) pa_nil))) pa_nil)) (pe_callB (cr_repr gd hr) (by rfl) T.n_repr bt_repr (pa_cons (pe_lst (pa_cons (pv 2) (pa_cons (pv 2) pa_nil))) pa_nil)) (nomark _)) (pss_one (ps_ret pe_bl)) pss_nil)
    (pss_cons (ps_setLc (i := 4) (own := [("_law_spot", 9)]) (g := gName 9) (tt := tYes) rfl sc_right.nd rfl rfl (sw_true rfl rfl rfl (by decide +kernel)) (pi_list (pe_callB (cr_sortTab rfl) (by rfl) T.n_sorted bt_sorted (pa_cons (pv 1) pa_nil))) (blkOk_by (own := [("_law_spot", 9)]) (N := N_right) (sc := defScope s_right) (by decide +kernel)) (fun _ _ _ _ _ => pg_name (i := 9) sc_right.nd rfl (Or.inl rfl)) (fun _ _ _ _ _ => pts_nil) (fun _ _ _ _ _ => (pe_tup (pa_cons (pv 9) (pa_cons (pe_dget hu (pv 1) (pv 9) (fun _ _ => rfl)) pa_nil)))))
    (pss_cons (ps_set (i := 5) sc_right.nd rfl (Or.inl rfl) (pe_cX (E := fun _ _ _ _ => False) c_read_entries hr (by decide) (by rfl) pass_no (pa_cons (pe_c c_write_entries hr (by decide) (by rfl) (pa_cons (pv 1) pa_nil)) pa_nil)))
    (pss_cons (ps_if (PW.pt (pw_or (pt_cmpR (op_neD hr.units) (pe_callTy (cr_listItems rfl) (by rfl) T.n_list bt_list (pa_cons (pe_bm0 PySem.F.plainAttrs_dict PySem.F.slot_dict_items PySem.F.type_dict_items mt_itemsK (pv 5)) pa_nil)) (pv 4) (nomark _)) (pw_or1 (pt_cmpR op_ne (pe_callB (cr_reprTab gd hr) (by rfl) T.n_repr bt_repr (pa_cons (pv 1) pa_nil)) (pv 3) (nomark _))))) (pss_one (ps_ret pe_bl)) pss_nil)
    (pss_cons (ps_expr (pe_dclear (pv 5)))
    (pss_cons (ps_if (pt_cmpR (op_neD hr.units) (pe_callTy (cr_listItems rfl) (by rfl) T.n_list bt_list (pa_cons (pe_bm0 PySem.F.plainAttrs_dict PySem.F.slot_dict_items PySem.F.type_dict_items mt_itemsK (pe_cX (E := fun _ _ _ _ => False) c_read_entries hr (by decide) (by rfl) pass_no (pa_cons (pe_c c_write_entries hr (by decide) (by rfl) (pa_cons (pv 1) pa_nil)) pa_nil))) pa_nil)) (pv 4) (nomark _)) (pss_one (ps_ret pe_bl)) pss_nil)
    (pss_cons (ps_for PassesOwn.never rfl (pi_range1 (by rfl) T.n_range (pa_cons pe_int pa_nil)) (pg_name (i := 6) sc_right.nd rfl (Or.inl rfl)) (pss_cons (ps_set (i := 7) sc_right.nd rfl (Or.inr rfl) (pe_c c__law_bent hr (by decide) (by rfl) (pa_cons (pv 0) (pa_cons (pe_slice sl_str (pv 2) po_none (po_some pe_int)) pa_nil))))
    (pss_cons (ps_par (i := 8) (j := 5) (by rfl) sc_right.nd rfl rfl (by decide) rfl rfl (pa_cons (pe_c c__law_wrong hr (by decide) (by rfl) (pa_cons (pv 7) pa_nil)) (pa_cons (pe_lc (own := [("_law_way", 10)]) (g := gName 10) (tt := tYes) rfl sc_right.nd (pi_range1 (by rfl) T.n_range (pa_cons pe_int pa_nil)) (blkOk_by (own := [("_law_way", 10)]) (N := N_right) (sc := defScope s_right) (by decide +kernel)) (fun _ _ _ _ _ => pg_name (i := 10) sc_right.nd rfl (Or.inl rfl)) (fun _ _ _ _ _ => pts_nil) (fun _ _ _ _ _ => (pe_c c__law_told hr (by decide) (by rfl) (pa_cons (pv 10) (pa_cons (pv 7) pa_nil))))) pa_nil)) (by rfl))
    (pss_cons (ps_if (PW.pt (pw_and (pt_cmpR op_notN1 (pv 8) pe_non (nomark _)) (pw_and1 (pt_cmpR (op_neD hr.units) (pv 5) (pe_op op_rep (pe_lst (pa_cons (pe_lst (pa_cons (pv 8) pa_nil)) pa_nil)) pe_int) (nomark _))))) (pss_one (ps_ret pe_bl)) pss_nil)
    (pss_one (ps_if (PW.pt (pw_and (pt_cmpR op_isN1 (pv 8) pe_non (nomark _)) (pw_and1 (PW.pt (pw_or (pt_cmpR (op_neTab hr.units) (pe_ix ix_list (pv 5) pe_int (fun _ _ => rfl)) (pe_ix ix_list (pv 5) pe_int (fun _ _ => rfl)) (nomark _)) (pw_or1 (pt_cmpR op_ne (pe_c c_write_entries hr (by decide) (by rfl) (pa_cons (pe_ix ix_list (pv 5) pe_int (fun _ _ => rfl)) pa_nil)) (pv 7) (nomark _)))))))) (pss_one (ps_ret pe_bl)) pss_nil))))))
    (pss_one (ps_ret pe_bl)))))))))), ?_⟩
    obtain ⟨es, o⟩ := of_ex nd short
    have ol := o.len
    have sl := short_line o.asc (by omega)
    have own : readE (lineL es) = .ok es := by rw [readE_own o.asc, if_pos (by omega)]
    obtain ⟨sw, sz⟩ := tab_show short (by omega)
    have fp := fine_pairs o.asc.short
    have lens := len_line o.asc (by omega)
    have lensS : (S (lineL es)).length ≤ 25000 := by rw [S_len]; exact lens
    obtain ⟨t1, t2, t3⟩ := two_lines lensS lensS (low_line es) (low_line es)
    walk_at "gg"
    refine ⟨d, t, es, rfl, hd, o, by omega, fun H1 S1 => ?_⟩
    have d1 := S1 _ _ hd
    walk_at "gg"
    refine ⟨d, t, rfl, .inl d1, sw, sz, ?_⟩
    walk_at "gg"
    refine ⟨d, t, es, rfl, d1, o, by omega, fun H2 S2 => ?_⟩
    have d2 := S2 _ _ d1
    walk_at "gg"
    refine ⟨d, t, es, rfl, d2, o, by omega, fun H3 S3 => ?_⟩
    have d3 := S3 _ _ d2
    walk_at "gg"
    refine g_mkL (by walk_at "ln") fun p4 H4 n4 S4 e4 => ?_
    walk_at "gg"
    refine ⟨p4, _, rfl, .lst (SqL.of e4) (.cons (.str _) (.cons (.str _) .nil)), t1, t2, t3, ?_⟩
    walk_at "gg"
    refine g_mkL (by walk_at "ln") fun p5 H5 n5 S5 e5 => ?_
    walk_at "gg"
    refine ⟨p5, _, rfl, .lst (SqL.of e5) (.cons (.str _) (.cons (.str _) .nil)), t1, t2, t3, ?_⟩
    walk_at "gg"
    refine g_ifF (by simp) ?_
    have d5 := (S4.trans S5) _ _ d3
    have S05 := (((S1.trans S2).trans S3).trans S4).trans S5
    walk_at "gg"
    refine ⟨d, t, rfl, .inl d5, fun ys l py ly nl => ?_⟩
    rw [o.keys py ly]
    have S6 : Same H5 (upd H5 l (.lst ((keysT es).map V.int))) := same_new nl
    generalize hH6 : upd H5 l (.lst ((keysT es).map V.int)) = H6 at S6 ⊢
    have e6 : H6 l = some (.lst ((keysT es).map V.int)) := by rw [← hH6]; exact upd_same
    have d6 := S6 _ _ d5
    walk_at "gg"
    refine g_exL (SqL.of e6) ?_
    have lk : ((keysT es).map V.int).length = es.length := by unfold keysT; rw [List.length_map, List.length_map]
    refine lc_refs (src_list (SqL.of e6)) (by omega) (fun i l H => ∃ q, es[i]? = some q ∧ H l = some (.tup [.int q.1, .int q.2])) (fun i l D H H' xs e ne b ⟨q, hq, h⟩ => ⟨q, hq, b _ _ ne h⟩) (fun i x H7 Nx hi S7 hx kx => ?_) fun due ls H7 nD S7 e7 ll pp => ?_
    · unfold keysT at hx
      rw [List.getElem?_map, List.getElem?_map] at hx
      cases eq : es[i]? with
      | none =>
        rw [eq] at hx
        cases hx
      | some q =>
        rw [eq] at hx
        obtain rfl := Option.some.inj hx
        have mq := List.mem_of_getElem? eq
        walk_at "gg"
        refine ⟨rfl, ?_⟩
        walk_at "gg"
        refine g_dget ?_
        walk_at "gg"
        refine ⟨d, .int q.2, rfl, ?_, ?_⟩
        · have g := DGet.k (k := .inl q.1) (S7 _ _ d6)
          rw [tab_val, o.val q mq] at g
          exact g
        refine g_mkT (by walk_at "ln") fun tt H8 n8 S8 e8 => ?_
        exact kx tt H8 S8 n8 ⟨q, eq, e8⟩
    · rw [lk] at ll
      have d7 := S7 _ _ d6
      have S07 := (S05.trans S6).trans S7
      have dueD : Dp K H7 (.ref due) (.list (es.map pairD)) := .lst (SqL.of e7) (dp_pairs ll fun i b hb => pp i b hb)
      walk_at "gg"
      refine g_cX ?_
      walk_at "gg"
      refine ⟨d, t, es, rfl, d7, o, by omega, fun H8 S8 => ?_⟩
      walk_at "gg"
      have eqv0 : PyData.eqv (.list (es.map pairD)) (.list (es.map pairD)) = true := eqv_yes (bare_pairs es) (bare_pairs es) rfl
      have shp : SeqAt.shaped (.list (es.map pairD)) = true := fp.shaped (by decide)
      refine ⟨lineL es, rfl, sl.len, sl.low, sl.word, sl.few, fun i ei => (by rw [own] at ei; cases ei), fun t2 et T1 H9 nT S9 eT => ?_⟩
      rw [own] at et
      obtain rfl : es = t2 := Except.ok.inj et
      have S79 := S8.trans S9
      have d9 := S79 _ _ d7
      have due9 := dp_same S79 _ _ dueD
      walk_at "gg"
      refine ⟨.inr (.inr (.inl ⟨rfl, .inl ⟨_, eT⟩⟩)), ?_⟩
      refine ⟨T1, es, rfl, rfl, eT, fun vw nvw => ?_⟩
      have S10 : Same H9 (upd H9 vw (L2.DX.itemsO vw T1)) := same_new nvw
      generalize hH10 : upd H9 vw (L2.DX.itemsO vw T1) = H10 at S10 ⊢
      have e10 : H10 vw = some (L2.DX.itemsO vw T1) := by rw [← hH10]; exact upd_same
      walk_at "gg"
      refine ⟨vw, T1, es, rfl, e10, S10 _ _ eT, fun li ts H11 n11 S11 e11 l11 each => ?_⟩
      walk_at "gg"
      have S911 := S10.trans S11
      refine g_neD (.lst (SqL.of e11) (dp_pairs l11 each)) (dp_same S911 _ _ due9) shp shp ?_
      rw [eqv0]
      walk_at "gg"
      refine g_ifF rfl ?_
      walk_at "gg"
      have d11 := S911 _ _ d9
      refine ⟨d, t, rfl, .inl d11, sw, sz, ?_⟩
      walk_at "gg"
      rw [decide_eq_true rfl]
      refine g_ifF rfl ?_
      walk_at "gg"
      have eT11 := S911 _ _ eT
      refine ⟨.inr (.inr (.inl ⟨rfl, .inl ⟨_, eT11⟩⟩)), ?_⟩
      refine ⟨T1, _, rfl, rfl, eT11, ?_⟩
      have S711 := S79.trans S911
      have nT7 : H7 T1 = none := same_free S8 nT
      have S712 : Same H7 (upd H11 T1 (.dK [])) := same_mut S711 nT7
      generalize upd H11 T1 (.dK []) = H12 at S712 ⊢
      have d12 := S712 _ _ d7
      have due12 := dp_same S712 _ _ dueD
      walk_at "gg"
      refine g_cX ?_
      walk_at "gg"
      refine ⟨d, t, es, rfl, d12, o, by omega, fun H13 S13 => ?_⟩
      walk_at "gg"
      refine ⟨lineL es, rfl, sl.len, sl.low, sl.word, sl.few, fun i ei => (by rw [own] at ei; cases ei), fun t2 et T2 H14 nT2 S14 eT2 => ?_⟩
      rw [own] at et
      obtain rfl : es = t2 := Except.ok.inj et
      walk_at "gg"
      refine ⟨.inr (.inr (.inl ⟨rfl, .inl ⟨_, eT2⟩⟩)), ?_⟩
      refine ⟨T2, es, rfl, rfl, eT2, fun vw2 nvw2 => ?_⟩
      have S15 : Same H14 (upd H14 vw2 (L2.DX.itemsO vw2 T2)) := same_new nvw2
      generalize hH15 : upd H14 vw2 (L2.DX.itemsO vw2 T2) = H15 at S15 ⊢
      have e15 : H15 vw2 = some (L2.DX.itemsO vw2 T2) := by rw [← hH15]; exact upd_same
      walk_at "gg"
      refine ⟨vw2, T2, es, rfl, e15, S15 _ _ eT2, fun li2 ts2 H16 n16 S16 e16 l16 each2 => ?_⟩
      walk_at "gg"
      have S1216 := (S13.trans S14).trans (S15.trans S16)
      refine g_neD (.lst (SqL.of e16) (dp_pairs l16 each2)) (dp_same S1216 _ _ due12) shp shp ?_
      rw [eqv0]
      walk_at "gg"
      refine g_ifF rfl ?_
      walk_at "gg"
      have S016 := S07.trans (S712.trans S1216)
      refine fw_range (fun i σ H' => ∃ (c1 : Nat) (v5 v6 v7 v8 v9 v10 : Option V), σ = [some (.ref f), some (.ref d), some (.str (S (lineL es))), some (.str (tabD t).shown), some (.ref due), v5, v6, v7, v8, v9, v10] ∧ c1 ≤ c + 20 * i ∧ Flask c1 H' f ∧ SmV H H')
        ⟨c, _, none, none, none, none, none, rfl, by omega, F0.same S016, Same.smv S016⟩ ?_ ?_
      · rintro i σ G1 hi ⟨c1, v5, v6, v7, v8, v9, v10, rfl, hc1, F1, sm1⟩
        generalize V.int (0 + (i : Int)) = lap
        walk_at "gg"
        refine ⟨_, rfl, by rw [S_len]; exact Nat.le_trans lens (by decide), ?_⟩
        rw [show (3900 : Int) = ((3900 : Nat) : Int) from rfl, cutS_to]
        walk_at "gg"
        refine ⟨f, c1, (lineL es).take 3900, rfl, F1, by omega, by rw [List.length_take]; omega, fun z hz => low_line es z (List.mem_of_mem_take hz), fun b c2 G2 lb lowb sm2 hc2 F2 => ?_⟩
        have shb := short_of lb lowb
        walk_at "gg"
        refine ⟨b, rfl, shb, fun G3 R3 => ?_⟩
        walk_at "gg"
        refine lc_refs (n := 2) (item := fun i x _ => x = .int (0 + (i : Int))) src_rng (by decide) (fun _ l H => toldAt (readE b) l H) (fun i l D H H' xs e nd bu h => told_but nd bu h) (fun i x H' Nx hi s hx kx => ?_) fun D2 ls G4 nD2 R4 e4 ll pp => ?_
        · subst hx
          walk_at "gg"
          refine ⟨rfl, ?_⟩
          walk_at "gg"
          refine ⟨_, b, rfl, shb, fun i ei l H'' nl s2 el => ?_, fun t2 et l H'' nl s2 el => ?_⟩
          · refine kx l H'' s2 nl ?_
            rw [ei]
            exact el
          · refine kx l H'' s2 nl ?_
            rw [et]
            exact el
        · have F4 := F2.same (R3.trans R4)
          have sm4 := (sm1.trans sm2).trans (Same.smv (R3.trans R4))
          match ls, ll with
          | [x1, x2], _ =>
          have d1 := pp 0 x1 rfl
          have d2 := pp 1 x2 rfl
          walk_at "gg"
          cases rb : readE b with
          | error pl =>
            rw [rb] at d1 d2
            have q1 : Dp K G4 (.ref x1) (.list [.int (pl : Int)]) := .lst (SqL.of d1) (.cons (.int _) .nil)
            have q2 : Dp K G4 (.ref x2) (.list [.int (pl : Int)]) := .lst (SqL.of d2) (.cons (.int _) .nil)
            show if true = true then _ else _
            refine g_ifT rfl ?_
            walk_at "gg"
            refine g_mkL (by walk_at "ln") fun p16 H16 n16 S16 e16 => ?_
            walk_at "gg"
            refine g_mkL (by walk_at "ln") fun p17 H17 n17 S17 e17 => ?_
            walk_at "gg"
            refine ⟨p17, 2, _, rfl, rfl, e17, by decide, by decide, (by show 1 * 2 ≤ sizeLine; decide), fun p18 n18 => ?_⟩
            have S18 := same_new (o := .lst (List.replicate (2 : Int).toNat [V.ref p16]).flatten) n18
            have e18 : upd H17 p18 (.lst (List.replicate (2 : Int).toNat [V.ref p16]).flatten) p18 = some (.lst [V.ref p16, V.ref p16]) := upd_same
            generalize upd H17 p18 (.lst (List.replicate (2 : Int).toNat [V.ref p16]).flatten) = H18 at S18 e18
            have S68 := S17.trans S18
            have S58 := S16.trans S68
            have dp : Dp K H18 (.ref p16) (.list [.int (pl : Int)]) := .lst (SqL.of (S68 _ _ e16)) (.cons (.int _) .nil)
            have shl : SeqAt.shaped (.list [.list [.int (pl : Int)], .list [.int (pl : Int)]]) = true := by simp [SeqAt.shaped, PyData.canLay0, PyData.canLayAll0, PyData.depth, PyData.depthAll]
            refine g_neD (.lst (SqL.of (S58 _ _ e4)) (.cons (dp_same S58 _ _ q1) (.cons (dp_same S58 _ _ q2) .nil))) (.lst (SqL.of e18) (.cons dp (.cons dp .nil))) shl shl ?_
            rw [eqv_yes (by simp [bare, bareAll]) (by simp [bare, bareAll]) rfl]
            walk_at "gg"
            refine g_ifF rfl ?_
            walk_at "gg"
            refine g_ifF rfl ?_
            refine g_ifF rfl ?_
            walk_at "gg"
            exact ⟨c2, _, _, _, _, _, _, rfl, by omega, F4.same S58, sm4.trans (Same.smv S58)⟩
          | ok t2 =>
            rw [rb] at d1 d2
            obtain ⟨bt, asc2, bl⟩ := readE_back rb
            have o2 := Of.self asc2
            have nd2 : (keysT t2).Nodup := List.Pairwise.imp (fun h => Int.ne_of_lt h) (keys_asc asc2.asc)
            show if false = true then _ else _
            refine g_ifF rfl ?_
            refine g_ifF rfl ?_
            walk_at "gg"
            show if true = true then _ else _
            refine g_ifT rfl ?_
            walk_at "gg"
            refine g_ixL (SqL.of e4) rfl ?_
            walk_at "gg"
            refine g_ixL (SqL.of e4) rfl ?_
            refine ⟨x1, x2, t2, t2, rfl, rfl, .inl d1, .inl d2, ?_⟩
            rw [like_self nd2]
            walk_at "gg"
            refine g_ifF rfl ?_
            walk_at "gg"
            refine g_ixL (SqL.of e4) rfl ?_
            walk_at "gg"
            refine ⟨x1, t2, t2, rfl, d1, o2, by omega, fun G5 R5 => ?_⟩
            walk_at "gg"
            rw [bt, decide_eq_true rfl]
            refine g_ifF rfl ?_
            walk_at "gg"
            exact ⟨c2, _, _, _, _, _, _, rfl, by omega, F4.same R5, sm4.trans (Same.smv R5)⟩
      · rintro σ G1 ⟨c1, v5, v6, v7, v8, v9, v10, rfl, hc1, F1, sm1⟩
        walk_at "gg"
        have hc4 : c1 ≤ c + 20 * 4 := hc1
        exact k c1 G1 sm1 (by omega) F1
end
end Gk

namespace Gk
open PySem L2 Gx SX TL
open C8 (Cal Met Mak pe_c pe_mt pe_mt0 pe_mk pe_gc)
local macro_rules | `(tactic| walk_at "g") => `(tactic| (first
  | with_reducible refine g_seq ?_ | with_reducible refine g_asg ?_ | ((with_reducible show tVar _ _ _ _); refine g_var rfl ?_) | with_reducible refine g_c ?_ | with_reducible refine g_name ?_ | with_reducible refine g_op ?_ | with_reducible refine g_I0 ?_
  | with_reducible refine g_cons ?_ | with_reducible refine g_nil ?_ | with_reducible refine g_exbl ?_ | with_reducible refine g_exint ?_ | with_reducible refine g_test ?_ | with_reducible refine g_B ?_ | with_reducible refine g_ifS ?_ | with_reducible refine g_ret ?_ | with_reducible refine g_retN ?_ | with_reducible refine g_next ?_
  | with_reducible refine g_CB ?_ | with_reducible refine g_sub ?_ | with_reducible refine g_drop ?_ | with_reducible refine g_not ?_ | with_reducible refine g_and ?_ | with_reducible refine g_or ?_ | with_reducible refine g_andV ?_ | with_reducible refine g_orV ?_ | with_reducible refine g_notV ?_ | with_reducible refine g_ifE ?_ | with_reducible refine g_isN ?_
  | with_reducible refine g_par ?_ | with_reducible refine g_expar ?_ | with_reducible refine g_chain ?_ | with_reducible refine g_un ?_ | with_reducible refine g_U ?_ | with_reducible refine g_bits ?_ | ((with_reducible show rEq _ _ _ _); refine g_eq rfl ?_) | ((with_reducible show rNe _ _ _ _); refine g_ne rfl ?_)
  | with_reducible refine g_for ?_ | with_reducible refine g_iRng1 ?_ | with_reducible refine g_iRng2 ?_ | with_reducible refine g_iList ?_ | with_reducible refine g_iTup ?_
  | ((with_reducible refine g_Imul ?hc ?_); (case hc => (first | (refine Or.inl ⟨?_, ?_⟩ <;> first | decide | omega) | (refine Or.inr ⟨?_, ?_⟩ <;> first | decide | omega))))
  | ((with_reducible refine g_Idiv ?hc ?_); (case hc => (first | (exact ⟨by decide, by decide⟩) | assumption)))
  | ((with_reducible refine g_Imod ?hc ?_); (case hc => (first | assumption | omega | decide)))
  | ((with_reducible refine g_exR1 ?hlo ?hhi ?_); (case hlo => omega); (case hhi => omega))
  | ((with_reducible refine g_exR2 ?hb ?_); (case hb => omega))
  | with_reducible refine g_lst ?_ | with_reducible refine g_tup ?_ | with_reducible refine g_call ?_ | with_reducible refine g_BM ?_ | with_reducible refine g_BM0 ?_
  | with_reducible refine g_intB ?_ | with_reducible refine g_lc ?_ | with_reducible refine g_yes ?_ | with_reducible refine g_iZip ?_ | with_reducible refine g_sl ?_ | with_reducible refine g_noP ?_ | with_reducible refine g_part ?_ | with_reducible refine g_gcons ?_ | with_reducible refine g_gnil ?_
  | with_reducible refine g_tfld ?_ | with_reducible refine g_tmeth ?_ | with_reducible refine g_tmake ?_ | with_reducible refine g_sfld ?_ | with_reducible refine g_tprop ?_ | with_reducible refine g_tstar ?_ | with_reducible refine g_tmethK ?_ | with_reducible refine g_isN1 ?_ | with_reducible refine g_notN1 ?_ | with_reducible refine g_callK0 ?_ | with_reducible refine g_m1 ?_ | with_reducible refine g_isstr ?_ | with_reducible refine g_iStr ?_ | with_reducible refine g_exS ?_ | with_reducible refine g_iEnum ?_))
local macro_rules | `(tactic| walk_at "gs1") => `(tactic| (first
  | with_reducible refine g_seq ?_ | with_reducible refine g_asg ?_ | ((with_reducible show tVar _ _ _ _); refine g_var rfl ?_) | with_reducible refine g_c ?_ | with_reducible refine g_name ?_ | with_reducible refine g_op ?_ | with_reducible refine g_I0 ?_
  | with_reducible refine g_cons ?_ | with_reducible refine g_nil ?_ | with_reducible refine g_exbl ?_ | with_reducible refine g_exint ?_ | with_reducible refine g_test ?_ | with_reducible refine g_B ?_ | with_reducible refine g_ifS ?_ | with_reducible refine g_retN ?_ | with_reducible refine g_next ?_
  | with_reducible refine g_CB ?_ | with_reducible refine g_sub ?_ | with_reducible refine g_drop ?_ | with_reducible refine g_not ?_ | with_reducible refine g_and ?_ | with_reducible refine g_or ?_ | with_reducible refine g_andV ?_ | with_reducible refine g_orV ?_ | with_reducible refine g_notV ?_ | with_reducible refine g_ifE ?_ | with_reducible refine g_isN ?_
  | with_reducible refine g_par ?_ | with_reducible refine g_expar ?_ | with_reducible refine g_chain ?_ | with_reducible refine g_un ?_ | with_reducible refine g_U ?_ | with_reducible refine g_bits ?_ | ((with_reducible show rEq _ _ _ _); refine g_eq rfl ?_) | ((with_reducible show rNe _ _ _ _); refine g_ne rfl ?_)
  | with_reducible refine g_for ?_ | with_reducible refine g_iRng1 ?_ | with_reducible refine g_iRng2 ?_ | with_reducible refine g_iList ?_ | with_reducible refine g_iTup ?_
  | ((with_reducible refine g_Imul ?hc ?_); (case hc => (first | (refine Or.inl ⟨?_, ?_⟩ <;> first | decide | omega) | (refine Or.inr ⟨?_, ?_⟩ <;> first | decide | omega))))
  | ((with_reducible refine g_Idiv ?hc ?_); (case hc => (first | (exact ⟨by decide, by decide⟩) | assumption)))
  | ((with_reducible refine g_Imod ?hc ?_); (case hc => (first | assumption | omega | decide)))
  | ((with_reducible refine g_exR1 ?hlo ?hhi ?_); (case hlo => omega); (case hhi => omega))
  | ((with_reducible refine g_exR2 ?hb ?_); (case hb => omega))
  | with_reducible refine g_lst ?_ | with_reducible refine g_tup ?_ | with_reducible refine g_call ?_ | with_reducible refine g_BM ?_ | with_reducible refine g_BM0 ?_
  | with_reducible refine g_intB ?_ | with_reducible refine g_lc ?_ | with_reducible refine g_yes ?_ | with_reducible refine g_iZip ?_ | with_reducible refine g_sl ?_ | with_reducible refine g_noP ?_ | with_reducible refine g_part ?_ | with_reducible refine g_gcons ?_ | with_reducible refine g_gnil ?_
  | with_reducible refine g_tfld ?_ | with_reducible refine g_tmeth ?_ | with_reducible refine g_tmake ?_ | with_reducible refine g_sfld ?_ | with_reducible refine g_tprop ?_ | with_reducible refine g_tstar ?_ | with_reducible refine g_tmethK ?_ | with_reducible refine g_isN1 ?_ | with_reducible refine g_notN1 ?_ | with_reducible refine g_callK0 ?_ | with_reducible refine g_m1 ?_ | with_reducible refine g_isstr ?_ | with_reducible refine g_iStr ?_ | with_reducible refine g_exS ?_ | with_reducible refine g_iEnum ?_))
local macro_rules | `(tactic| walk_at "gx1") => `(tactic| (first
  | with_reducible refine g_seq ?_ | with_reducible refine g_asg ?_ | ((with_reducible show tVar _ _ _ _); refine g_var rfl ?_) | with_reducible refine g_c ?_ | with_reducible refine g_name ?_ | with_reducible refine g_op ?_ | with_reducible refine g_I0 ?_
  | with_reducible refine g_cons ?_ | with_reducible refine g_nil ?_ | with_reducible refine g_exbl ?_ | with_reducible refine g_exint ?_ | with_reducible refine g_test ?_ | with_reducible refine g_B ?_ | with_reducible refine g_ifS ?_ | with_reducible refine g_retN ?_ | with_reducible refine g_next ?_
  | with_reducible refine g_CB ?_ | with_reducible refine g_sub ?_ | with_reducible refine g_drop ?_ | with_reducible refine g_not ?_ | with_reducible refine g_and ?_ | with_reducible refine g_or ?_ | with_reducible refine g_andV ?_ | with_reducible refine g_orV ?_ | with_reducible refine g_notV ?_ | with_reducible refine g_ret ?_ | with_reducible refine g_isN ?_
  | with_reducible refine g_par ?_ | with_reducible refine g_expar ?_ | with_reducible refine g_chain ?_ | with_reducible refine g_un ?_ | with_reducible refine g_U ?_ | with_reducible refine g_bits ?_ | ((with_reducible show rEq _ _ _ _); refine g_eq rfl ?_) | ((with_reducible show rNe _ _ _ _); refine g_ne rfl ?_)
  | with_reducible refine g_for ?_ | with_reducible refine g_iRng1 ?_ | with_reducible refine g_iRng2 ?_ | with_reducible refine g_iList ?_ | with_reducible refine g_iTup ?_
  | ((with_reducible refine g_Imul ?hc ?_); (case hc => (first | (refine Or.inl ⟨?_, ?_⟩ <;> first | decide | omega) | (refine Or.inr ⟨?_, ?_⟩ <;> first | decide | omega))))
  | ((with_reducible refine g_Idiv ?hc ?_); (case hc => (first | (exact ⟨by decide, by decide⟩) | assumption)))
  | ((with_reducible refine g_Imod ?hc ?_); (case hc => (first | assumption | omega | decide)))
  | ((with_reducible refine g_exR1 ?hlo ?hhi ?_); (case hlo => omega); (case hhi => omega))
  | ((with_reducible refine g_exR2 ?hb ?_); (case hb => omega))
  | with_reducible refine g_lst ?_ | with_reducible refine g_tup ?_ | with_reducible refine g_call ?_ | with_reducible refine g_BM ?_ | with_reducible refine g_BM0 ?_
  | with_reducible refine g_intB ?_ | with_reducible refine g_lc ?_ | with_reducible refine g_yes ?_ | with_reducible refine g_iZip ?_ | with_reducible refine g_sl ?_ | with_reducible refine g_noP ?_ | with_reducible refine g_part ?_ | with_reducible refine g_gcons ?_ | with_reducible refine g_gnil ?_
  | with_reducible refine g_tfld ?_ | with_reducible refine g_tmeth ?_ | with_reducible refine g_tmake ?_ | with_reducible refine g_sfld ?_ | with_reducible refine g_tprop ?_ | with_reducible refine g_tstar ?_ | with_reducible refine g_tmethK ?_ | with_reducible refine g_isN1 ?_ | with_reducible refine g_notN1 ?_ | with_reducible refine g_callK0 ?_ | with_reducible refine g_m1 ?_ | with_reducible refine g_isstr ?_ | with_reducible refine g_iStr ?_ | with_reducible refine g_exS ?_ | with_reducible refine g_iEnum ?_))
local macro_rules | `(tactic| walk_at "hp") => `(tactic| (first | assumption | exact upd_same | (refine same_get (by assumption) ?_; walk_at "hp")))
local macro_rules | `(tactic| walk_at "sm") => `(tactic| (first | assumption | exact Same.refl _ | (refine Same.trans ?ha (by assumption); walk_at "sm")))
local macro_rules | `(tactic| walk_at "nn") => `(tactic| (first | assumption | (refine same_free (by assumption) ?_; walk_at "nn")))
local macro_rules | `(tactic| walk_at "sb") => `(tactic| (first | decide | (refine small_bits ?_ ?_ <;> omega)))
local macro_rules | `(tactic| walk_at "ln") => `(tactic| (simp only [List.length_cons, List.length_nil]; omega))
local macro_rules | `(tactic| walk_at "gg") => `(tactic| (repeat walk_at "g"))
local macro_rules | `(tactic| walk_at "gs") => `(tactic| (repeat walk_at "gs1"))
local macro_rules | `(tactic| walk_at "gx") => `(tactic| (repeat walk_at "gx1"))

section
variable {P : Program} {w : World} {K : PySem.W.Frag} {mg : Str → Option Value} {base : Heap} {X : Cx} {C : Addr}
def tab201 : Tab := (List.range 201).map fun (i : Nat) => (Int.ofNat i, (0 : Int))
theorem asc201 : AscT tab201 := by
  refine ⟨?_, fun p hp => ?_⟩
  · unfold tab201
    rw [List.pairwise_map]
    exact List.pairwise_lt_range.imp fun {a b} h => Int.ofNat_lt.mpr h
  · obtain ⟨i, hi, rfl⟩ := List.mem_map.mp hp
    have := List.mem_range.mp hi
    unfold In60
    refine ⟨?_, (by show (0 : Int).natAbs < _; decide)⟩
    show (Int.ofNat i).natAbs < _
    have : (Int.ofNat i).natAbs = i := rfl
    omega
theorem len201 : tab201.length = 201 := by
  unfold tab201
  rw [List.length_map, List.length_range]
theorem merge_tab : ∀ (t pre : Tab), (keysT (pre ++ t)).Nodup → mergeK (tabK pre) (tabK t) = tabK (pre ++ t)
  | [], pre, _ => by rw [List.append_nil]; rfl
  | q :: t, pre, nd => by
    have e : mergeK (tabK pre) (tabK (q :: t)) = mergeK (putK (tabK pre) (.inl q.1) (.int q.2)) (tabK t) := rfl
    have e2 : pre ++ q :: t = (pre ++ [q]) ++ t := by simp
    have np : putT pre q.1 q.2 = pre ++ [q] := by
      unfold putT
      rw [if_neg]
      intro z
      obtain ⟨p, hp, ep⟩ := List.any_eq_true.mp z
      have ep := of_decide_eq_true ep
      unfold keysT at nd
      rw [List.map_append, List.map_cons] at nd
      have := (List.nodup_append.mp nd).2.2 p.1 (List.mem_map.mpr ⟨p, hp, rfl⟩) q.1 List.mem_cons_self
      exact this ep
    rw [e, tab_put, np, e2]
    exact merge_tab t (pre ++ [q]) (by rw [← e2]; exact nd)
theorem put_keys {t : Tab} {k v : Int} (nd : (keysT t).Nodup) : (keysT (putT t k v)).Nodup := by
  unfold putT
  split
  · have e : keysT (t.map fun p => if p.1 = k then (p.1, v) else p) = keysT t := by
      unfold keysT
      rw [List.map_map]
      refine List.map_congr_left fun p _ => ?_
      show (if p.1 = k then (p.1, v) else p).1 = p.1
      split <;> rfl
    rw [e]
    exact nd
  · rename_i h
    unfold keysT at nd ⊢
    rw [List.map_append, List.map_cons, List.map_nil]
    refine List.nodup_append.mpr ⟨nd, List.nodup_cons.mpr ⟨by simp, List.nodup_nil⟩, fun a ha b hb => ?_⟩
    rw [List.mem_singleton.mp hb]
    intro z
    obtain ⟨p, hp, e⟩ := List.mem_map.mp ha
    refine h (List.any_eq_true.mpr ⟨p, hp, decide_eq_true ?_⟩)
    exact e.trans z
theorem put_short {t : Tab} {k v : Int} (h : ∀ p ∈ t, In60 p.1 ∧ In60 p.2) (hk : In60 k) (hv : In60 v) : ∀ p ∈ putT t k v, In60 p.1 ∧ In60 p.2 := by
  unfold putT
  split
  · intro p hp
    obtain ⟨q, hq, e⟩ := List.mem_map.mp hp
    obtain ⟨h1, h2⟩ := h q hq
    subst e
    split
    · exact ⟨h1, hv⟩
    · exact ⟨h1, h2⟩
  · intro p hp
    rcases List.mem_append.mp hp with z | z
    · exact h p z
    · rw [List.mem_singleton.mp z]
      exact ⟨hk, hv⟩
theorem put_len (t : Tab) (k v : Int) : (putT t k v).length ≤ t.length + 1 := by
  unfold putT
  split
  · rw [List.length_map]
    exact Nat.le_succ _
  · rw [List.length_append]
    exact Nat.le_refl _
/-- the texts asked at the end, and what is told of them -/
def lastP : List (List Nat) := [lineL tab201, tl "", tl "- 1=1", tl "1=1 1=2"]
def errE (r : Except Nat Tab) : Option Nat := match r with
  | .error i => some i
  | .ok _ => none
def okE (r : Except Nat Tab) : Option Tab := match r with
  | .error _ => none
  | .ok t => some t
theorem short_lit {x : Str} (h : (decide ((tl x).length ≤ 4000) && (tl x).all (fun c => decide (c < 128))) = true) : Short (tl x) := by
  rw [Bool.and_eq_true, decide_eq_true_eq, List.all_eq_true] at h
  exact short_of h.1 fun c hc => of_decide_eq_true (h.2 c hc)
theorem lastP_ok : ∀ a ∈ lastP, Short a := by
  intro a ha
  simp only [lastP, List.mem_cons, List.not_mem_nil, or_false] at ha
  rcases ha with rfl | rfl | rfl | rfl
  · exact short_line asc201 (by rw [len201]; exact Nat.le_refl _)
  · exact short_lit (by decide +kernel)
  · exact short_lit (by decide +kernel)
  · exact short_lit (by decide +kernel)
theorem lastP_told : lastP.map (fun a => errE (readE a)) = [some 200, some 0, some 1, some 1] := by
  have e0 : errE (readE (lineL tab201)) = some 200 := by
    rw [readE_own asc201, if_neg (by rw [len201]; decide)]
    rfl
  have e1 : errE (readE (tl "")) = some 0 := by decide +kernel
  have e2 : errE (readE (tl "- 1=1")) = some 1 := by decide +kernel
  have e3 : errE (readE (tl "1=1 1=2")) = some 1 := by decide +kernel
  unfold lastP
  rw [List.map_cons, List.map_cons, List.map_cons, List.map_cons, List.map_nil, e0, e1, e2, e3]
theorem ok_lit {x : Str} {t : Tab} (h : okE (readE (tl x)) = some t) : readE (tl x) = .ok t := by
  cases e : readE (tl x) with
  | error i => rw [e] at h; cases h
  | ok u =>
    rw [e] at h
    rw [Option.some.inj h]
def spLaw81 (K : PySem.W.Frag) : Sp := fun vs H Q _ => ∃ (a : Addr) (ns : List Int), vs = [.ref a] ∧ SqL K H a (ns.map V.int) ∧ ns.length ≤ 1000 ∧ ∀ H', Q (.bl true) H'
abbrev s_law : Stmt := top 23
abbrev N_law : List Str := ["_law_script", "_law_flask_here", "_law_lap", "_law_table_here", "_law_turn", "_law_pages", "_law_spot", "_law_page"]
theorem sc_law : FnScope N_law ["_law_script"] (defScope s_law) := ⟨rfl, rfl, rfl, by decide +kernel, rfl, by decide +kernel, by decide +kernel⟩

theorem ok_law {f : Addr} {fd : FuncData} (D : Dn K mg "law" s_law ["_law_script"] f fd) (T : Bt mg) (c__law_flask : Cal P w K mg base 1 "_law_flask" (spFlask K) []) (c__law_drip : Cal P w K mg base 1 "_law_drip" spDrip []) (c__law_amount : Cal P w K mg base 2 "_law_amount" spAmount [])
    (c__law_right : CalG P w K mg base 5 "_law_right" spRight81) (c__law_line : Cal P w K mg base 2 "_law_line" spWriteE []) (c__law_told : Cal P w K mg base 4 "_law_told" spToldE []) (c_read_entries : CalX P w K mg base 3 "read_entries" (spReadE C)) : FnG P w K mg base 6 f fd ["_law_script"] (spLaw81 K) := by
  refine fnG_of D.fn sc_law (fun vs H Q E h => ?_) (fun cdv A outer s H vs Q E gd hr h => ?_)
  · obtain ⟨a, ns, rfl, _⟩ := h
    rfl
  · obtain ⟨a, ns, rfl, ha, hl, k⟩ := h
    have hu := hu_of hr
    refine ⟨_, (pss_cons (ps_set (i := 1) sc_law.nd rfl (Or.inl rfl) (pe_c c__law_flask hr (by decide) (by rfl) (pa_cons (pv 0) pa_nil)))
    (pss_cons (ps_for PassesOwn.never rfl (pi_range1 (by rfl) T.n_range (pa_cons (pe_op op_add pe_int (pe_op op_mul pe_int (pe_callB (cr_minQ rfl) (by rfl) T.n_min bt_min (pa_cons (pe_callB cr_lenQ (by rfl) T.n_len bt_len (pa_cons (pv 0) pa_nil)) (pa_cons pe_int pa_nil))))) pa_nil)) (pg_name (i := 2) sc_law.nd rfl (Or.inl rfl)) (pss_cons (ps_set (i := 3) sc_law.nd rfl (Or.inl rfl) pe_dnewK)
    (pss_cons (ps_for PassesOwn.never rfl (pi_range1 (by rfl) T.n_range (pa_cons (pe_c c__law_drip hr (by decide) (by rfl) (pa_cons (pv 1) (pa_cons (pe_ix ix_list (pe_lst (pa_cons pe_int (pa_cons pe_int pa_nil))) (pe_callB (cr_minQ rfl) (by rfl) T.n_min bt_min (pa_cons (pv 2) (pa_cons pe_int pa_nil))) (fun _ _ => rfl)) pa_nil))) pa_nil)) (pg_name (i := 4) sc_law.nd rfl (Or.inl rfl)) (pss_one (ps_dput hu (pv 3) (pe_c c__law_amount hr (by decide) (by rfl) (pa_cons (pv 1) (pa_cons pe_int pa_nil))) (pe_c c__law_amount hr (by decide) (by rfl) (pa_cons (pv 1) (pa_cons pe_int pa_nil))) (by rfl))))
    (pss_one (ps_if (pt_not (pt_val (pe_cG c__law_right gd hr (by decide) (by rfl) (pa_cons (pv 1) (pa_cons (pv 3) pa_nil))))) (pss_one (ps_ret pe_bl)) pss_nil)))))
    (pss_cons (ps_set (i := 5) sc_law.nd rfl (Or.inl rfl) (pe_lst (pa_cons (pe_c c__law_line hr (by decide) (by rfl) (pa_cons (pe_callTy (call_dictP rfl) (by rfl) T.n_dict bt_dict (pa_cons (pe_lc (own := [("_law_spot", 6)]) (g := gName 6) (tt := tYes) rfl sc_law.nd (pi_range1 (by rfl) T.n_range (pa_cons pe_int pa_nil)) (blkOk_by (own := [("_law_spot", 6)]) (N := N_law) (sc := defScope s_law) (by decide +kernel)) (fun _ _ _ _ _ => pg_name (i := 6) sc_law.nd rfl (Or.inl rfl)) (fun _ _ _ _ _ => pts_nil) (fun _ _ _ _ _ => (pe_tup (pa_cons (pv 6) (pa_cons pe_int pa_nil))))) pa_nil)) pa_nil)) (pa_cons pe_str (pa_cons pe_str (pa_cons pe_str pa_nil))))))
    (pss_cons (ps_if (pt_cmpR (op_neD hr.units) (pe_lc (own := [("_law_page", 7)]) (g := gName 7) (tt := tYes) rfl sc_law.nd (pi_list (pv 5)) (blkOk_by (own := [("_law_page", 7)]) (N := N_law) (sc := defScope s_law) (by decide +kernel)) (fun _ _ _ _ _ => pg_name (i := 7) sc_law.nd rfl (Or.inl rfl)) (fun _ _ _ _ _ => pts_nil) (fun _ _ _ _ _ => (pe_c c__law_told hr (by decide) (by rfl) (pa_cons pe_int (pa_cons (pv 7) pa_nil))))) (pe_lst (pa_cons (pe_lst (pa_cons pe_int pa_nil)) (pa_cons (pe_lst (pa_cons pe_int pa_nil)) (pa_cons (pe_lst (pa_cons pe_int pa_nil)) (pa_cons (pe_lst (pa_cons pe_int pa_nil)) pa_nil))))) (nomark _)) (pss_one (ps_ret pe_bl)) pss_nil)
    (pss_one (ps_ret (pe_and (pe_cmpR (op_eqTab hr.units) (pe_cX (E := fun _ _ _ _ => False) c_read_entries hr (by decide) (by rfl) pass_no (pa_cons pe_str pa_nil)) pe_dnewK (nomark _)) (pe_one (pe_cmpR (op_eqTab hr.units) (pe_cX (E := fun _ _ _ _ => False) c_read_entries hr (by decide) (by rfl) pass_no (pa_cons pe_str pa_nil)) (pe_disp (pps_cons (pe_un un_neg pe_int) pe_int (pps_cons pe_int (pe_un un_neg pe_int) pps_nil)) (by rfl) (by rfl) (fun z => by cases z) (by decide)) (nomark _)))))))))), ?_⟩
    walk_at "gg"
    refine ⟨a, ns, rfl, ha, hl, fun f H1 nf S1 F1 => ?_⟩
    walk_at "gg"
    refine g_len (same_sq S1 ha) ?_
    walk_at "gg"
    refine g_min2 fun m _ m3 _ => ?_
    walk_at "gg"
    refine fw_range (fun i σ H' => ∃ (c : Nat) (v2 v3 v4 v5 v6 v7 : Option V), σ = [some (.ref a), some (.ref f), v2, v3, v4, v5, v6, v7] ∧ c ≤ 1000 * i ∧ Flask c H' f) ⟨0, none, none, none, none, none, none, rfl, Nat.le_refl _, F1⟩ ?_ ?_
    · rintro i σ H1 hi ⟨c, v2, v3, v4, v5, v6, v7, rfl, hc, F1⟩
      have i13 : i < 13 := by omega
      walk_at "gg"
      refine fun d nd => ?_
      have S2 : Same H1 (upd H1 d (.dK [])) := same_new nd
      generalize hH2 : upd H1 d (.dK []) = H2 at S2 ⊢
      have e2 : H2 d = some (.dK (tabK [])) := by rw [← hH2]; exact upd_same
      have F2 := F1.same S2
      walk_at "gg"
      refine g_mkL (by walk_at "ln") fun l3 H3 n3 S3 e3 => ?_
      walk_at "gg"
      refine g_min2 fun mm h1 h2 h3 => ?_
      have m0 : 0 ≤ mm := by omega
      have m1 : mm < 2 := by omega
      refine g_ixP (fun v => ∃ z : Int, v = .int z ∧ 0 < z ∧ z ≤ 200) e3 m0 (by simpa using m1) (all_cons ⟨200, rfl, by decide, by decide⟩ (all_cons ⟨9, rfl, by decide, by decide⟩ all_nil)) ?_
      rintro _ ⟨z, rfl, z0, z200⟩
      walk_at "gg"
      refine g_drip (F2.same S3) (by omega) z0 (by walk_at "sb") fun n H4 n0 nz sm4 F4 => ?_
      walk_at "gg"
      have d3 := S3 _ _ e2
      have d4 : H4 d = some (.dK (tabK [])) := sm4 _ _ rfl d3
      refine fw_range (fun j σ H' => ∃ (c1 : Nat) (t : Tab) (w4 : Option V), σ = [some (.ref a), some (.ref f), some (.int (0 + (i : Int))), some (.ref d), w4, v5, v6, v7] ∧ c1 ≤ c + 1 + 4 * j ∧ Flask c1 H' f ∧ H' d = some (.dK (tabK t)) ∧ (keysT t).Nodup ∧ (∀ p ∈ t, In60 p.1 ∧ In60 p.2) ∧ t.length ≤ j)
        ⟨c + 1, [], v4, rfl, by omega, F4, d4, List.nodup_nil, nofun, Nat.zero_le _⟩ ?_ ?_
      · rintro j σ H5 hj ⟨c1, t, w4, rfl, hc1, F5, d5, ndt, sht, lt⟩
        have j200 : j < 200 := by omega
        walk_at "gg"
        with_reducible refine g_dput ?_
        walk_at "gg"
        refine ⟨f, c1, 9, rfl, F5, by omega, by decide, by decide, fun vv H6 v0 v1 sm6 F6 => ?_⟩
        walk_at "gg"
        refine ⟨f, c1 + 2, 300, rfl, F6, by omega, by decide, by decide, fun kk H7 k0 k1 sm7 F7 => ?_⟩
        have d7 : H7 d = some (.dK (tabK t)) := sm7 _ _ rfl (sm6 _ _ rfl d5)
        refine ⟨d, _, rfl, DPut.k (k := .inl kk) d7 (by rw [tab_len, sizeLine_eq]; omega), ?_⟩
        rw [tab_put]
        have F8 : Flask (c1 + 2 + 2) (upd H7 d (.dK (tabK (putT t kk vv)))) f := by
          obtain ⟨q, nq, f1, f2⟩ := F7
          refine ⟨q, nq, ?_, ?_⟩
          · rw [upd_ne fun z => by rw [z, d7] at f1; cases f1]
            exact f1
          · rw [upd_ne fun z => by rw [z, d7] at f2; cases f2]
            exact f2
        have pl := put_len t kk vv
        exact ⟨c1 + 2 + 2, putT t kk vv, _, rfl, by omega, F8, upd_same, put_keys ndt, put_short sht (by unfold In60; omega) (by unfold In60; omega), by omega⟩
      · rintro σ H5 ⟨c1, t, w4, rfl, hc1, F5, d5, ndt, sht, lt⟩
        have n200 : n.toNat < 200 := by omega
        walk_at "gg"
        refine ⟨f, d, c1, t, rfl, F5, by omega, d5, ndt, sht, by omega, fun c2 H6 sm6 hc2 F6 => ?_⟩
        walk_at "gg"
        refine g_ifF rfl ?_
        walk_at "gg"
        exact ⟨c2, _, _, _, _, _, _, rfl, by omega, F6⟩
    · rintro σ H1 ⟨c, v2, v3, v4, v5, v6, v7, rfl, hc, F1⟩
      walk_at "gg"
      refine lc_refs (n := 201) (item := fun i x _ => x = .int (0 + (i : Int))) src_rng (by decide) (fun i l H => H l = some (.tup [.int (i : Nat), .int 0])) (fun i l D H H' xs e ne b h => b _ _ ne h) (fun i x H2 Nx hi s hx kx => ?_) fun D2 ls H2 nD2 S2 e2 ll pp => ?_
      · subst hx
        walk_at "gg"
        refine ⟨rfl, ?_⟩
        walk_at "gg"
        refine g_mkT (by walk_at "ln") fun t3 H3 n3 S3 e3 => ?_
        refine kx t3 H3 S3 n3 ?_
        rw [e3, Int.zero_add]
      · walk_at "gg"
        refine ⟨D2, ls, tabK tab201, rfl, SqL.of e2, ?_, fun d nd => ?_⟩
        · have key : ∀ (ls : List Addr) (t : Tab), ls.length = t.length → (∀ (i : Nat) l q, ls[i]? = some l → t[i]? = some q → H2 l = some (.tup [.int q.1, .int q.2])) → Paired (fun p (kv : Key × V) => SqT K H2 p [kV kv.1, kv.2]) ls (tabK t) := by
            intro ls
            induction ls with
            | nil =>
              intro t h _
              cases t with
              | nil => exact .nil
              | cons _ _ => cases h
            | cons l ls ih =>
              intro t h g
              cases t with
              | nil => cases h
              | cons q t => exact .cons (SqT.of (g 0 l q rfl rfl)) (ih t (Nat.succ.inj h) fun i b r hb hr => g (i + 1) b r hb hr)
          refine key ls tab201 (by rw [ll, len201]) fun i l q hl hq => ?_
          have e := pp i l hl
          unfold tab201 at hq
          rw [List.getElem?_map] at hq
          have hi : i < 201 := by
            have := (List.getElem?_eq_some_iff.mp hl).1
            omega
          rw [List.getElem?_range hi] at hq
          obtain rfl := Option.some.inj hq
          exact e
        · have nd201 : (keysT tab201).Nodup := List.Pairwise.imp (fun h => Int.ne_of_lt h) (keys_asc asc201.asc)
          have mg : mergeK [] (tabK tab201) = tabK tab201 := merge_tab tab201 [] nd201
          rw [mg]
          have S3 : Same H2 (upd H2 d (.dK (tabK tab201))) := same_new nd
          generalize hH3 : upd H2 d (.dK (tabK tab201)) = H3 at S3 ⊢
          have e3 : H3 d = some (.dK (tabK tab201)) := by rw [← hH3]; exact upd_same
          walk_at "gg"
          refine ⟨d, tab201, tab201, rfl, e3, Of.self asc201, by rw [len201]; exact Nat.le_refl _, fun H4 S4 => ?_⟩
          walk_at "gg"
          refine g_mkL (by walk_at "ln") fun p5 H5 n5 S5 e5 => ?_
          have e5 : H5 p5 = some (.lst ((lastP.map S).map V.str)) := e5
          walk_at "gg"
          refine g_exL (SqL.of e5) ?_
          refine lc_refs (src_list (SqL.of e5)) (by decide) (fun i l H => ∀ b, lastP[i]? = some b → toldAt (readE b) l H) (fun i l D H H' xs e ne b h z hz => told_but ne b (h z hz)) (fun i x H' Nx hi s hx kx => ?_) fun D6 ls6 H6 nD6 S6 e6 ll6 pp6 => ?_
          · rw [List.getElem?_map, List.getElem?_map] at hx
            cases er : lastP[i]? with
            | none =>
              rw [er] at hx
              cases hx
            | some b =>
              rw [er] at hx
              obtain rfl := Option.some.inj hx
              have sb := lastP_ok b (List.mem_of_getElem? er)
              walk_at "gg"
              refine ⟨rfl, ?_⟩
              walk_at "gg"
              refine ⟨0, b, rfl, sb, fun i ei l H'' nl s2 el => ?_, fun t et l H'' nl s2 el => ?_⟩
              · refine kx l H'' s2 nl fun z hz => ?_
                rw [er] at hz
                obtain rfl := Option.some.inj hz
                rw [ei]
                exact el
              · refine kx l H'' s2 nl fun z hz => ?_
                rw [er] at hz
                obtain rfl := Option.some.inj hz
                rw [et]
                exact el
          · have ll4 : ls6.length = 4 := ll6
            match ls6, ll4 with
            | [x0, x1, x2, x3], _ =>
            have itemP : ∀ (i : Nat) (l : Addr) (pl : Nat), [x0, x1, x2, x3][i]? = some l → ([some 200, some 0, some 1, some 1] : List (Option Nat))[i]? = some (some pl) → Dp K H6 (.ref l) (.list [.int (pl : Int)]) := fun i l pl hl hp => by
              rw [← lastP_told, List.getElem?_map] at hp
              cases er : lastP[i]? with
              | none =>
                rw [er] at hp
                cases hp
              | some b =>
                rw [er] at hp
                have hp : errE (readE b) = some pl := Option.some.inj hp
                have tb := pp6 i l hl b er
                cases rb : readE b with
                | ok t =>
                  rw [rb] at hp
                  cases hp
                | error j =>
                  rw [rb] at hp tb
                  obtain rfl := Option.some.inj hp
                  exact .lst (SqL.of tb) (.cons (.int _) .nil)
            have dL : Dp K H6 (.ref D6) (.list [.list [.int ((200 : Nat) : Int)], .list [.int ((0 : Nat) : Int)], .list [.int ((1 : Nat) : Int)], .list [.int ((1 : Nat) : Int)]]) := .lst (SqL.of e6) (.cons (itemP 0 x0 200 rfl rfl) (.cons (itemP 1 x1 0 rfl rfl) (.cons (itemP 2 x2 1 rfl rfl) (.cons (itemP 3 x3 1 rfl rfl) .nil))))
            walk_at "gg"
            refine g_mkL (by walk_at "ln") fun q0 G0 m0 R0 f0 => ?_
            walk_at "gg"
            refine g_mkL (by walk_at "ln") fun q1 G1 m1 R1 f1 => ?_
            walk_at "gg"
            refine g_mkL (by walk_at "ln") fun q2 G2 m2 R2 f2 => ?_
            walk_at "gg"
            refine g_mkL (by walk_at "ln") fun q3 G3 m3 R3 f3 => ?_
            walk_at "gg"
            refine g_mkL (by walk_at "ln") fun q4 G4 m4 R4 f4 => ?_
            have T3 := R4
            have T2 := R3.trans T3
            have T1 := R2.trans T2
            have T0 := R1.trans T1
            have TT := R0.trans T0
            have one : ∀ (q : Addr) (n : Nat), G4 q = some (.lst [.int (n : Int)]) → Dp K G4 (.ref q) (.list [.int (n : Int)]) := fun q n e => .lst (SqL.of e) (.cons (.int _) .nil)
            have dR : Dp K G4 (.ref q4) (.list [.list [.int ((200 : Nat) : Int)], .list [.int ((0 : Nat) : Int)], .list [.int ((1 : Nat) : Int)], .list [.int ((1 : Nat) : Int)]]) :=
              .lst (SqL.of f4) (.cons (one q0 200 (T0 _ _ f0)) (.cons (one q1 0 (T1 _ _ f1)) (.cons (one q2 1 (T2 _ _ f2)) (.cons (one q3 1 (T3 _ _ f3)) .nil))))
            have shl : SeqAt.shaped (.list [.list [.int ((200 : Nat) : Int)], .list [.int ((0 : Nat) : Int)], .list [.int ((1 : Nat) : Int)], .list [.int ((1 : Nat) : Int)]]) = true := by decide +kernel
            refine g_neD (dp_same TT _ _ dL) dR shl shl ?_
            rw [eqv_yes (by decide +kernel) (by decide +kernel) rfl]
            walk_at "gg"
            refine g_ifF rfl ?_
            walk_at "gg"
            refine g_cX ?_
            walk_at "gg"
            have r1 : readE (tl "-") = .ok [] := ok_lit (by decide +kernel)
            have r2 : readE (tl "-3=5 4=-1") = .ok [(-3, 5), (4, -1)] := ok_lit (by decide +kernel)
            have s1 : Short (tl "-") := short_lit (by decide +kernel)
            have s2 : Short (tl "-3=5 4=-1") := short_lit (by decide +kernel)
            refine ⟨tl "-", rfl, s1.len, s1.low, s1.word, s1.few, fun i ei => (by rw [r1] at ei; cases ei), fun t2 et T1 K1 nT1 Z1 eT1 => ?_⟩
            rw [r1] at et
            obtain rfl : [] = t2 := Except.ok.inj et
            walk_at "gg"
            refine fun d2 nd2 => ?_
            have Z2 : Same K1 (upd K1 d2 (.dK [])) := same_new nd2
            generalize hK2 : upd K1 d2 (.dK []) = K2 at Z2 ⊢
            have e8 : K2 d2 = some (.dK (tabK [])) := by rw [← hK2]; exact upd_same
            refine ⟨T1, d2, [], [], rfl, rfl, .inl (Z2 _ _ eT1), .inl e8, ?_⟩
            walk_at "gg"
            refine g_ifT rfl ?_
            refine g_cX ?_
            walk_at "gg"
            refine ⟨tl "-3=5 4=-1", rfl, s2.len, s2.low, s2.word, s2.few, fun i ei => (by rw [r2] at ei; cases ei), fun t3 et3 T3 K3 nT3 Z3 eT3 => ?_⟩
            rw [r2] at et3
            obtain rfl : [(-3, 5), (4, -1)] = t3 := Except.ok.inj et3
            walk_at "gg"
            refine g_disp fun d4 nd4 => ?_
            simp only [tPairs]
            walk_at "gg"
            refine ⟨upd_same, tabK [(-3, 5), (4, -1)], rfl, by decide, ?_⟩
            have mg2 : mergeK [] (tabK [(-3, 5), (4, -1)]) = tabK [(-3, 5), (4, -1)] := merge_tab [(-3, 5), (4, -1)] [] (by decide)
            rw [mg2]
            have Z4 : Same K3 (upd (upd K3 d4 (.dK [])) d4 (.dK (tabK [(-3, 5), (4, -1)]))) := fun b o e => by rw [upd_ne (ne_of_none e nd4), upd_ne (ne_of_none e nd4)]; exact e
            generalize hK4 : upd (upd K3 d4 (.dK [])) d4 (.dK (tabK [(-3, 5), (4, -1)])) = K4 at Z4 ⊢
            have e9 : K4 d4 = some (.dK (tabK [(-3, 5), (4, -1)])) := by rw [← hK4]; exact upd_same
            refine ⟨T3, d4, _, _, rfl, rfl, .inl (Z4 _ _ eT3), .inl e9, ?_⟩
            rw [like_self (by decide)]
            exact k K4
end
end Gk

namespace Gk
open PySem L2 Gx PySem.Spec PyProof.Rows
open C8 (Cal Met Mak pe_c pe_mt pe_mt0 pe_mk pe_gc)
theorem all_mk {l : PySem.W.OpenLaw} {w : World} {K : PySem.W.Frag} {h : Heap} {mg : Str → Option Value} {fa f_law f_flask f_drip f_amount f_integer f_wrong f_told f_bent f_line f_right f_write_entries f_read_entries f_integer_in f_integers_in C_InvalidText C_LockError C_InvalidEntries f_InvalidText_init : Addr} (X : K.In h) (G : h.Ns mainGlobals mg) (hfa : mg "law" = some (.ref fa))
    {od_law an_law od_flask an_flask od_drip an_drip od_amount an_amount od_integer an_integer od_wrong an_wrong od_told an_told od_bent an_bent od_line an_line od_right an_right od_write_entries an_write_entries od_read_entries an_read_entries od_integer_in an_integer_in od_integers_in an_integers_in od_InvalidText_init an_InvalidText_init : Option Addr} {sl_law sl_flask sl_drip sl_amount sl_integer sl_wrong sl_told sl_bent sl_line sl_right sl_write_entries sl_read_entries sl_integer_in sl_integers_in sl_InvalidText_init : Array (Option Value)} {oc_law kV_law dc_law pm_law cd_law ct_law oc_flask kV_flask dc_flask pm_flask cd_flask ct_flask oc_drip kV_drip dc_drip pm_drip cd_drip ct_drip oc_amount kV_amount dc_amount pm_amount cd_amount ct_amount oc_integer kV_integer dc_integer pm_integer cd_integer ct_integer oc_wrong kV_wrong dc_wrong pm_wrong cd_wrong ct_wrong oc_told kV_told dc_told pm_told cd_told ct_told oc_bent kV_bent dc_bent pm_bent cd_bent ct_bent oc_line kV_line dc_line pm_line cd_line ct_line oc_right kV_right dc_right pm_right cd_right ct_right oc_write_entries kV_write_entries dc_write_entries pm_write_entries cd_write_entries ct_write_entries oc_read_entries kV_read_entries dc_read_entries pm_read_entries cd_read_entries ct_read_entries oc_integer_in kV_integer_in dc_integer_in pm_integer_in cd_integer_in ct_integer_in oc_integers_in kV_integers_in dc_integers_in pm_integers_in cd_integers_in ct_integers_in oc_InvalidText_init kV_InvalidText_init dc_InvalidText_init pm_InvalidText_init cd_InvalidText_init ct_InvalidText_init : Value} {tk_DIGITS tk_MOST_DIGITS tk_MOST_ENTRIES tk_NONE : Tok} {nm_InvalidText q_InvalidText : Str} {N_InvalidText : Addr} {bs_InvalidText sub_InvalidText : List Value} {sn_InvalidText : List Str} {ab_InvalidText : Bool} {col_InvalidText : Option Bool} {dd_InvalidText : Option Addr} {m0_InvalidText m1_InvalidText m2_InvalidText m3_InvalidText m5_InvalidText : Option Value}
    (a_law : PySem.W.nsIn K mainGlobals "law" = some (some (.ref f_law)))
    (l_law : K.lookup f_law = some ⟨oc_law, od_law, .func (PySem.W.fnOf "law" "law" (defArgs s_law) (defBody s_law) (defScope s_law) .none kV_law dc_law pm_law an_law cd_law ct_law), sl_law⟩)
    (c_law : PySem.W.codeIn K cd_law "law" = true)
    (k_law : PySem.W.keepIn K (.ref f_law) = true)
    (a_flask : PySem.W.nsIn K mainGlobals "_law_flask" = some (some (.ref f_flask)))
    (l_flask : K.lookup f_flask = some ⟨oc_flask, od_flask, .func (PySem.W.fnOf "_law_flask" "_law_flask" (defArgs s_flask) (defBody s_flask) (defScope s_flask) .none kV_flask dc_flask pm_flask an_flask cd_flask ct_flask), sl_flask⟩)
    (c_flask : PySem.W.codeIn K cd_flask "_law_flask" = true)
    (k_flask : PySem.W.keepIn K (.ref f_flask) = true)
    (a_drip : PySem.W.nsIn K mainGlobals "_law_drip" = some (some (.ref f_drip)))
    (l_drip : K.lookup f_drip = some ⟨oc_drip, od_drip, .func (PySem.W.fnOf "_law_drip" "_law_drip" (defArgs s_drip) (defBody s_drip) (defScope s_drip) .none kV_drip dc_drip pm_drip an_drip cd_drip ct_drip), sl_drip⟩)
    (c_drip : PySem.W.codeIn K cd_drip "_law_drip" = true)
    (k_drip : PySem.W.keepIn K (.ref f_drip) = true)
    (a_amount : PySem.W.nsIn K mainGlobals "_law_amount" = some (some (.ref f_amount)))
    (l_amount : K.lookup f_amount = some ⟨oc_amount, od_amount, .func (PySem.W.fnOf "_law_amount" "_law_amount" (defArgs s_amount) (defBody s_amount) (defScope s_amount) .none kV_amount dc_amount pm_amount an_amount cd_amount ct_amount), sl_amount⟩)
    (c_amount : PySem.W.codeIn K cd_amount "_law_amount" = true)
    (k_amount : PySem.W.keepIn K (.ref f_amount) = true)
    (a_integer : PySem.W.nsIn K mainGlobals "_law_integer" = some (some (.ref f_integer)))
    (l_integer : K.lookup f_integer = some ⟨oc_integer, od_integer, .func (PySem.W.fnOf "_law_integer" "_law_integer" (defArgs s_integer) (defBody s_integer) (defScope s_integer) .none kV_integer dc_integer pm_integer an_integer cd_integer ct_integer), sl_integer⟩)
    (c_integer : PySem.W.codeIn K cd_integer "_law_integer" = true)
    (k_integer : PySem.W.keepIn K (.ref f_integer) = true)
    (a_wrong : PySem.W.nsIn K mainGlobals "_law_wrong" = some (some (.ref f_wrong)))
    (l_wrong : K.lookup f_wrong = some ⟨oc_wrong, od_wrong, .func (PySem.W.fnOf "_law_wrong" "_law_wrong" (defArgs s_wrong) (defBody s_wrong) (defScope s_wrong) .none kV_wrong dc_wrong pm_wrong an_wrong cd_wrong ct_wrong), sl_wrong⟩)
    (c_wrong : PySem.W.codeIn K cd_wrong "_law_wrong" = true)
    (k_wrong : PySem.W.keepIn K (.ref f_wrong) = true)
    (a_told : PySem.W.nsIn K mainGlobals "_law_told" = some (some (.ref f_told)))
    (l_told : K.lookup f_told = some ⟨oc_told, od_told, .func (PySem.W.fnOf "_law_told" "_law_told" (defArgs s_told) (defBody s_told) (defScope s_told) .none kV_told dc_told pm_told an_told cd_told ct_told), sl_told⟩)
    (c_told : PySem.W.codeIn K cd_told "_law_told" = true)
    (k_told : PySem.W.keepIn K (.ref f_told) = true)
    (a_bent : PySem.W.nsIn K mainGlobals "_law_bent" = some (some (.ref f_bent)))
    (l_bent : K.lookup f_bent = some ⟨oc_bent, od_bent, .func (PySem.W.fnOf "_law_bent" "_law_bent" (defArgs s_bent) (defBody s_bent) (defScope s_bent) .none kV_bent dc_bent pm_bent an_bent cd_bent ct_bent), sl_bent⟩)
    (c_bent : PySem.W.codeIn K cd_bent "_law_bent" = true)
    (k_bent : PySem.W.keepIn K (.ref f_bent) = true)
    (a_line : PySem.W.nsIn K mainGlobals "_law_line" = some (some (.ref f_line)))
    (l_line : K.lookup f_line = some ⟨oc_line, od_line, .func (PySem.W.fnOf "_law_line" "_law_line" (defArgs s_line) (defBody s_line) (defScope s_line) .none kV_line dc_line pm_line an_line cd_line ct_line), sl_line⟩)
    (c_line : PySem.W.codeIn K cd_line "_law_line" = true)
    (k_line : PySem.W.keepIn K (.ref f_line) = true)
    (a_right : PySem.W.nsIn K mainGlobals "_law_right" = some (some (.ref f_right)))
    (l_right : K.lookup f_right = some ⟨oc_right, od_right, .func (PySem.W.fnOf "_law_right" "_law_right" (defArgs s_right) (defBody s_right) (defScope s_right) .none kV_right dc_right pm_right an_right cd_right ct_right), sl_right⟩)
    (c_right : PySem.W.codeIn K cd_right "_law_right" = true)
    (k_right : PySem.W.keepIn K (.ref f_right) = true)
    (a_write_entries : PySem.W.nsIn K mainGlobals "write_entries" = some (some (.ref f_write_entries)))
    (l_write_entries : K.lookup f_write_entries = some ⟨oc_write_entries, od_write_entries, .func (PySem.W.fnOf "write_entries" "write_entries" (defArgs s_write_entries) (defBody s_write_entries) (defScope s_write_entries) .none kV_write_entries dc_write_entries pm_write_entries an_write_entries cd_write_entries ct_write_entries), sl_write_entries⟩)
    (c_write_entries : PySem.W.codeIn K cd_write_entries "write_entries" = true)
    (k_write_entries : PySem.W.keepIn K (.ref f_write_entries) = true)
    (a_read_entries : PySem.W.nsIn K mainGlobals "read_entries" = some (some (.ref f_read_entries)))
    (l_read_entries : K.lookup f_read_entries = some ⟨oc_read_entries, od_read_entries, .func (PySem.W.fnOf "read_entries" "read_entries" (defArgs s_read_entries) (defBody s_read_entries) (defScope s_read_entries) .none kV_read_entries dc_read_entries pm_read_entries an_read_entries cd_read_entries ct_read_entries), sl_read_entries⟩)
    (c_read_entries : PySem.W.codeIn K cd_read_entries "read_entries" = true)
    (k_read_entries : PySem.W.keepIn K (.ref f_read_entries) = true)
    (a_integer_in : PySem.W.nsIn K mainGlobals "integer_in" = some (some (.ref f_integer_in)))
    (l_integer_in : K.lookup f_integer_in = some ⟨oc_integer_in, od_integer_in, .func (PySem.W.fnOf "integer_in" "integer_in" (defArgs s_integer_in) (defBody s_integer_in) (defScope s_integer_in) .none kV_integer_in dc_integer_in pm_integer_in an_integer_in cd_integer_in ct_integer_in), sl_integer_in⟩)
    (c_integer_in : PySem.W.codeIn K cd_integer_in "integer_in" = true)
    (k_integer_in : PySem.W.keepIn K (.ref f_integer_in) = true)
    (a_integers_in : PySem.W.nsIn K mainGlobals "integers_in" = some (some (.ref f_integers_in)))
    (l_integers_in : K.lookup f_integers_in = some ⟨oc_integers_in, od_integers_in, .func (PySem.W.fnOf "integers_in" "integers_in" (defArgs s_integers_in) (defBody s_integers_in) (defScope s_integers_in) .none kV_integers_in dc_integers_in pm_integers_in an_integers_in cd_integers_in ct_integers_in), sl_integers_in⟩)
    (c_integers_in : PySem.W.codeIn K cd_integers_in "integers_in" = true)
    (k_integers_in : PySem.W.keepIn K (.ref f_integers_in) = true)
    (aC_InvalidText : PySem.W.nsIn K mainGlobals "InvalidText" = some (some (.ref C_InvalidText)))
    (aC_LockError : PySem.W.nsIn K mainGlobals "LockError" = some (some (.ref C_LockError)))
    (aC_InvalidEntries : PySem.W.nsIn K mainGlobals "InvalidEntries" = some (some (.ref C_InvalidEntries)))
    (x_InvalidText : K.lookup C_InvalidText = some (excClassObj nm_InvalidText q_InvalidText C_InvalidText N_InvalidText bs_InvalidText [.ref C_LockError, .type "ValueError", .type "Exception", .type "BaseException", .type "object"] true sn_InvalidText sub_InvalidText ab_InvalidText col_InvalidText dd_InvalidText m0_InvalidText m1_InvalidText m2_InvalidText m3_InvalidText m5_InvalidText "ValueError.__new__"))
    (sa_InvalidText : PySem.W.findIn K (.ref C_InvalidText) "__setattr__" = some (some (.builtin "object.__setattr__")))
    (ga_InvalidText : PySem.W.findIn K (.ref C_InvalidText) "__getattribute__" = some (some (.builtin "BaseException.__getattribute__")))
    (gg_InvalidText : PySem.W.findIn K (.ref C_InvalidText) "__getattr__" = some none)
    (np_InvalidText_place : PySem.W.findIn K (.ref C_InvalidText) "place" = some none)
    (a_InvalidText_init : PySem.W.findIn K (.ref C_InvalidText) "__init__" = some (some (.ref f_InvalidText_init)))
    (t_InvalidText_init : PySem.W.typeIn K (.ref f_InvalidText_init) = some (.type "function"))
    (l_InvalidText_init : K.lookup f_InvalidText_init = some ⟨oc_InvalidText_init, od_InvalidText_init, .func (PySem.W.fnOf "__init__" "InvalidText.__init__" (defArgs s_InvalidText_init) (defBody s_InvalidText_init) (defScope s_InvalidText_init) .none kV_InvalidText_init dc_InvalidText_init pm_InvalidText_init an_InvalidText_init cd_InvalidText_init ct_InvalidText_init), sl_InvalidText_init⟩)
    (c_InvalidText_init : PySem.W.codeIn K cd_InvalidText_init "InvalidText.__init__" = true)
    (k_InvalidText_init : PySem.W.keepIn K (.ref f_InvalidText_init) = true)
    (kC_InvalidText : PySem.W.keepIn K (.ref C_InvalidText) = true)
    (eC_InvalidText : PySem.W.subIn K (.ref C_InvalidText) (.type "BaseException") = some true)
    (tC_InvalidText : PySem.W.typeIn K (.ref C_InvalidText) = some (.type "type"))
    (hD_InvalidText : PySem.W.hasDictIn K C_InvalidText = true)
    (iC_InvalidText : PySem.W.isClsIn K C_InvalidText = true)
    (sB_InvalidText : PySem.W.subIn K (.ref C_InvalidText) (.ref C_LockError) = some true)
    (ha_InvalidText : PySem.W.findIn K (.ref C_InvalidText) "__class__" = some (some (.builtin "object.__class__")))
    (hm_InvalidText : PySem.W.mroIn K C_InvalidText (.type "object") = some true)
    (ne_InvalidText_InvalidEntries : (Value.ref C_InvalidText == Value.ref C_InvalidEntries) = false)
    (no_InvalidText_InvalidEntries : PySem.W.subIn K (.ref C_InvalidText) (.ref C_InvalidEntries) = some false)
    (cls_get : PySem.W.specialIn K (.builtin "object.__class__") "__get__" = some (some (.builtin "getset_descriptor.__get__")))
    (cls_take : PySem.W.takesIn K (.builtin "object.__class__") = some true)
    (eC_base : PySem.W.subIn K (.ref C_LockError) (.type "BaseException") = some true)
    (hD_base : PySem.W.hasDictIn K C_LockError = true)
    (tC_base : PySem.W.typeIn K (.ref C_LockError) = some (.type "type"))
    (ga_base : PySem.W.specialIn K (.ref C_LockError) "__getattribute__" = some (some (.builtin "type.__getattribute__")))
    (rd_base : PySem.W.readsIn K C_LockError (.type "type") = true)
    (fc_base : PySem.W.findCls K (.ref C_LockError) (.type "type") "__init__" = some (.val (.builtin "ValueError.__init__")))
    (iC_InvalidEntries : PySem.W.isClsIn K C_InvalidEntries = true)
    (tC_InvalidEntries : PySem.W.typeIn K (.ref C_InvalidEntries) = some (.type "type"))
    (g_DIGITS : PySem.W.nsIn K mainGlobals "DIGITS" = some (some (.str "0123456789" tk_DIGITS)))
    (g_MOST_DIGITS : PySem.W.nsIn K mainGlobals "MOST_DIGITS" = some (some (.int 60 tk_MOST_DIGITS)))
    (g_MOST_ENTRIES : PySem.W.nsIn K mainGlobals "MOST_ENTRIES" = some (some (.int 200 tk_MOST_ENTRIES)))
    (g_NONE : PySem.W.nsIn K mainGlobals "NONE" = some (some (.str "-" tk_NONE)))
    (z_len : PySem.W.nsIn K mainGlobals "len" = some none)
    (z_abs : PySem.W.nsIn K mainGlobals "abs" = some none)
    (z_max : PySem.W.nsIn K mainGlobals "max" = some none)
    (z_min : PySem.W.nsIn K mainGlobals "min" = some none)
    (z_range : PySem.W.nsIn K mainGlobals "range" = some none)
    (z_sorted : PySem.W.nsIn K mainGlobals "sorted" = some none)
    (z_set : PySem.W.nsIn K mainGlobals "set" = some none)
    (z_list : PySem.W.nsIn K mainGlobals "list" = some none)
    (z_tuple : PySem.W.nsIn K mainGlobals "tuple" = some none)
    (z_dict : PySem.W.nsIn K mainGlobals "dict" = some none)
    (z_int : PySem.W.nsIn K mainGlobals "int" = some none)
    (z_str : PySem.W.nsIn K mainGlobals "str" = some none)
    (z_bool : PySem.W.nsIn K mainGlobals "bool" = some none)
    (z_all : PySem.W.nsIn K mainGlobals "all" = some none)
    (z_any : PySem.W.nsIn K mainGlobals "any" = some none)
    (z_sum : PySem.W.nsIn K mainGlobals "sum" = some none)
    (z_isinstance : PySem.W.nsIn K mainGlobals "isinstance" = some none)
    (z_repr : PySem.W.nsIn K mainGlobals "repr" = some none)
    (z_zip : PySem.W.nsIn K mainGlobals "zip" = some none)
    (z_enumerate : PySem.W.nsIn K mainGlobals "enumerate" = some none)
    : ∃ fd : FuncData, (∀ (s : Shared) (v : Value), BindsTo s fd ⟨[v], []⟩ [("_law_script", v)]) ∧ ∀ base : Heap, K.In base → base.Ns mainGlobals mg → FnG l.prog w K mg base 6 fa fd ["_law_script"] (Gk.spLaw81 K) := by
  have e := hfa.symm.trans (PySem.W.mg_of X G a_law)
  cases e
  have F_law := fun_mk (st := s_law) l_law c_law k_law
  have B_law := F_law.binds (ps := ["_law_script"]) fun _ _ _ _ _ _ us hl => match us, hl with | [_], _ => rfl
  have F_flask := fun_mk (st := s_flask) l_flask c_flask k_flask
  have B_flask := F_flask.binds (ps := ["_law_script"]) fun _ _ _ _ _ _ us hl => match us, hl with | [_], _ => rfl
  have G_flask : mg "_law_flask" = some (.ref f_flask) := PySem.W.mg_of X G a_flask
  have D_flask : Dn K mg "_law_flask" s_flask ["_law_script"] f_flask _ := ⟨F_flask, G_flask, B_flask⟩
  have F_drip := fun_mk (st := s_drip) l_drip c_drip k_drip
  have B_drip := F_drip.binds (ps := ["_law_flask_here", "_law_many"]) fun _ _ _ _ _ _ us hl => match us, hl with | [_, _], _ => rfl
  have G_drip : mg "_law_drip" = some (.ref f_drip) := PySem.W.mg_of X G a_drip
  have D_drip : Dn K mg "_law_drip" s_drip ["_law_flask_here", "_law_many"] f_drip _ := ⟨F_drip, G_drip, B_drip⟩
  have F_amount := fun_mk (st := s_amount) l_amount c_amount k_amount
  have B_amount := F_amount.binds (ps := ["_law_flask_here", "_law_wide"]) fun _ _ _ _ _ _ us hl => match us, hl with | [_, _], _ => rfl
  have G_amount : mg "_law_amount" = some (.ref f_amount) := PySem.W.mg_of X G a_amount
  have D_amount : Dn K mg "_law_amount" s_amount ["_law_flask_here", "_law_wide"] f_amount _ := ⟨F_amount, G_amount, B_amount⟩
  have F_integer := fun_mk (st := s_integer) l_integer c_integer k_integer
  have B_integer := F_integer.binds (ps := ["_law_word"]) fun _ _ _ _ _ _ us hl => match us, hl with | [_], _ => rfl
  have G_integer : mg "_law_integer" = some (.ref f_integer) := PySem.W.mg_of X G a_integer
  have D_integer : Dn K mg "_law_integer" s_integer ["_law_word"] f_integer _ := ⟨F_integer, G_integer, B_integer⟩
  have F_wrong := fun_mk (st := s_wrong) l_wrong c_wrong k_wrong
  have B_wrong := F_wrong.binds (ps := ["_law_page"]) fun _ _ _ _ _ _ us hl => match us, hl with | [_], _ => rfl
  have G_wrong : mg "_law_wrong" = some (.ref f_wrong) := PySem.W.mg_of X G a_wrong
  have D_wrong : Dn K mg "_law_wrong" s_wrong ["_law_page"] f_wrong _ := ⟨F_wrong, G_wrong, B_wrong⟩
  have F_told := fun_mk (st := s_told) l_told c_told k_told
  have B_told := F_told.binds (ps := ["_law_way", "_law_page"]) fun _ _ _ _ _ _ us hl => match us, hl with | [_, _], _ => rfl
  have G_told : mg "_law_told" = some (.ref f_told) := PySem.W.mg_of X G a_told
  have D_told : Dn K mg "_law_told" s_told ["_law_way", "_law_page"] f_told _ := ⟨F_told, G_told, B_told⟩
  have F_bent := fun_mk (st := s_bent) l_bent c_bent k_bent
  have B_bent := F_bent.binds (ps := ["_law_flask_here", "_law_page"]) fun _ _ _ _ _ _ us hl => match us, hl with | [_, _], _ => rfl
  have G_bent : mg "_law_bent" = some (.ref f_bent) := PySem.W.mg_of X G a_bent
  have D_bent : Dn K mg "_law_bent" s_bent ["_law_flask_here", "_law_page"] f_bent _ := ⟨F_bent, G_bent, B_bent⟩
  have F_line := fun_mk (st := s_line) l_line c_line k_line
  have B_line := F_line.binds (ps := ["_law_table_here"]) fun _ _ _ _ _ _ us hl => match us, hl with | [_], _ => rfl
  have G_line : mg "_law_line" = some (.ref f_line) := PySem.W.mg_of X G a_line
  have D_line : Dn K mg "_law_line" s_line ["_law_table_here"] f_line _ := ⟨F_line, G_line, B_line⟩
  have F_right := fun_mk (st := s_right) l_right c_right k_right
  have B_right := F_right.binds (ps := ["_law_flask_here", "_law_table_here"]) fun _ _ _ _ _ _ us hl => match us, hl with | [_, _], _ => rfl
  have G_right : mg "_law_right" = some (.ref f_right) := PySem.W.mg_of X G a_right
  have D_right : Dn K mg "_law_right" s_right ["_law_flask_here", "_law_table_here"] f_right _ := ⟨F_right, G_right, B_right⟩
  have F_write_entries := fun_mk (st := s_write_entries) l_write_entries c_write_entries k_write_entries
  have B_write_entries := F_write_entries.binds (ps := ["entries"]) fun _ _ _ _ _ _ us hl => match us, hl with | [_], _ => rfl
  have G_write_entries : mg "write_entries" = some (.ref f_write_entries) := PySem.W.mg_of X G a_write_entries
  have D_write_entries : Dn K mg "write_entries" s_write_entries ["entries"] f_write_entries _ := ⟨F_write_entries, G_write_entries, B_write_entries⟩
  have F_read_entries := fun_mk (st := s_read_entries) l_read_entries c_read_entries k_read_entries
  have B_read_entries := F_read_entries.binds (ps := ["text"]) fun _ _ _ _ _ _ us hl => match us, hl with | [_], _ => rfl
  have G_read_entries : mg "read_entries" = some (.ref f_read_entries) := PySem.W.mg_of X G a_read_entries
  have D_read_entries : Dn K mg "read_entries" s_read_entries ["text"] f_read_entries _ := ⟨F_read_entries, G_read_entries, B_read_entries⟩
  have F_integer_in := fun_mk (st := s_integer_in) l_integer_in c_integer_in k_integer_in
  have B_integer_in := F_integer_in.binds (ps := ["text"]) fun _ _ _ _ _ _ us hl => match us, hl with | [_], _ => rfl
  have G_integer_in : mg "integer_in" = some (.ref f_integer_in) := PySem.W.mg_of X G a_integer_in
  have D_integer_in : Dn K mg "integer_in" s_integer_in ["text"] f_integer_in _ := ⟨F_integer_in, G_integer_in, B_integer_in⟩
  have F_integers_in := fun_mk (st := s_integers_in) l_integers_in c_integers_in k_integers_in
  have B_integers_in := F_integers_in.binds (ps := ["texts"]) fun _ _ _ _ _ _ us hl => match us, hl with | [_], _ => rfl
  have G_integers_in : mg "integers_in" = some (.ref f_integers_in) := PySem.W.mg_of X G a_integers_in
  have D_integers_in : Dn K mg "integers_in" s_integers_in ["texts"] f_integers_in _ := ⟨F_integers_in, G_integers_in, B_integers_in⟩
  have G_InvalidText : mg "InvalidText" = some (.ref C_InvalidText) := PySem.W.mg_of X G aC_InvalidText
  have G_LockError : mg "LockError" = some (.ref C_LockError) := PySem.W.mg_of X G aC_LockError
  have G_InvalidEntries : mg "InvalidEntries" = some (.ref C_InvalidEntries) := PySem.W.mg_of X G aC_InvalidEntries
  have F_InvalidText_init := fun_mk (st := s_InvalidText_init) l_InvalidText_init c_InvalidText_init k_InvalidText_init
  have B_InvalidText_init := F_InvalidText_init.binds (ps := ["self", "place"]) fun _ _ _ _ _ _ us hl => match us, hl with | [_, _], _ => rfl
  have T : Bt mg := ⟨PySem.W.mg_none_of X G z_len, PySem.W.mg_none_of X G z_abs, PySem.W.mg_none_of X G z_max, PySem.W.mg_none_of X G z_min, PySem.W.mg_none_of X G z_range, PySem.W.mg_none_of X G z_sorted, PySem.W.mg_none_of X G z_set, PySem.W.mg_none_of X G z_list, PySem.W.mg_none_of X G z_tuple, PySem.W.mg_none_of X G z_dict, PySem.W.mg_none_of X G z_int, PySem.W.mg_none_of X G z_str, PySem.W.mg_none_of X G z_bool, PySem.W.mg_none_of X G z_all, PySem.W.mg_none_of X G z_any, PySem.W.mg_none_of X G z_sum, PySem.W.mg_none_of X G z_isinstance, PySem.W.mg_none_of X G z_repr, PySem.W.mg_none_of X G z_zip, PySem.W.mg_none_of X G z_enumerate⟩
  refine ⟨PySem.W.fnOf "law" "law" (defArgs s_law) (defBody s_law) (defScope s_law) .none kV_law dc_law pm_law an_law cd_law ct_law, fun s v => .of_eq rfl, fun base _ _ => ?_⟩
  have gD : ∃ u, mg "DIGITS" = some u ∧ RelV (.str "0123456789") u := ⟨_, PySem.W.mg_of X G g_DIGITS, ⟨_, rfl⟩⟩
  have gM : ∃ u, mg "MOST_DIGITS" = some u ∧ RelV (.int 60) u := ⟨_, PySem.W.mg_of X G g_MOST_DIGITS, ⟨_, rfl⟩⟩
  have gE : ∃ u, mg "MOST_ENTRIES" = some u ∧ RelV (.int 200) u := ⟨_, PySem.W.mg_of X G g_MOST_ENTRIES, ⟨_, rfl⟩⟩
  have gN : ∃ u, mg "NONE" = some u ∧ RelV (.str "-") u := ⟨_, PySem.W.mg_of X G g_NONE, ⟨_, rfl⟩⟩
  have oxC : OexC K C_InvalidText := ⟨⟨_, _, _, _, _, _, _, _, _, _, _, _, _, _, _, x_InvalidText, rfl⟩, sa_InvalidText, eC_InvalidText, tC_InvalidText, kC_InvalidText⟩
  have bad : BadC l.prog w K mg base 1 "InvalidText" C_InvalidText := ⟨oxC, G_InvalidText, _, _, a_InvalidText_init, t_InvalidText_init, ok_badInit F_InvalidText_init oxC np_InvalidText_place G_LockError ga_base rd_base fc_base, B_InvalidText_init⟩
  have ET : ErrE K mg C_InvalidText C_LockError C_InvalidEntries := ⟨G_LockError, PySem.W.exm_ref eC_base hD_base tC_base sB_InvalidText, ⟨iC_InvalidText, ga_InvalidText, gg_InvalidText, eC_InvalidText, hD_InvalidText, ha_InvalidText, cls_get, cls_take, hm_InvalidText⟩, np_InvalidText_place, ⟨_, G_InvalidEntries, rfl⟩, ⟨_, G_InvalidText, rfl⟩, kit_refs ne_InvalidText_InvalidEntries iC_InvalidEntries tC_InvalidEntries no_InvalidText_InvalidEntries, kit_self⟩
  have drip := ok_drip (P := l.prog) (w := w) (base := base) D_drip T
  have flask := ok_flask (P := l.prog) (w := w) (base := base) D_flask T
  have amount := ok_amount D_amount T drip
  have intIn := ok_intAny (P := l.prog) (w := w) (base := base) D_integer_in T gD gM
  have intsIn := ok_intsAny D_integers_in T intIn
  have rdF := ok_readE D_read_entries T gN gE intsIn bad
  have cr : CalX l.prog w K mg base 3 "read_entries" (spReadE C_InvalidText) := ⟨_, _, _, rdF, G_read_entries, k_read_entries, B_read_entries⟩
  have kr : CalKX l.prog w K mg base 3 "read_entries" ["text"] soleV (spReadE C_InvalidText) := ⟨_, _, _, soleU, rdF, G_read_entries, k_read_entries, kbinds_sole (fun _ => rfl)⟩
  have wrF := ok_writeE (P := l.prog) (w := w) (base := base) D_write_entries T gN
  have cw := cal_of D_write_entries wrF
  have kw : CalK l.prog w K mg base 2 "write_entries" ["entries"] soleV spWriteE := ⟨_, _, _, soleU, wrF, G_write_entries, k_write_entries, kbinds_sole (fun _ => rfl)⟩
  have told := ok_told D_told T ET cr kr
  have isInt := ok_isInt (P := l.prog) (w := w) (base := base) D_integer T
  have wrong := ok_wrongE D_wrong T isInt
  have bent := ok_bentE D_bent T drip
  have line := ok_lineE (P := l.prog) (w := w) (base := base) D_line T
  have rig := calG_of D_right (ok_right D_right T line cw kw cr bent wrong told)
  have D_law : Dn K mg "law" s_law ["_law_script"] _ _ := ⟨F_law, hfa, B_law⟩
  exact ok_law D_law T flask drip amount rig line told cr
end Gk
open PySem PySem.W PyProof.Rows
set_option maxRecDepth 100000 in
set_option maxHeartbeats 0 in
theorem PySem.Challenge.cw_gapreach_k81_entries_written_and_read_holds : PySem.Challenge.rw_gapreach_k81_entries_written_and_read.Holds := by
  w_on; o_law; k_head; (case hw => w_witness2)
  k_fill
  refine Gx.walkG (l := PySem.Challenge.rw_gapreach_k81_entries_written_and_read) (sp := Gk.spLaw81) (k := 6) (x := "_law_script") rfl (by decide) rfl ⟨rfl, by decide, by decide⟩ (fun w h Y => PySem.W.kIn_of Y) ?F ?S
  case S => exact fun K H a ns hl q => ⟨a, ns, rfl, q, Nat.le_trans hl (by decide), fun _ => rfl⟩
  case F =>
    intro w mg fa h KX G hmg
    refine' Gk.all_mk KX G hmg ?a_law ?l_law ?c_law ?k_law ?a_flask ?l_flask ?c_flask ?k_flask ?a_drip ?l_drip ?c_drip ?k_drip ?a_amount ?l_amount ?c_amount ?k_amount ?a_integer ?l_integer ?c_integer ?k_integer ?a_wrong ?l_wrong ?c_wrong ?k_wrong ?a_told ?l_told ?c_told ?k_told ?a_bent ?l_bent ?c_bent ?k_bent ?a_line ?l_line ?c_line ?k_line ?a_right ?l_right ?c_right ?k_right ?a_write_entries ?l_write_entries ?c_write_entries ?k_write_entries ?a_read_entries ?l_read_entries ?c_read_entries ?k_read_entries ?a_integer_in ?l_integer_in ?c_integer_in ?k_integer_in ?a_integers_in ?l_integers_in ?c_integers_in ?k_integers_in ?aC_InvalidText ?aC_LockError ?aC_InvalidEntries ?x_InvalidText ?sa_InvalidText ?ga_InvalidText ?gg_InvalidText ?np_InvalidText_place ?a_InvalidText_init ?t_InvalidText_init ?l_InvalidText_init ?c_InvalidText_init ?k_InvalidText_init ?kC_InvalidText ?eC_InvalidText ?tC_InvalidText ?hD_InvalidText ?iC_InvalidText ?sB_InvalidText ?ha_InvalidText ?hm_InvalidText ?ne_InvalidText_InvalidEntries ?no_InvalidText_InvalidEntries ?cls_get ?cls_take ?eC_base ?hD_base ?tC_base ?ga_base ?rd_base ?fc_base ?iC_InvalidEntries ?tC_InvalidEntries ?g_DIGITS ?g_MOST_DIGITS ?g_MOST_ENTRIES ?g_NONE ?z_len ?z_abs ?z_max ?z_min ?z_range ?z_sorted ?z_set ?z_list ?z_tuple ?z_dict ?z_int ?z_str ?z_bool ?z_all ?z_any ?z_sum ?z_isinstance ?z_repr ?z_zip ?z_enumerate
    (case a_law => k_is)
    (case l_law => k_is)
    (case c_law => k_is)
    (case k_law => k_is)
    (case a_flask => k_is)
    (case l_flask => k_is)
    (case c_flask => k_is)
    (case k_flask => k_is)
    (case a_drip => k_is)
    (case l_drip => k_is)
    (case c_drip => k_is)
    (case k_drip => k_is)
    (case a_amount => k_is)
    (case l_amount => k_is)
    (case c_amount => k_is)
    (case k_amount => k_is)
    (case a_integer => k_is)
    (case l_integer => k_is)
    (case c_integer => k_is)
    (case k_integer => k_is)
    (case a_wrong => k_is)
    (case l_wrong => k_is)
    (case c_wrong => k_is)
    (case k_wrong => k_is)
    (case a_told => k_is)
    (case l_told => k_is)
    (case c_told => k_is)
    (case k_told => k_is)
    (case a_bent => k_is)
    (case l_bent => k_is)
    (case c_bent => k_is)
    (case k_bent => k_is)
    (case a_line => k_is)
    (case l_line => k_is)
    (case c_line => k_is)
    (case k_line => k_is)
    (case a_right => k_is)
    (case l_right => k_is)
    (case c_right => k_is)
    (case k_right => k_is)
    (case a_write_entries => k_is)
    (case l_write_entries => k_is)
    (case c_write_entries => k_is)
    (case k_write_entries => k_is)
    (case a_read_entries => k_is)
    (case l_read_entries => k_is)
    (case c_read_entries => k_is)
    (case k_read_entries => k_is)
    (case a_integer_in => k_is)
    (case l_integer_in => k_is)
    (case c_integer_in => k_is)
    (case k_integer_in => k_is)
    (case a_integers_in => k_is)
    (case l_integers_in => k_is)
    (case c_integers_in => k_is)
    (case k_integers_in => k_is)
    (case aC_InvalidText => k_is)
    (case aC_LockError => k_is)
    (case aC_InvalidEntries => k_is)
    (case x_InvalidText => k_is)
    (case sa_InvalidText => k_is)
    (case ga_InvalidText => k_is)
    (case gg_InvalidText => k_is)
    (case np_InvalidText_place => k_is)
    (case a_InvalidText_init => k_is)
    (case t_InvalidText_init => k_is)
    (case l_InvalidText_init => k_is)
    (case c_InvalidText_init => k_is)
    (case k_InvalidText_init => k_is)
    (case kC_InvalidText => k_is)
    (case eC_InvalidText => k_is)
    (case tC_InvalidText => k_is)
    (case hD_InvalidText => k_is)
    (case iC_InvalidText => k_is)
    (case sB_InvalidText => k_is)
    (case ha_InvalidText => k_is)
    (case hm_InvalidText => k_is)
    (case ne_InvalidText_InvalidEntries => rfl)
    (case no_InvalidText_InvalidEntries => k_is)
    (case cls_get => k_is)
    (case cls_take => k_is)
    (case eC_base => k_is)
    (case hD_base => k_is)
    (case tC_base => k_is)
    (case ga_base => k_is)
    (case rd_base => k_is)
    (case fc_base => k_is)
    (case iC_InvalidEntries => k_is)
    (case tC_InvalidEntries => k_is)
    (case g_DIGITS => k_is)
    (case g_MOST_DIGITS => k_is)
    (case g_MOST_ENTRIES => k_is)
    (case g_NONE => k_is)
    (case z_len => k_is)
    (case z_abs => k_is)
    (case z_max => k_is)
    (case z_min => k_is)
    (case z_range => k_is)
    (case z_sorted => k_is)
    (case z_set => k_is)
    (case z_list => k_is)
    (case z_tuple => k_is)
    (case z_dict => k_is)
    (case z_int => k_is)
    (case z_str => k_is)
    (case z_bool => k_is)
    (case z_all => k_is)
    (case z_any => k_is)
    (case z_sum => k_is)
    (case z_isinstance => k_is)
    (case z_repr => k_is)
    (case z_zip => k_is)
    (case z_enumerate => k_is)
#print axioms PySem.Challenge.cw_gapreach_k81_entries_written_and_read_holds
