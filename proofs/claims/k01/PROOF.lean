import PyProof.Rows.All
import Wide.All
import OpenK.AllK
import Wide.FinOn
import HandS.ForMost
import HandS.Evl
import HandS.Codes
import HandS.WideBits
import HandS.Wide
import HandS.IsInst
import HandS.Property
import HandS.Star
import HandS.Steps
import HandS.NoneIn
import KE.KUnpackStar
import HandS.RaiseMore
import HandS.Text
import HandS.Iter
import HandS.More
import HandS.DictComp
import HandS.OwnEq
import KE.IntTextLaws
import HandS.ExcInit
import KE.KExcIs
import HandS.ExcOwn
import HandS.WordsExc
import HandS.Deep
import HandS.Dict
import PySem.Challenge.RW_gapreach_k01_lines_recognized
import HandS.HotCalls
import HandS.Comp
import HandS.ExcIs
import HandS.Set
import HandS.SetFor
import HandS.Strs
import HandS.TupSets
import HandS.SortRule
import HandS.SortInts
import HandS.TupLe
import KE.KeyNested
import HandS.Conv
import HandS.DictTup
import HandS.FStr
import HandS.Finally
import KE.KItemsList
import KE.KEqDict
import HandS.Style
set_option Elab.async false
set_option linter.all false
set_option maxRecDepth 100000
set_option maxHeartbeats 4000000
namespace Gx
open PySem L2
/-! ### a list of three whole numbers that a def changes, known to its callers by what stays true of it -/
/-- at f stands a list of three whole numbers, the first one at least 0 -/
def FlowP (f : Addr) (h : Heap) : Prop := ∃ (x y z : Int) (t u v : Tok) (n : Nat), 0 ≤ x ∧ h.get? f = some { cls := .type "list", data := .seq #[.int x t, .int y u, .int z v] n }
def FlowO (f : Addr) : HO := .ext (FlowP f)
def three (x y z : Int) : HO := .lst [.int x, .int y, .int z]
section
variable {P : Program} {w : World} {K : PySem.W.Frag} {mg : Str → Option Value} {base : Heap} {H : Hp} {h : Heap} {f : Addr}
theorem flow_open (ok : HOk P w H h) (hf : H f = some (FlowO f)) : ∃ x y z, 0 ≤ x ∧ HOk P w (upd H f (three x y z)) h := by
  have q : ObjOk P w H h f (FlowO f) := ok f _ hf
  obtain ⟨⟨x, y, z, t, u, v, n, hx, e⟩, _, _⟩ := q
  refine ⟨x, y, z, hx, ok.write (by rw [hf]; trivial) (Or.inl rfl) (fun _ _ _ q => q) ⟨_, e⟩ ?_⟩
  exact ⟨(by decide : 3 ≤ sizeLine), _, n, .cons ⟨t, rfl⟩ (.cons ⟨u, rfl⟩ (.cons ⟨v, rfl⟩ .nil)), e⟩
theorem flow_close {x y z : Int} (ok : HOk P w H h) (hf : H f = some (three x y z)) (hx : 0 ≤ x) : HOk P w (upd H f (FlowO f)) h := by
  have q : ObjOk P w H h f (three x y z) := ok f _ hf
  obtain ⟨_, its, n, r, e⟩ := q
  have hp : FlowP f h := by
    cases r with
    | cons r1 r =>
      cases r with
      | cons r2 r =>
        cases r with
        | cons r3 r =>
          cases r
          obtain ⟨t, rfl⟩ := r1
          obtain ⟨u, rfl⟩ := r2
          obtain ⟨v, rfl⟩ := r3
          exact ⟨x, y, z, t, u, v, n, hx, e⟩
  refine ok.write (by rw [hf]; trivial) (Or.inl rfl) (fun _ _ _ q => q) ⟨_, e⟩ ?_
  exact ⟨hp, ⟨_, e⟩, fun h1 h2 p1 k => by
    obtain ⟨x, y, z, t, u, v, n, hx, e⟩ := p1
    exact ⟨x, y, z, t, u, v, n, hx, k _ e⟩⟩
/-- a def that is proved for the list as it stands keeps its promise for the list by what stays true of it -/
theorem flow_view {k : Nat} {fa : Addr} {fd : FuncData} {ps : List Str} {sp sp' : Sp} (F : FnOk P w K mg base CX0 k fa fd ps sp)
    (hs : ∀ vs H Q E, sp' vs H Q E → ∃ f, H f = some (FlowO f) ∧ ∀ x y z, 0 ≤ x → sp vs (upd H f (three x y z)) (fun v H' => (∃ x' y' z', 0 ≤ x' ∧ H' f = some (three x' y' z')) ∧ Q v (upd H' f (FlowO f))) E) :
    FnOk P w K mg base CX0 k fa fd ps sp' := by
  refine ⟨fun vs H Q E q => ?_, fun A outer s H args us vs Q E hr he hb hv q => ?_⟩
  · obtain ⟨f, _, k⟩ := hs vs H Q E q
    exact F.len _ _ _ _ (k 0 0 0 (Int.le_refl 0))
  · obtain ⟨f, hf, k⟩ := hs vs H Q E q
    obtain ⟨x, y, z, hx, ok1⟩ := flow_open he.hok hf
    have nf : ∀ b, H b = none → b ≠ f := fun b n e => by rw [e, hf] at n; cases n
    have mu : Mut (H f) := by rw [hf]; trivial
    have hof : ∃ o, s.heap.get? f = some o := by
      have q : ObjOk P w H s.heap f (FlowO f) := he.hok f _ hf
      exact q.2.1
    have he1 : Env0 P w K mg base A outer s (upd H f (three x y z)) :=
      ⟨he.frames, he.mod, fun b o e => ⟨(he.bs b o e).1, by rw [upd_ne (nf b (he.bs b o e).2)]; exact (he.bs b o e).2⟩, he.bsz, he.funs, fun b hb => by rw [upd_ne (nf b (he.frf b hb))]; exact he.frf b hb, ok1, he.bare⟩
    refine codeAny_mono (F.run A outer s _ args us vs _ E hr he1 hb hv (k x y z hx)) fun r s' hq => ?_
    cases r with
    | error e => exact hq.elim
    | ok fl =>
      cases fl with
      | ret u =>
        obtain ⟨v, H', os, bare, un, hok, rv, ⟨x', y', z', hx', e'⟩, q'⟩ := hq
        refine ⟨v, upd H' f (FlowO f), os, bare, ?_, flow_close hok e' hx', rv, q'⟩
        have u1 : Un (frs outer) [] H (upd H f (three x y z)) s.heap s.heap := Un.write mu (Or.inl rfl) (fun _ _ _ q => q) hof
        have hof' : ∃ o, s'.heap.get? f = some o := by
          have q : ObjOk P w H' s'.heap f (three x' y' z') := hok f _ e'
          obtain ⟨_, its, n, r, e⟩ := q
          exact ⟨_, e⟩
        have u2 : Un (frs outer) [] H' (upd H' f (FlowO f)) s'.heap s'.heap := Un.write (by rw [e']; trivial) (Or.inl rfl) (fun _ _ _ q => q) hof'
        exact (u1.trans un).trans u2
      | next => exact hq.elim
      | brk => exact hq.elim
      | cont => exact hq.elim
end
end Gx

namespace Gx
open PySem L2
/-! ### readings, from the left: each of these takes one step -/
section
variable {σ : L2.St} {H H' : Hp} {Q : VK} {K : PySem.W.Frag} {v x y : V} {ta tb te tc : TE} {tt tu : TT} {t u : TS} {D : Ends} {i j : Nat} {r : R2}
theorem g_var (h : σ[i]? = some (some v)) (q : Q v H) : tVar i σ H Q := ⟨v, h, q⟩
theorem g_c (q : Q v H) : tC v σ H Q := q
theorem g_op (q : ta σ H fun x H1 => tb σ H1 fun y H2 => r x y H2 Q) : tOp r ta tb σ H Q := q
theorem g_I0 {g : Int → Int → V} {a b : Int} (q : Q (g a b) H) : rI0 g (.int a) (.int b) H Q := ⟨a, b, rfl, rfl, q⟩
theorem g_I {C : Int → Int → Prop} {g : Int → Int → V} {a b : Int} (hc : C a b) (q : Q (g a b) H) : rI C g (.int a) (.int b) H Q := ⟨a, b, rfl, rfl, hc, q⟩
theorem g_mod {a b : Int} (hb : 0 < b) (q : ∀ r, 0 ≤ r → r < b → Q (.int r) H) : rI (fun _ j => 0 < j) (fun i j => .int (i % j)) (.int a) (.int b) H Q :=
  ⟨a, b, rfl, rfl, hb, q _ (Int.emod_nonneg _ (by omega)) (Int.emod_lt_of_pos _ hb)⟩
theorem g_Imul {a b : Int} (hc : CMul a b) (q : Q (.int (a * b)) H) : rI CMul (fun i j => .int (i * j)) (.int a) (.int b) H Q := ⟨a, b, rfl, rfl, hc, q⟩
theorem g_Idiv {a b : Int} (hc : CDivW a b) (q : Q (.int (a / b)) H) : rI CDivW (fun i j => .int (i / j)) (.int a) (.int b) H Q := ⟨a, b, rfl, rfl, hc, q⟩
theorem g_Imod {a b : Int} (hc : 0 < b) (q : Q (.int (a % b)) H) : rI (fun _ j => 0 < j) (fun i j => .int (i % j)) (.int a) (.int b) H Q := ⟨a, b, rfl, rfl, hc, q⟩
theorem g_pow3 {a b : Int} (hc : CPow a b) (q : Q (.int (a ^ b.toNat)) H) : rI CPow (fun i j => .int (i ^ j.toNat)) (.int a) (.int b) H Q := ⟨a, b, rfl, rfl, hc, q⟩
theorem g_un {r : V → Hp → VK → Prop} (q : ta σ H fun x H1 => r x H1 Q) : tUn r ta σ H Q := q
theorem g_U {g : Int → V} {a : Int} (q : Q (g a) H) : rU g (.int a) H Q := ⟨a, rfl, q⟩
theorem g_eq (h : scal x y = true) (q : Q (.bl (decide (x = y))) H) : rEq x y H Q := ⟨h, q⟩
theorem g_ne (h : scal x y = true) (q : Q (.bl (!decide (x = y))) H) : rNe x y H Q := ⟨h, q⟩
theorem g_exbl {b : Bool} {P : Bool → Prop} (h : P b) : ∃ k, V.bl b = V.bl k ∧ P k := ⟨b, rfl, h⟩
theorem g_test {Q : Bool → Hp → Prop} (q : te σ H fun x H1 => ∃ k, x = .bl k ∧ Q k H1) : tTest te σ H Q := q
theorem g_B {Q : Bool → Hp → Prop} (q : te σ H fun x H1 => ∃ k, x = .bl k ∧ Q k H1) : tB te σ H Q := q
theorem g_not {Q : Bool → Hp → Prop} (q : tt σ H fun c H1 => Q (!c) H1) : tNot tt σ H Q := q
theorem g_and {Q : Bool → Hp → Prop} (q : tt σ H fun c H1 => if c = true then tu σ H1 Q else Q false H1) : tAnd tt tu σ H Q := q
theorem g_or {Q : Bool → Hp → Prop} (q : tt σ H fun c H1 => if c = true then Q true H1 else tu σ H1 Q) : tOr tt tu σ H Q := q
theorem g_andV (q : ta σ H fun x H1 => ∃ c, x = .bl c ∧ if c = true then tb σ H1 Q else Q (.bl false) H1) : tAndV ta tb σ H Q := q
theorem g_orV (q : ta σ H fun x H1 => ∃ c, x = .bl c ∧ if c = true then Q (.bl true) H1 else tb σ H1 Q) : tOrV ta tb σ H Q := q
theorem g_notV (q : ta σ H fun x H1 => ∃ c, x = .bl c ∧ Q (.bl (!c)) H1) : tNotV ta σ H Q := q
theorem g_ifE (q : tt σ H fun c H1 => if c = true then ta σ H1 Q else tb σ H1 Q) : tIf tt ta tb σ H Q := q
theorem g_isN (q : ta σ H fun x H1 => Q (.bl (decide (x = .non))) H1) : tIsN ta σ H Q := q
theorem g_cons {tr : TA} {Q : List V → Hp → Prop} (q : ta σ H fun x H1 => tr σ H1 fun xs H2 => Q (x :: xs) H2) : tCons ta tr σ H Q := q
theorem g_nil {Q : List V → Hp → Prop} (q : Q [] H) : tNil σ H Q := q
theorem g_CB {r : List V → Hp → VK → Prop} {tr : TA} (q : tr σ H fun vs H1 => r vs H1 Q) : tCB r tr σ H Q := q
theorem g_chain {r' : R2} (q : ta σ H fun x H1 => tb σ H1 fun y H2 => r x y H2 fun z H3 => ∃ k, z = .bl k ∧ (if k = true then tc σ H3 fun w' H4 => r' y w' H4 Q else Q (.bl false) H3)) : tChain r r' ta tb tc σ H Q := q
-- statements
theorem g_seq (q : t { D with nx := u D } σ H) : tSeq t u D σ H := q
theorem g_next (q : D.nx σ H) : tNext D σ H := q
theorem g_asg {g : TG} (q : te σ H fun x H1 => g x σ H1 D.nx) : tAsg te g D σ H := q
theorem g_name {Q : L2.St → Hp → Prop} (q : Q (σ.set i (some v)) H) : gName i v σ H Q := q
theorem g_sub {to ti : TE} {s : TSet} {Q : L2.St → Hp → Prop} (q : to σ H fun o H1 => ti σ H1 fun i H2 => s o i v H2 fun H3 => Q σ H3) : gSub to ti s v σ H Q := q
theorem g_drop (q : te σ H fun _ H1 => D.nx σ H1) : tDrop te D σ H := q
theorem g_ret (q : te σ H D.rt) : tRet te D σ H := q
theorem g_retN (q : D.rt .non H) : tRetN D σ H := q
theorem g_ifS (q : tt σ H fun b H1 => if b = true then t D σ H1 else u D σ H1) : tIfS tt t u D σ H := q
theorem g_par {ts : TA} (q : ts σ H fun vs H1 => ∃ v w, vs = [v, w] ∧ D.nx ((σ.set i (some v)).set j (some w)) H1) : tPar i j ts D σ H := q
theorem g_expar {v w : V} {P : V → V → Prop} (h : P v w) : ∃ a b, [v, w] = [a, b] ∧ P a b := ⟨v, w, rfl, h⟩
-- tests decided
theorem g_ite {c : Prop} [Decidable c] {A B : Prop} (h1 : c → A) (h2 : ¬ c → B) : if decide c = true then A else B := by
  by_cases h : c
  · rw [if_pos (decide_eq_true h)]
    exact h1 h
  · rw [if_neg (by rw [decide_eq_false h]; exact Bool.false_ne_true)]
    exact h2 h
theorem g_iteN {c : Prop} [Decidable c] {A B : Prop} (h1 : ¬ c → A) (h2 : c → B) : if (!decide c) = true then A else B := by
  by_cases h : c
  · rw [if_neg (by rw [decide_eq_true h]; exact Bool.false_ne_true)]
    exact h2 h
  · rw [if_pos (by rw [decide_eq_false h]; rfl)]
    exact h1 h
/-- an if whose two ways meet: what holds where they meet is said once -/
theorem g_iteJ {c : Prop} [Decidable c] {N Bk Ct : L2.St → Hp → Prop} {R : VK} (Mid : L2.St → Hp → Prop) (tail : ∀ σ' H', Mid σ' H' → N σ' H')
    (h1 : ∀ N' : L2.St → Hp → Prop, (∀ σ' H', Mid σ' H' → N' σ' H') → c → t ⟨N', R, Bk, Ct⟩ σ H) (h2 : ∀ N' : L2.St → Hp → Prop, (∀ σ' H', Mid σ' H' → N' σ' H') → ¬ c → u ⟨N', R, Bk, Ct⟩ σ H) :
    if decide c = true then t ⟨N, R, Bk, Ct⟩ σ H else u ⟨N, R, Bk, Ct⟩ σ H := g_ite (fun h => h1 N tail h) fun h => h2 N tail h
theorem g_iteNJ {c : Prop} [Decidable c] {N Bk Ct : L2.St → Hp → Prop} {R : VK} (Mid : L2.St → Hp → Prop) (tail : ∀ σ' H', Mid σ' H' → N σ' H')
    (h1 : ∀ N' : L2.St → Hp → Prop, (∀ σ' H', Mid σ' H' → N' σ' H') → ¬ c → t ⟨N', R, Bk, Ct⟩ σ H) (h2 : ∀ N' : L2.St → Hp → Prop, (∀ σ' H', Mid σ' H' → N' σ' H') → c → u ⟨N', R, Bk, Ct⟩ σ H) :
    if (!decide c) = true then t ⟨N, R, Bk, Ct⟩ σ H else u ⟨N, R, Bk, Ct⟩ σ H := g_iteN (fun h => h1 N tail h) fun h => h2 N tail h
theorem g_iteJB {b : Bool} {N Bk Ct : L2.St → Hp → Prop} {R : VK} (Mid : L2.St → Hp → Prop) (tail : ∀ σ' H', Mid σ' H' → N σ' H')
    (h1 : ∀ N' : L2.St → Hp → Prop, (∀ σ' H', Mid σ' H' → N' σ' H') → b = true → t ⟨N', R, Bk, Ct⟩ σ H) (h2 : ∀ N' : L2.St → Hp → Prop, (∀ σ' H', Mid σ' H' → N' σ' H') → b = false → u ⟨N', R, Bk, Ct⟩ σ H) :
    if b = true then t ⟨N, R, Bk, Ct⟩ σ H else u ⟨N, R, Bk, Ct⟩ σ H := by
  cases b with
  | true => rw [if_pos rfl]; exact h1 N tail rfl
  | false => rw [if_neg Bool.false_ne_true]; exact h2 N tail rfl
-- a subscript
theorem g_ixL {p : Addr} {xs : List V} {k : Int} (h : SqL K H p xs) (ha : atI xs k = some v) (q : Q v H) : rIxL K (.ref p) (.int k) H Q := ⟨p, xs, k, v, rfl, rfl, h, ha, q⟩
theorem g_setL {p : Addr} {xs : List V} {k : Int} {n : Nat} {Q : Hp → Prop} (h : H p = some (.lst xs)) (hn : ixN xs.length k = some n) (q : Q (upd H p (.lst (xs.set n v)))) : rSetL (.ref p) (.int k) v H Q := ⟨p, xs, k, n, rfl, rfl, h, hn, q⟩
theorem g_bits {to : TE} (q : to σ H fun x H1 => ∃ i, x = .int i ∧ Q (.int (Builtin.Int.intBits i : Nat)) H1) : tBits to σ H Q := q
theorem g_exint {a : Int} {P : Int → Prop} (h : P a) : ∃ i, V.int a = V.int i ∧ P i := ⟨a, rfl, h⟩
/-- a for's turns, the source known -/
def FW (g : TG) (tb : TS) (D : Ends) (J : It) (σ : L2.St) (H : Hp) : Prop := ∃ W : Nat → Nat → L2.St → Hp → Prop, (∃ m, W 0 m σ H) ∧ ∀ i m σ H, W i m σ H →
  (J.stop i H ∧ D.nx σ H) ∨ (J.go i H ∧ ∃ N : L2.St → Hp → Prop, (∀ σ' H', N σ' H' → ∃ m', m' < m ∧ W (i + 1) m' σ' H') ∧ ∀ x H', J.yld i H x H' → g x σ H' fun σ2 H2 => tb { D with nx := N, ct := N, bk := D.nx } σ2 H2)
theorem g_for {wi : TI} {g : TG} {tb : TS} (q : wi σ H fun J H1 => FW g tb D J σ H1) : tFor wi g tb D σ H := q
theorem g_iRng1 {ta : TA} {R : It → Hp → Prop} (q : ta σ H fun vs H1 => ∃ n : Int, vs = [.int n] ∧ -(2 ^ 62) ≤ n ∧ n < 2 ^ 62 ∧ R (Itr 0 n.toNat) H1) : iRng1 ta σ H R := q
theorem g_exR1 {n : Int} {R : Int → Prop} (h1 : -(2 ^ 62) ≤ n) (h2 : n < 2 ^ 62) (q : R n) : ∃ k : Int, [V.int n] = [V.int k] ∧ -(2 ^ 62) ≤ k ∧ k < 2 ^ 62 ∧ R k := ⟨n, rfl, h1, h2, q⟩
theorem g_iRng2 {ta : TA} {R : It → Hp → Prop} (q : ta σ H fun vs H1 => ∃ i j : Int, vs = [.int i, .int j] ∧ (-(2 ^ 62) ≤ i ∧ i < 2 ^ 62 ∧ -(2 ^ 62) ≤ j ∧ j < 2 ^ 62) ∧ R (Itr i (j - i).toNat) H1) : iRng2 ta σ H R := q
theorem g_exR2 {n m : Int} {R : Int → Int → Prop} (h : -(2 ^ 62) ≤ n ∧ n < 2 ^ 62 ∧ -(2 ^ 62) ≤ m ∧ m < 2 ^ 62) (q : R n m) : ∃ i j : Int, [V.int n, V.int m] = [V.int i, V.int j] ∧ (-(2 ^ 62) ≤ i ∧ i < 2 ^ 62 ∧ -(2 ^ 62) ≤ j ∧ j < 2 ^ 62) ∧ R i j := ⟨n, m, rfl, h, q⟩
theorem g_iList {tl : TE} {R : It → Hp → Prop} (q : tl σ H fun x H1 => ∃ a, x = .ref a ∧ (∃ xs, SqL K H1 a xs) ∧ R (Itl K a) H1) : iList K tl σ H R := q
theorem g_exL {a : Addr} {xs : List V} {R : Addr → Prop} (h : SqL K H a xs) (q : R a) : ∃ b, V.ref a = V.ref b ∧ (∃ xs, SqL K H b xs) ∧ R b := ⟨a, rfl, ⟨xs, h⟩, q⟩
theorem g_iTup {tl : TE} {R : It → Hp → Prop} (q : tl σ H fun x H1 => ∃ a, x = .ref a ∧ (∃ xs, SqT K H1 a xs) ∧ R (Itt K a) H1) : iTup K tl σ H R := q
theorem g_exT {a : Addr} {xs : List V} {R : Addr → Prop} (h : SqT K H a xs) (q : R a) : ∃ b, V.ref a = V.ref b ∧ (∃ xs, SqT K H b xs) ∧ R b := ⟨a, rfl, ⟨xs, h⟩, q⟩
theorem fw_range {lo : Int} {n : Nat} {g : TG} {tb : TS} (Pv : Nat → L2.St → Hp → Prop) (h0 : Pv 0 σ H)
    (hs : ∀ i σ H, i < n → Pv i σ H → g (.int (lo + (i : Int))) σ H fun σ2 H2 => tb { D with nx := Pv (i + 1), ct := Pv (i + 1), bk := D.nx } σ2 H2) (hd : ∀ σ H, Pv n σ H → D.nx σ H) : FW g tb D (Itr lo n) σ H := for_range Pv h0 hs hd
theorem fw_list {a : Addr} {xs : List V} {g : TG} {tb : TS} (Pv : Nat → L2.St → Hp → Prop) (h0 : Pv 0 σ H) (hl : ∀ i σ H, i ≤ xs.length → Pv i σ H → SqL K H a xs)
    (hs : ∀ i x σ H, xs[i]? = some x → Pv i σ H → g x σ H fun σ2 H2 => tb { D with nx := Pv (i + 1), ct := Pv (i + 1), bk := D.nx } σ2 H2) (hd : ∀ σ H, Pv xs.length σ H → D.nx σ H) : FW g tb D (Itl K a) σ H := for_list Pv h0 hl hs hd
theorem fw_tup {a : Addr} {xs : List V} {g : TG} {tb : TS} (Pv : Nat → L2.St → Hp → Prop) (h0 : Pv 0 σ H) (hl : ∀ i σ H, i ≤ xs.length → Pv i σ H → SqT K H a xs)
    (hs : ∀ i x σ H, xs[i]? = some x → Pv i σ H → g x σ H fun σ2 H2 => tb { D with nx := Pv (i + 1), ct := Pv (i + 1), bk := D.nx } σ2 H2) (hd : ∀ σ H, Pv xs.length σ H → D.nx σ H) : FW g tb D (Itt K a) σ H := for_tup Pv h0 hl hs hd
end
end Gx

namespace Gx
open PySem L2
/-- the built-in names that the text leaves alone -/
structure Bt (mg : Str → Option Value) : Prop where
  n_len : mg "len" = none
  n_abs : mg "abs" = none
  n_max : mg "max" = none
  n_min : mg "min" = none
  n_range : mg "range" = none
  n_sorted : mg "sorted" = none
  n_set : mg "set" = none
  n_list : mg "list" = none
  n_tuple : mg "tuple" = none
  n_dict : mg "dict" = none
  n_int : mg "int" = none
  n_str : mg "str" = none
  n_bool : mg "bool" = none
  n_all : mg "all" = none
  n_any : mg "any" = none
  n_sum : mg "sum" = none
  n_isinstance : mg "isinstance" = none
  n_repr : mg "repr" = none
  n_zip : mg "zip" = none
  n_enumerate : mg "enumerate" = none
/-- a def of the module, as it stands behind the top -/
structure Dn (K : PySem.W.Frag) (mg : Str → Option Value) (x : Str) (st : Stmt) (ps : List Str) (f : Addr) (fd : FuncData) : Prop where
  fn : Fun K x x st f fd
  mgf : mg x = some (.ref f)
  bd : Binds K fd ps []
section
variable {P : Program} {w : World} {K : PySem.W.Frag} {mg : Str → Option Value} {base : Heap}
theorem cal_of {x : Str} {st : Stmt} {ps : List Str} {f : Addr} {fd : FuncData} {k : Nat} {sp : Sp} (D : Dn K mg x st ps f fd) (F : FnOk P w K mg base CX0 k f fd ps sp) : C8.Cal P w K mg base k x sp [] :=
  ⟨f, fd, ps, [], F, D.mgf, D.fn.kp, D.bd, .nil⟩
end
/-! ### what a draw's def does to the list that it draws from -/
def spDip0 : Sp := fun vs H Q _ => ∃ (f : Addr) (x y z m : Int), vs = [.ref f, .int m] ∧ H f = some (three x y z) ∧ 0 ≤ x ∧ 0 < m ∧ m.natAbs < 2 ^ 1000 ∧
  ∀ r x' y' z' : Int, 0 ≤ r → r < m → 0 ≤ x' → Q (.int r) (upd H f (three x' y' z'))
/-- a number from 0 below m; all that was tracked stays -/
def spDip : Sp := fun vs H Q _ => ∃ (f : Addr) (m : Int), vs = [.ref f, .int m] ∧ H f = some (FlowO f) ∧ 0 < m ∧ m.natAbs < 2 ^ 1000 ∧
  ∀ (r : Int) (H' : Hp), 0 ≤ r → r < m → Same H H' → Q (.int r) H'
theorem dip_view {P : Program} {w : World} {K : PySem.W.Frag} {mg : Str → Option Value} {base : Heap} {k : Nat} {fa : Addr} {fd : FuncData} {ps : List Str} (F : FnOk P w K mg base CX0 k fa fd ps spDip0) : FnOk P w K mg base CX0 k fa fd ps spDip := by
  refine flow_view F fun vs H Q E h => ?_
  obtain ⟨f, m, rfl, hf, h0, hm, k⟩ := h
  refine ⟨f, hf, fun x y z hx => ⟨f, x, y, z, m, rfl, upd_same, hx, h0, hm, fun r x' y' z' h1 h2 h3 => ⟨⟨x', y', z', h3, upd_same⟩, k r _ h1 h2 fun b o e => ?_⟩⟩⟩
  by_cases hb : b = f
  · subst hb
    rw [hf] at e
    cases e
    exact upd_same
  · rw [upd_ne hb, upd_ne hb, upd_ne hb]
    exact e
/-- a def that makes such a list -/
theorem flow_made {P : Program} {w : World} {K : PySem.W.Frag} {mg : Str → Option Value} {base : Heap} {k : Nat} {fa : Addr} {fd : FuncData} {ps : List Str} {sp sp' : Sp} (F : FnOk P w K mg base CX0 k fa fd ps sp)
    (hs : ∀ vs H Q E, sp' vs H Q E → sp vs H (fun v H' => ∃ f x y z, v = .ref f ∧ 0 ≤ x ∧ H' f = some (three x y z) ∧ Q v (upd H' f (FlowO f))) E) : FnOk P w K mg base CX0 k fa fd ps sp' := by
  refine ⟨fun vs H Q E q => F.len _ _ _ _ (hs vs H Q E q), fun A outer s H args us vs Q E hr he hb hv q => ?_⟩
  refine codeAny_mono (F.run A outer s _ args us vs _ E hr he hb hv (hs vs H Q E q)) fun r s' hq => ?_
  cases r with
  | error e => exact hq.elim
  | ok fl =>
    cases fl with
    | ret u =>
      obtain ⟨v, H', os, bare, un, hok, rv, f, x, y, z, ev, hx, e', q'⟩ := hq
      have there : ∃ o, s'.heap.get? f = some o := by
        have q : ObjOk P w H' s'.heap f (three x y z) := hok f _ e'
        obtain ⟨_, its, n, r, e⟩ := q
        exact ⟨_, e⟩
      exact ⟨v, upd H' f (FlowO f), os, bare, un.trans (Un.write (by rw [e']; trivial) (Or.inl rfl) (fun _ _ _ q => q) there), flow_close hok e' hx, rv, q'⟩
    | next => exact hq.elim
    | brk => exact hq.elim
    | cont => exact hq.elim
end Gx

namespace Gx
open PySem L2
/-! ### heaps that keep what they had -/
theorem same_get {H H' : Hp} {a : Addr} {o : HO} (s : Same H H') (h : H a = some o) : H' a = some o := s a o h
theorem same_new {H : Hp} {p : Addr} {o : HO} (h : H p = none) : Same H (upd H p o) := fun a u e => by
  rw [upd_ne (ne_of_none e h)]
  exact e
theorem same_mut {H H' : Hp} {p : Addr} {o : HO} (s : Same H H') (h : H p = none) : Same H (upd H' p o) := fun a u ha => by
  rw [upd_ne (ne_of_none ha h)]
  exact s a u ha
theorem same_sq {K : PySem.W.Frag} {H H' : Hp} {a : Addr} {xs : List V} (e : Same H H') (h : SqL K H a xs) : SqL K H' a xs := e.seq h
theorem same_rd {H H' : Hp} {a : Addr} {u : HO} (e : Same H H') (h : Rd H a u) : Rd H' a u := by
  rcases h with h | ⟨o, h⟩
  · exact Or.inl (e a _ h)
  · exact Or.inr ⟨o, e a _ h⟩
theorem same_sqT {K : PySem.W.Frag} {H H' : Hp} {a : Addr} {xs : List V} (e : Same H H') (h : SqT K H a xs) : SqT K H' a xs := by
  rcases h with h | h
  · exact Or.inl (same_rd e h)
  · exact Or.inr h
theorem same_free {H H' : Hp} {p : Addr} (e : Same H H') (h : H' p = none) : H p = none := e.free h
theorem big_le {n : Nat} (h : n ≤ 100000) : n ≤ sizeLine := Nat.le_trans h (by decide)
theorem big_lt {n : Nat} (h : n < 100000) : n < sizeLine := Nat.lt_of_lt_of_le h (by decide)
section
variable {σ : L2.St} {H H0 : Hp} {Q : VK} {K : PySem.W.Frag} {v x y : V} {E : XK}
/-! ### displays -/
def MkL (xs : List V) (H : Hp) (Q : VK) : Prop := xs.length ≤ sizeLine ∧ ∀ p, H p = none → Q (.ref p) (upd H p (.lst xs))
def MkT (xs : List V) (H : Hp) (Q : VK) : Prop := xs.length ≤ sizeLine ∧ ∀ p, H p = none → Q (.ref p) (upd H p (.tup xs))
theorem g_lst {ts : TA} (q : ts σ H fun xs H1 => MkL xs H1 Q) : tLst ts σ H Q := q
theorem g_tup {ts : TA} (q : ts σ H fun xs H1 => MkT xs H1 Q) : tTup ts σ H Q := q
theorem g_mkL {xs : List V} (hl : xs.length ≤ 100000) (k : ∀ p H', H p = none → Same H H' → H' p = some (.lst xs) → Q (.ref p) H') : MkL xs H Q :=
  ⟨big_le hl, fun p hp => k p _ hp (same_new hp) upd_same⟩
theorem g_mkT {xs : List V} (hl : xs.length ≤ 100000) (k : ∀ p H', H p = none → Same H H' → H' p = some (.tup xs) → Q (.ref p) H') : MkT xs H Q :=
  ⟨big_le hl, fun p hp => k p _ hp (same_new hp) upd_same⟩
/-! ### an item of a written list at a drawn place: what all of them have -/
theorem atI_in {xs : List V} {i : Int} (h0 : 0 ≤ i) (h1 : i < xs.length) : ∃ v, atI xs i = some v ∧ v ∈ xs := by
  have hj : i.toNat < xs.length := by omega
  refine ⟨xs[i.toNat], ?_, List.getElem_mem hj⟩
  have e : ((i.toNat : Nat) : Int) = i := by omega
  have z := atI_nat (List.getElem?_eq_getElem hj)
  rw [e] at z
  exact z
theorem g_ixP {p : Addr} {xs : List V} {i : Int} (P : V → Prop) (h : H p = some (.lst xs)) (h0 : 0 ≤ i) (h1 : i < xs.length) (all : ∀ x ∈ xs, P x) (q : ∀ v, P v → Q v H) : rIxL K (.ref p) (.int i) H Q := by
  obtain ⟨v, e, m⟩ := atI_in h0 h1
  exact ⟨p, xs, i, v, rfl, rfl, SqL.of h, e, q v (all v m)⟩
/-- .. of ints -/
theorem g_ixI {p : Addr} {xs : List V} {i : Int} (P : Int → Prop) (h : H p = some (.lst xs)) (h0 : 0 ≤ i) (h1 : i < xs.length) (all : ∀ x ∈ xs, ∃ n, x = .int n ∧ P n) (q : ∀ n, P n → Q (.int n) H) : rIxL K (.ref p) (.int i) H Q :=
  g_ixP _ h h0 h1 all fun v ⟨n, e, pn⟩ => by subst e; exact q n pn
theorem all_nil {P : V → Prop} : ∀ x ∈ ([] : List V), P x := fun _ h => nomatch h
theorem all_cons {P : V → Prop} {x : V} {xs : List V} (h : P x) (r : ∀ y ∈ xs, P y) : ∀ y ∈ x :: xs, P y := fun y hy => by
  rcases List.mem_cons.mp hy with rfl | hy
  · exact h
  · exact r y hy
/-- an int of a list of ints, at any place of it -/
theorem g_ixN {p : Addr} {ns : List Int} {i : Int} (h : SqL K H p (ns.map V.int)) (h0 : 0 ≤ i) (h1 : i < ns.length) (q : ∀ n, n ∈ ns → ns[i.toNat]? = some n → Q (.int n) H) : rIxL K (.ref p) (.int i) H Q := by
  have hj : i.toNat < ns.length := by omega
  have e : ((i.toNat : Nat) : Int) = i := by omega
  have z : (ns.map V.int)[i.toNat]? = some (.int ns[i.toNat]) := by rw [List.getElem?_map, List.getElem?_eq_getElem hj] <;> rfl
  have z2 := atI_nat z
  rw [e] at z2
  exact ⟨p, _, i, _, rfl, rfl, h, z2, q _ (List.getElem_mem hj) (List.getElem?_eq_getElem hj)⟩
/-! ### append, and calls of built-ins -/
theorem g_BM {T : String} {r : V → List V → Hp → VK → Prop} {to : TE} {t : TA} (q : to σ H fun x H1 => tyV K T x H1 ∧ t σ H1 fun xs H2 => r x xs H2 Q) : tBM K T r to t σ H Q := q
theorem g_BM0 {T : String} {r : V → List V → Hp → VK → Prop} {to : TE} (q : to σ H fun x H1 => tyV K T x H1 ∧ r x [] H1 Q) : tBM0 K T r to σ H Q := q
theorem ty_list {p : Addr} {xs : List V} (h : H p = some (.lst xs)) : tyV K "list" (.ref p) H := Or.inl ⟨rfl, xs, SqL.of h⟩
theorem g_tyL {p : Addr} {xs : List V} {P : Prop} (h : H p = some (.lst xs)) (q : P) : tyV K "list" (.ref p) H ∧ P := ⟨ty_list h, q⟩
theorem g_app {p : Addr} {xs : List V} (s : Same H0 H) (n : H0 p = none) (h : H p = some (.lst xs)) (hl : xs.length < 100000) (k : ∀ H', Same H0 H' → H' p = some (.lst (xs ++ [y])) → Q .non H') : rAppend (.ref p) [y] H Q :=
  ⟨p, xs, y, rfl, rfl, h, big_lt hl, k _ (same_mut s n) upd_same⟩
def rLenQ (K : PySem.W.Frag) : List V → Hp → VK → Prop := fun xs H Q => ∃ p ys, xs = [.ref p] ∧ (SqL K H p ys ∨ SqT K H p ys) ∧ Q (.int ys.length) H
def rAbsQ : List V → Hp → VK → Prop := fun xs H Q => ∃ i, xs = [.int i] ∧ Q (.int (if i < 0 then -i else i)) H
def rMaxQ : List V → Hp → VK → Prop := fun xs H Q => ∃ i j, xs = [.int i, .int j] ∧ Q (.int (if j > i then j else i)) H
def rMinQ : List V → Hp → VK → Prop := fun xs H Q => ∃ i j, xs = [.int i, .int j] ∧ Q (.int (if j < i then j else i)) H
def rIntQ : List V → Hp → VK → Prop := fun xs H Q => (∃ i, xs = [.int i] ∧ Q (.int i) H) ∨ ∃ k, xs = [.bl k] ∧ Q (.int (if k then 1 else 0)) H
def rListQ (K : PySem.W.Frag) : List V → Hp → VK → Prop := fun xs H Q => ∃ p ys, xs = [.ref p] ∧ (SqL K H p ys ∨ SqT K H p ys) ∧ ∀ l, H l = none → Q (.ref l) (upd H l (.lst ys))
theorem cr_lenQ {X : Cx} : CallR X (.builtin "len") (rLenQ X.K) := call_len_seq
theorem cr_absQ {X : Cx} : CallR X (.builtin "abs") rAbsQ := call_abs
theorem cr_maxQ {X : Cx} (hc : X.calm = true) : CallR X (.builtin "max") rMaxQ := call_max2 hc
theorem cr_minQ {X : Cx} (hc : X.calm = true) : CallR X (.builtin "min") rMinQ := call_min2 hc
theorem cr_intQ {X : Cx} : CallR X (.type "int") rIntQ := call_int1
theorem cr_listQ {X : Cx} : CallR X (.type "list") (rListQ X.K) := call_list_of
theorem g_len {p : Addr} {xs : List V} (h : SqL K H p xs) (q : Q (.int (xs.length : Int)) H) : rLenQ K [V.ref p] H Q := ⟨p, xs, rfl, .inl h, q⟩
theorem g_lenT {p : Addr} {xs : List V} (h : SqT K H p xs) (q : Q (.int (xs.length : Int)) H) : rLenQ K [V.ref p] H Q := ⟨p, xs, rfl, .inr h, q⟩
theorem g_min2 {a b : Int} (q : ∀ c, c ≤ a → c ≤ b → (c = a ∨ c = b) → Q (.int c) H) : rMinQ [V.int a, V.int b] H Q :=
  ⟨a, b, rfl, by split <;> exact q _ (by omega) (by omega) (by omega)⟩
theorem g_max2 {a b : Int} (q : ∀ c, a ≤ c → b ≤ c → (c = a ∨ c = b) → Q (.int c) H) : rMaxQ [V.int a, V.int b] H Q :=
  ⟨a, b, rfl, by split <;> exact q _ (by omega) (by omega) (by omega)⟩
theorem g_abs {a : Int} (q : ∀ c, 0 ≤ c → (c = a ∨ c = -a) → Q (.int c) H) : rAbsQ [V.int a] H Q :=
  ⟨a, rfl, by split <;> exact q _ (by omega) (by omega)⟩
theorem g_intB {b : Bool} (q : Q (.int (if b = true then 1 else 0)) H) : rIntQ [V.bl b] H Q := .inr ⟨b, rfl, q⟩
theorem g_listof {p : Addr} {xs : List V} (h : SqL K H p xs) (k : ∀ l H', H l = none → Same H H' → H' l = some (.lst xs) → Q (.ref l) H') : rListQ K [V.ref p] H Q :=
  ⟨p, xs, rfl, .inl h, fun l hl => k l _ hl (same_new hl) upd_same⟩
theorem bt_len : bootBuiltins "len" = some (.builtin "len") := by decide +kernel
theorem bt_abs : bootBuiltins "abs" = some (.builtin "abs") := by decide +kernel
theorem bt_max : bootBuiltins "max" = some (.builtin "max") := by decide +kernel
theorem bt_min : bootBuiltins "min" = some (.builtin "min") := by decide +kernel
theorem bt_sorted : bootBuiltins "sorted" = some (.builtin "sorted") := by decide +kernel
theorem bt_all : bootBuiltins "all" = some (.builtin "all") := by decide +kernel
theorem bt_any : bootBuiltins "any" = some (.builtin "any") := by decide +kernel
theorem bt_sum : bootBuiltins "sum" = some (.builtin "sum") := by decide +kernel
theorem bt_repr : bootBuiltins "repr" = some (.builtin "repr") := by decide +kernel
theorem bt_isinstance : bootBuiltins "isinstance" = some (.builtin "isinstance") := by decide +kernel
theorem bt_int : bootBuiltins "int" = some (.type "int") := by decide +kernel
theorem bt_bool : bootBuiltins "bool" = some (.type "bool") := by decide +kernel
theorem bt_str : bootBuiltins "str" = some (.type "str") := by decide +kernel
theorem bt_list : bootBuiltins "list" = some (.type "list") := by decide +kernel
theorem bt_tuple : bootBuiltins "tuple" = some (.type "tuple") := by decide +kernel
theorem bt_dict : bootBuiltins "dict" = some (.type "dict") := by decide +kernel
theorem bt_set : bootBuiltins "set" = some (.type "set") := by decide +kernel
/-! ### a power, written out -/
theorem g_pow {a b c : Int} (hc : CPow a b) (e : a ^ b.toNat = c) (q : Q (.int c) H) : rI CPow (fun i j => .int (i ^ j.toNat)) (.int a) (.int b) H Q := ⟨a, b, rfl, rfl, hc, by show Q (.int (a ^ b.toNat)) H; rw [e]; exact q⟩
/-! ### calls of defs -/
theorem g_call {sp : Sp} {dvs : List V} {t : TA} (q : t σ H fun vs H1 => sp (vs ++ dvs) H1 Q E) : tCall sp dvs E t σ H Q := q
theorem g_dip {f : Addr} {m : Int} (hf : H f = some (FlowO f)) (hm : 0 < m) (hb : m.natAbs < 2 ^ 1000) (k : ∀ r H', 0 ≤ r → r < m → Same H H' → Q (.int r) H') : spDip ([V.ref f, V.int m] ++ []) H Q E :=
  ⟨f, m, rfl, hf, hm, hb, fun r H' h0 h1 s => k r H' h0 h1 s⟩
end
/-- below ten thousand million .. (a hundred signs) a number has fewer than a thousand bits -/
theorem small_bits {m : Int} (h : -10000000000000000000000000000000000000000000000000000000000000000000000000000000 ≤ m) (h2 : m ≤ 10000000000000000000000000000000000000000000000000000000000000000000000000000000) : m.natAbs < 2 ^ 1000 := by
  have e : (10000000000000000000000000000000000000000000000000000000000000000000000000000000 : Nat) < 2 ^ 1000 := by decide
  exact Nat.lt_of_le_of_lt (show m.natAbs ≤ 10000000000000000000000000000000000000000000000000000000000000000000000000000000 by omega) e
end Gx

/-! Defs that call repr: they run where no repr is under way (guards), so their promise is kept there -/
namespace Gx
open PySem L2 PySem.Spec PyProof.Rows
structure FnG (P : Program) (w : World) (K : PySem.W.Frag) (mg : Str → Option Value) (base : Heap) (k : Nat) (f : Addr) (fd : FuncData) (ps : List Str) (sp : Sp) : Prop where
  size : ∀ vs H Q E, sp vs H Q E → vs.length = ps.length
  goes : ∀ (A : Around) (outer : List Env) (s : Shared) (H : Hp) (args : Args) (us : List Value) (vs : List V) (Q : VK) (E : XK), A.guards = some [] → Room k A → Env0 P w K mg base A outer s H →
    BindsTo s fd args (ps.zip us) → Vals vs us → sp vs H Q E → codeAny (model P w) A (.call (.ref f) args) (CR CX0 outer P w H s Q E) s
section
variable {P : Program} {w : World} {K : PySem.W.Frag} {mg : Str → Option Value} {base : Heap}
/-- such a def, by its body -/
theorem fnG_of {x qual : Str} {st : Stmt} {f : Addr} {fd : FuncData} {N ps : List Str} {k : Nat} {sp : Sp} (F : Fun K x qual st f fd) (S : FnScope N ps (defScope st)) (size : ∀ vs H Q E, sp vs H Q E → vs.length = ps.length)
    (body : ∀ (cdv : Value) (A : Around) (outer : List Env) (s : Shared) (H : Hp) (vs : List V) (Q : VK) (E : XK), A.guards = some [] → Room k (A.deeper (envOfC qual (defScope st) s.heap.objs.size f cdv)) → sp vs H Q E →
      ∃ t, PSs (cxOf CX0 P w K mg base N qual (defScope st) f cdv A outer s H E).nox (defBody st) t ∧ t { nx := fun _ H' => Q .non H', rt := Q } (start N vs) H) : FnG P w K mg base (k + 1) f fd ps sp := by
  obtain ⟨oc, od, kV, doc, pm, an, cdv, ct, osl, rfl, at_f, code⟩ := F.ex
  refine ⟨size, fun A outer s H args us vs Q E gd room e0 bnd rel hsp => ?_⟩
  have inK : K.In s.heap := e0.mod.kin.keeps fun b o e => (e0.bs b o e).1
  have named : ∀ y ∈ ps.zip us, (defScope st).names.lookup y.1 = some .local ∨ ((defScope st).names.lookup y.1 = some .cell ∧ ((cellsFrom (s.heap.objs.size + 1) (defScope st).names []).lookup y.1).isSome = true) := fun y hy =>
    (S.par y.1 (List.of_mem_zip hy).1).imp id fun q => ⟨q, PySem.W.cellsFrom_some _ _ _ (.inl q)⟩
  refine codeAny_call_function room.depth (inK _ _ at_f) rfl S.co S.gen rfl (PySem.W.codeRec_of inK code) (bnd _ _ _ _ (wpAny_newFunctionEnv_cells S.kind named fun env eqn s1 inc => ?_))
  subst eqn
  refine ⟨(e0.mod.nolimit.keeps fun b o e => (e0.bs b o e).1).keeps inc.toInCall.keep, codeAny_func ?_⟩
  obtain ⟨t, der, rd⟩ := body cdv A outer s H vs Q E gd (room.deeper _) hsp
  have I1 := inv_start (CX := CX0) (E := E) S room.hd e0 (size _ _ _ _ hsp) rel inc
  refine wpAny_mono (der.nox.run [] s1 (start N vs) H _ I1 rd) (fun fl s2 done => ?_) fun _ _ z => z
  cases fl with
  | ret u => obtain ⟨v, σ2, H2, J, rv, q⟩ := done; exact ⟨v, H2, J.os, J.bare, J.base, J.hok, rv, q⟩
  | next => obtain ⟨σ2, H2, J, q⟩ := done; exact ⟨V.non, H2, J.os, J.bare, J.base, J.hok, rfl, q⟩
  | brk => obtain ⟨_, _, _, no⟩ := done; exact no.elim
  | cont => obtain ⟨_, _, _, no⟩ := done; exact no.elim
/-- .. by its name -/
structure CalG (P : Program) (w : World) (K : PySem.W.Frag) (mg : Str → Option Value) (base : Heap) (k : Nat) (x : Str) (sp : Sp) : Prop where
  at_ : ∃ (f : Addr) (fd : FuncData) (ps : List Str), FnG P w K mg base k f fd ps sp ∧ mg x = some (.ref f) ∧ PySem.W.keepIn K (.ref f) = true ∧ Binds K fd ps []
theorem calG_of {x : Str} {st : Stmt} {ps : List Str} {f : Addr} {fd : FuncData} {k : Nat} {sp : Sp} (D : Dn K mg x st ps f fd) (F : FnG P w K mg base k f fd ps sp) : CalG P w K mg base k x sp :=
  ⟨f, fd, ps, F, D.mgf, D.fn.kp, D.bd⟩
end
section
variable {X : Cx} {k j : Nat} {x : Str} {sp : Sp} {e : Expr} {es : List Expr} {t : TA} {p pos : Pos}
theorem pe_cG (c : CalG X.prog X.w X.K X.mg X.base k x sp) (gd : X.A.guards = some []) (hr : Room j X.A) (hk : k ≤ j) (hg : Gl X x) (ha : PA X (e :: es) t)
    (hdb : (x == ("__debug__" : Str)) = false := by decide) (he : starEach (e :: es) X.env = (false, eval e X.env) :: starEach es X.env := by rfl) (hpl : (backTo pos (starEach es X.env)).any (·.1) = false := by rfl) :
    PE X (.Call (.Name x p) (e :: es) [] pos) (tCall sp [] (fun _ _ _ => False) t) := by
  obtain ⟨f, fd, ps, F, named, kept, bnd⟩ := c.at_
  refine ⟨fun pins s σ H Q I h => wpAny_Call_Name_kw (ld_glob I hg named ?_ hdb)⟩
  refine PySem.W.callWith_K (h₀ := X.base) I.ok.mod.kin kept (thn (ha.run pos pins s σ H _ I h) fun us s1 got => ?_) he hpl
  obtain ⟨vs, H1, I1, rel, q⟩ := got
  rw [List.append_nil] at q
  refine ⟨I1.kIn, wpAny_call (codeAny_mono (F.goes X.A X.stack s1 H1 ⟨us, []⟩ us vs Q _ gd (hr.mono hk) I1.env0 ?_ rel q) fun r s2 done => ?_)⟩
  · have b := bnd s1 us I1.kIn (by rw [List.append_nil, ← rel.length]; exact F.size _ _ _ _ q)
    rw [List.append_nil] at b
    exact b
  · cases r with
    | error er => exact done.elim
    | ok fl =>
      cases fl with
      | ret u => exact I1.after done
      | next => exact done.elim
      | brk => exact done.elim
      | cont => exact done.elim
/-- repr of data at any depth -/
def rReprQ (K : PySem.W.Frag) : List V → Hp → VK → Prop := fun xs H Q => ∃ a d, xs = [V.ref a] ∧ Dp K H (.ref a) d ∧ SeqAt.shaped d = true ∧ d.showable = true ∧ d.shown.length ≤ sizeLine ∧ Q (.str d.shown) H
theorem cr_repr (gd : X.A.guards = some []) (hr : Room j X.A) : CallR X (.builtin "repr") (rReprQ X.K) := by
  intro pins s σ H xs us Q I rel h
  obtain ⟨a, d, rfl, dp, sh, sw, sz, q⟩ := h
  cases rel with
  | cons r1 r2 =>
    cases r2
    obtain rfl := r1
    obtain ⟨as, rd⟩ := Dp.reads I d _ _ dp rfl
    have u := hr.units
    have dd := SeqAt.depth_of_shaped sh
    refine repr_of_reads' rd sw (PyData.noDict_hsm (PyData.hasDict_of_canLay d (SeqAt.canLay_of_shaped sh))) gd (by have := hr.un; omega) (fun _ _ z => z) (fun h' u tk kept => ?_) sz
    exact ⟨.str d.shown, H, I.kept kept, ⟨u, rfl⟩, q⟩
end
/-! ### the law's own call -/
section
theorem law_callG {P : Program} {w : World} {K : PySem.W.Frag} {mg mb : Str → Option Value} {k : Nat} {fa a : Addr} {fd : FuncData} {x : Str} {sp : Sp} {s1 : Shared} {vs : List Value} {ns : List Int}
    (inK : K.In s1.heap) (gn : s1.heap.Ns mainGlobals mg) (bn : s1.heap.Ns builtinsNs mb) (bb : ∀ x : Str, x ≠ "__name__" → mb x = bootBuiltins x) (lim : s1.heap.NoLimit) (gens : s1.gens = #[])
    (la : s1.heap.get? a = some { cls := .type "list", data := .seq vs.toArray }) (li : IntsAre vs ns) (ll : ns.length ≤ sizeLine) (room : Room k callerA)
    (F : ∀ base : Heap, K.In base → base.Ns mainGlobals mg → FnG P w K mg base k fa fd [x] sp) (bnd : ∀ (s : Shared) (u : Value), BindsTo s fd ⟨[u], []⟩ [(x, u)])
    (goal : ∀ H : Hp, SqL K H a (ns.map V.int) → sp [.ref a] H (fun v _ => v = .bl true) fun _ _ _ => False) :
    codeAny (model P w) callerA (.call (.ref fa) ⟨[.ref a], []⟩) (fun r s' => r = .ok (.ret (.bool true)) ∧ OldK s1.heap s'.heap ∧ s'.os = s1.os ∧ AllBare s'.gens) s1 := by
  have rel := vals_ints li
  have key : ∀ H : Hp, Only H → SqL K H a (ns.map V.int) → HOk P w H s1.heap → (∀ b u, H b = some u → b = a ∧ K.lookup a = none) →
      codeAny (model P w) callerA (.call (.ref fa) ⟨[.ref a], []⟩) (fun r s' => r = .ok (.ret (.bool true)) ∧ OldK s1.heap s'.heap ∧ s'.os = s1.os ∧ AllBare s'.gens) s1 := by
    intro H only sq hok at_a
    have nd : ∀ {b : Addr} {o : Obj} {es : Array DictEntry} {ep : Nat}, s1.heap.get? b = some o → o.data = .dict es ep → H b = none := fun {b o es ep} e d => by
      cases q : H b with
      | none => rfl
      | some u =>
        obtain ⟨rfl, _⟩ := at_a b u q
        rw [la] at e
        obtain rfl := Option.some.inj e
        exact (show False by cases (show Data.seq vs.toArray _ = Data.dict es ep from d)).elim
    have hid : ∀ {b : Addr} {m : Str → Option Value}, s1.heap.Ns b m → (hidT s1.heap H).Ns b m := fun {b m} ⟨o, es, ep, e, d, r⟩ => ⟨o, es, ep, hidT_get e (nd e d), d, r⟩
    have inB : K.In (hidT s1.heap H) := fun b o e => hidT_get (inK b o e) (by
      cases q : H b with
      | none => rfl
      | some u =>
        obtain ⟨rfl, no⟩ := at_a b u q
        rw [no] at e
        cases e)
    have md : Mod K mg (hidT s1.heap H) := ⟨inB, hid gn, ⟨mb, hid bn, bb⟩, (by obtain ⟨mc, h1, h2⟩ := lim; exact ⟨mc, hid h1, h2⟩)⟩
    have st : Env0 P w K mg (hidT s1.heap H) callerA [] s1 H := ⟨rfl, md, fun b o e => of_hidT e, Nat.le_of_eq (hidT_size _ _), trivial, (fun b hb => nomatch hb), hok, .of_eq gens⟩
    refine codeAny_mono ((F _ inB (hid gn)).goes callerA [] s1 H ⟨[.ref a], []⟩ [.ref a] [.ref a] _ _ rfl room st (bnd s1 (.ref a)) (.cons rfl .nil) (goal H sq)) fun r s2 done => ?_
    cases r with
    | error e => exact done.elim
    | ok fl =>
      cases fl with
      | next => exact done.elim
      | brk => exact done.elim
      | cont => exact done.elim
      | ret u =>
        obtain ⟨v, H2, os, bare, un, hok2, rv, q⟩ := done
        obtain rfl : v = .bl true := q
        obtain rfl : u = Value.bool true := rv
        refine ⟨rfl, OldK.of_keep fun b o e => ?_, os, bare⟩
        cases q : H b with
        | none => exact un.keep b o e q (fun z => nomatch z) (fun z => nomatch z)
        | some u =>
          rcases only b with z | ⟨ob, xs, z⟩
          · exact absurd (q.symm.trans z) (by simp)
          · have e1 := (hok b _ z).1
            have e2 := (hok2 b _ (un.frzs b ob _ z)).1
            obtain rfl := Option.some.inj (e.symm.trans e1)
            exact e2
  cases hk : K.lookup a with
  | some o =>
    have e := (inK a o hk).symm.trans la
    obtain rfl := Option.some.inj e
    exact key (fun _ => none) (fun _ => .inl rfl) (.inr ⟨_, vs.toArray, _, hk, rfl, rfl, rfl, by rw [List.size_toArray, li.length]; exact ll, by simpa using rel⟩) (fun b u z => by cases (show (none : Option HO) = some u from z)) fun b u z => by cases (show (none : Option HO) = some u from z)
  | none =>
    have one : ∀ (b : Addr) (u : HO), (if b = a then some (HO.frz { cls := .type "list", data := .seq vs.toArray } (.lst (ns.map V.int))) else none) = some u → b = a ∧ u = HO.frz { cls := .type "list", data := .seq vs.toArray } (.lst (ns.map V.int)) := fun b u z => by
      split at z
      · exact ⟨by assumption, (Option.some.inj z).symm⟩
      · cases z
    refine key (fun b => if b = a then some (.frz { cls := .type "list", data := .seq vs.toArray } (.lst (ns.map V.int))) else none) (fun b => ?_) (.inl (.inr ⟨{ cls := .type "list", data := .seq vs.toArray }, if_pos rfl⟩)) (fun b u z => ?_) fun b u z => ⟨(one b u z).1, hk⟩
    · by_cases hb : b = a
      · exact .inr ⟨_, _, if_pos hb⟩
      · exact .inl (if_neg hb)
    · obtain ⟨rfl, rfl⟩ := one b u z
      exact ⟨la, by rw [List.length_map]; exact ll, vs, _, rel, la⟩
theorem walkG {l : PySem.W.OpenLaw} {n k : Nat} {q : Program} {loose : List Str} {XP : (Str → Option Value) → Heap → Prop} {YP : World → Heap → Prop} {d : DefRec} {K : Params → PySem.W.Frag} {sp : PySem.W.Frag → Sp} {x : Str}
    (hn : l.most = some n) (hn2 : n ≤ sizeLine) (hdf : d.params.defaults = []) (hr : Room k callerA) (hY : ∀ (w : World) (h : Heap), YP w h → (K w.params).In h)
    (F : ∀ (w : World) (mg : Str → Option Value) (fa : Addr) (h : Heap), (K w.params).In h → h.Ns mainGlobals mg → mg d.name = some (.ref fa) →
      ∃ fd : FuncData, (∀ (s : Shared) (u : Value), BindsTo s fd ⟨[u], []⟩ [(x, u)]) ∧ ∀ base : Heap, (K w.params).In base → base.Ns mainGlobals mg → FnG l.prog w (K w.params) mg base k fa fd [x] (sp (K w.params)))
    (hsp : ∀ (K : PySem.W.Frag) (H : Hp) (a : Addr) (ns : List Int), ns.length ≤ n → SqL K H a (ns.map V.int) → sp K [.ref a] H (fun v _ => v = .bl true) fun _ _ _ => False) :
    PySem.W.WalkO q loose XP YP l.row.toRowW d [] (fun f vs => PySem.call f vs) := by
  refine Att.attach_call hn hdf fun w s₀ s1 mg mb fa o pm cd doc a vs ns G Y ho hd hcd named hobj hints few hg => ?_
  have inK := hY w _ Y
  obtain ⟨fd, bnd, mk⟩ := F w mg fa _ inK G.T.g named
  exact law_callG inK G.T.g G.T.b G.T.builtins G.T.nolimit hg hobj hints (Nat.le_trans few hn2) hr mk bnd fun H sq => hsp (K w.params) H a ns few sq
end
end Gx

set_option exponentiation.threshold 5000
/-! Data: what two of them have in common, how long their texts are -/
namespace Gx
open PySem L2
mutual
/-- no truth value, no dict -/
def bare : PyData → Bool
  | .none | .int _ | .str _ => true
  | .bool _ | .dict _ => false
  | .list xs | .tuple xs => bareAll xs
def bareAll : List PyData → Bool
  | [] => true
  | x :: xs => bare x && bareAll xs
end
theorem bareAll_iff : ∀ {xs : List PyData}, bareAll xs = true ↔ ∀ x ∈ xs, bare x = true
  | [] => by simp [bareAll]
  | x :: xs => by simp [bareAll, bareAll_iff (xs := xs)]
mutual
theorem eqv_is : ∀ d e : PyData, bare d = true → bare e = true → (PyData.eqv d e = true ↔ d = e)
  | .none, .none, _, _ => by simp [PyData.eqv]
  | .none, .int _, _, _ => by simp [PyData.eqv]
  | .none, .str _, _, _ => by simp [PyData.eqv]
  | .none, .list _, _, _ => by simp [PyData.eqv]
  | .none, .tuple _, _, _ => by simp [PyData.eqv]
  | .int _, .none, _, _ => by simp [PyData.eqv]
  | .int i, .int j, _, _ => by simp [PyData.eqv]
  | .int _, .str _, _, _ => by simp [PyData.eqv]
  | .int _, .list _, _, _ => by simp [PyData.eqv]
  | .int _, .tuple _, _, _ => by simp [PyData.eqv]
  | .str _, .none, _, _ => by simp [PyData.eqv]
  | .str _, .int _, _, _ => by simp [PyData.eqv]
  | .str x, .str y, _, _ => by simp [PyData.eqv]
  | .str _, .list _, _, _ => by simp [PyData.eqv]
  | .str _, .tuple _, _, _ => by simp [PyData.eqv]
  | .list _, .none, _, _ => by simp [PyData.eqv]
  | .list _, .int _, _, _ => by simp [PyData.eqv]
  | .list _, .str _, _, _ => by simp [PyData.eqv]
  | .list xs, .list ys, h1, h2 => by
    simp only [PyData.eqv, PyData.list.injEq]
    exact eqv_isAll xs ys (by simpa [bare] using h1) (by simpa [bare] using h2)
  | .list _, .tuple _, _, _ => by simp [PyData.eqv]
  | .tuple _, .none, _, _ => by simp [PyData.eqv]
  | .tuple _, .int _, _, _ => by simp [PyData.eqv]
  | .tuple _, .str _, _, _ => by simp [PyData.eqv]
  | .tuple _, .list _, _, _ => by simp [PyData.eqv]
  | .tuple xs, .tuple ys, h1, h2 => by
    simp only [PyData.eqv, PyData.tuple.injEq]
    exact eqv_isAll xs ys (by simpa [bare] using h1) (by simpa [bare] using h2)
  | .bool _, _, h, _ => by simp [bare] at h
  | .dict _, _, h, _ => by simp [bare] at h
  | _, .bool _, _, h => by simp [bare] at h
  | _, .dict _, _, h => by simp [bare] at h
theorem eqv_isAll : ∀ xs ys : List PyData, bareAll xs = true → bareAll ys = true → (PyData.eqvAll xs ys = true ↔ xs = ys)
  | [], [], _, _ => by simp [PyData.eqvAll]
  | [], _ :: _, _, _ => by simp [PyData.eqvAll]
  | _ :: _, [], _, _ => by simp [PyData.eqvAll]
  | x :: xs, y :: ys, h1, h2 => by
    simp only [bareAll, Bool.and_eq_true] at h1 h2
    simp only [PyData.eqvAll, Bool.and_eq_true, eqv_is x y h1.1 h2.1, eqv_isAll xs ys h1.2 h2.2, List.cons.injEq]
end
theorem eqv_yes {d e : PyData} (h1 : bare d = true) (h2 : bare e = true) (h : d = e) : PyData.eqv d e = true := (eqv_is d e h1 h2).mpr h
theorem eqv_no {d e : PyData} (h1 : bare d = true) (h2 : bare e = true) (h : ¬ d = e) : PyData.eqv d e = false := by
  cases q : PyData.eqv d e with
  | false => rfl
  | true => exact absurd ((eqv_is d e h1 h2).mp q) h
/-! ### small data -/
mutual
/-- ints of at most eighty digits, short texts, lists and tuples of such -/
def small : PyData → Bool
  | .none | .bool _ => true
  | .int i => decide (-100000000000000000000000000000000000000000000000000000000000000000000000000000000 ≤ i) && decide (i ≤ 100000000000000000000000000000000000000000000000000000000000000000000000000000000)
  | .str x => decide ((PySem.reprText x).length ≤ 100) && PyData.strOk x
  | .list xs | .tuple xs => smallAll xs
  | .dict _ => false
def smallAll : List PyData → Bool
  | [] => true
  | x :: xs => small x && smallAll xs
end
theorem smallAll_iff : ∀ {xs : List PyData}, smallAll xs = true ↔ ∀ x ∈ xs, small x = true
  | [] => by simp [smallAll]
  | x :: xs => by simp [smallAll, smallAll_iff (xs := xs)]
theorem log_of {i : Int} (h : (decide (-100000000000000000000000000000000000000000000000000000000000000000000000000000000 ≤ i) && decide (i ≤ 100000000000000000000000000000000000000000000000000000000000000000000000000000000)) = true) : i.natAbs.log2 < 1920 := by
  simp only [Bool.and_eq_true, decide_eq_true_eq] at h
  have b : i.natAbs < 2 ^ 1000 := by
    have e : (100000000000000000000000000000000000000000000000000000000000000000000000000000000 : Nat) < 2 ^ 1000 := by decide
    omega
  exact Nat.lt_of_lt_of_le (PySem.Flt.log2_lt_of (by decide : 0 < 1000) b) (by decide)
mutual
theorem small_show : ∀ d : PyData, small d = true → d.showable = true
  | .none, _ => by simp only [PyData.showable]
  | .bool _, _ => by simp only [PyData.showable]
  | .str _, _ => by simp only [PyData.showable]
  | .int i, h => by
    simp only [small] at h
    simp only [PyData.showable, decide_eq_true_eq]
    exact log_of h
  | .list xs, h => by
    simp only [small] at h
    simp only [PyData.showable]
    exact small_showAll xs h
  | .tuple xs, h => by
    simp only [small] at h
    simp only [PyData.showable]
    exact small_showAll xs h
  | .dict _, h => by simp [small] at h
theorem small_showAll : ∀ xs : List PyData, smallAll xs = true → PyData.showableAll xs = true
  | [], _ => by simp only [PyData.showableAll]
  | x :: xs, h => by
    simp only [smallAll, Bool.and_eq_true] at h
    simp only [PyData.showableAll, small_show x h.1, small_showAll xs h.2, Bool.and_self]
end
mutual
theorem small_lay : ∀ d : PyData, small d = true → d.canLay0 = true
  | .none, _ => by simp only [PyData.canLay0]
  | .bool _, _ => by simp only [PyData.canLay0]
  | .str _, h => by
    simp only [small, Bool.and_eq_true] at h
    simp only [PyData.canLay0]
    exact h.2
  | .int i, h => by simp only [PyData.canLay0]
  | .list xs, h => by
    simp only [small] at h
    simp only [PyData.canLay0]
    exact small_layAll xs h
  | .tuple xs, h => by
    simp only [small] at h
    simp only [PyData.canLay0]
    exact small_layAll xs h
  | .dict _, h => by simp [small] at h
theorem small_layAll : ∀ xs : List PyData, smallAll xs = true → PyData.canLayAll0 xs = true
  | [], _ => by simp only [PyData.canLayAll0]
  | x :: xs, h => by
    simp only [smallAll, Bool.and_eq_true] at h
    simp only [PyData.canLayAll0, small_lay x h.1, small_layAll xs h.2, Bool.and_self]
end
/-! ### the length of a text -/
mutual
def cnt : PyData → Nat
  | .none | .bool _ | .int _ | .str _ | .dict _ => 1
  | .list xs | .tuple xs => cntAll xs + 1
def cntAll : List PyData → Nat
  | [] => 0
  | x :: xs => cnt x + cntAll xs
end
theorem listText_le (ts : List Str) : (listText ts).length ≤ piled ts + 2 := by
  cases ts with
  | nil => exact (by decide : (listText []).length ≤ 0 + 2)
  | cons t r =>
    have h := textFrom_length_pos r 1 (("[" : Str) ++ (if (0 : Nat) > 0 then ", " else "" : String) ++ t) (Nat.succ_pos 0)
    have e : ((("[" : Str) ++ (if (0 : Nat) > 0 then ", " else "" : String) ++ t)).length = 1 + t.length := by
      rw [strLen_append, strLen_append]
      rfl
    have z : (listText (t :: r)).length = (textFrom 1 (("[" : Str) ++ (if (0 : Nat) > 0 then ", " else "" : String) ++ t) r).length + 1 := by
      show ((textFrom 1 (("[" : Str) ++ (if (0 : Nat) > 0 then ", " else "" : String) ++ t) r) ++ "]").length = _
      rw [strLen_append]
      rfl
    rw [z, h, e, piled_cons]
    omega
theorem tupleText_le (ts : List Str) : (tupleText ts).length ≤ piled ts + 3 := by
  unfold tupleText
  rw [strLen_append, strLen_append]
  have e1 : ((("(" : String) : Str)).length = 1 := rfl
  have e3 : (((if ts.length == 1 then ",)" else ")" : String) : Str)).length ≤ 2 := by split <;> decide
  have e2 : (Str.join ", " ts).length ≤ piled ts := by
    by_cases h : ts = []
    · subst h
      exact (by decide : (Str.join ", " []).length ≤ 0)
    · have := join_length_add ts h
      omega
  omega
theorem int_len {i : Int} (h : (decide (-100000000000000000000000000000000000000000000000000000000000000000000000000000000 ≤ i) && decide (i ≤ 100000000000000000000000000000000000000000000000000000000000000000000000000000000)) = true) : (Str.ofString (toString i)).length ≤ 82 := by
  simp only [Bool.and_eq_true, decide_eq_true_eq] at h
  have b : i.natAbs < 10 ^ 81 := by
    have e : (100000000000000000000000000000000000000000000000000000000000000000000000000000000 : Nat) < 10 ^ 81 := by decide
    omega
  have q := int_text_length_le10 (a := i) (k := 81) (by decide) b
  rw [ofString_length]
  exact q
mutual
theorem shown_le : ∀ d : PyData, small d = true → d.shown.length + 6 ≤ 130 * cnt d
  | .none, _ => by
    simp only [PyData.shown, cnt]
    exact (by decide : (("None" : String) : Str).length + 6 ≤ 130 * 1)
  | .bool b, _ => by
    simp only [PyData.shown, cnt]
    cases b <;> decide
  | .str x, h => by
    simp only [small, Bool.and_eq_true, decide_eq_true_eq] at h
    simp only [PyData.shown, cnt]
    have := h.1
    omega
  | .int i, h => by
    simp only [small] at h
    have := int_len h
    simp only [PyData.shown, cnt]
    show (Str.ofString (toString i)).length + 6 ≤ 130 * 1
    omega
  | .list xs, h => by
    simp only [small] at h
    have q := shown_leAll xs h
    have z := listText_le (PyData.shownAll xs)
    simp only [PyData.shown, cnt]
    omega
  | .tuple xs, h => by
    simp only [small] at h
    have q := shown_leAll xs h
    have z := tupleText_le (PyData.shownAll xs)
    simp only [PyData.shown, cnt]
    omega
  | .dict _, h => by simp [small] at h
theorem shown_leAll : ∀ xs : List PyData, smallAll xs = true → piled (PyData.shownAll xs) ≤ 130 * cntAll xs
  | [], _ => by simp [PyData.shownAll, cntAll, piled]
  | x :: xs, h => by
    simp only [smallAll, Bool.and_eq_true] at h
    have a := shown_le x h.1
    have b := shown_leAll xs h.2
    simp only [PyData.shownAll, cntAll, piled_cons]
    omega
end
theorem cntAll_le {c : Nat} : ∀ {xs : List PyData}, (∀ x ∈ xs, cnt x ≤ c) → cntAll xs ≤ c * xs.length
  | [], _ => by simp [cntAll]
  | x :: xs, h => by
    have a := h x List.mem_cons_self
    have b := cntAll_le (xs := xs) fun y hy => h y (List.mem_cons_of_mem _ hy)
    simp only [cntAll, List.length_cons, Nat.mul_succ]
    omega
theorem depthAll_le {c : Nat} : ∀ {xs : List PyData}, (∀ x ∈ xs, x.depth ≤ c) → PyData.depthAll xs ≤ c
  | [], _ => by simp [PyData.depthAll]
  | x :: xs, h => by
    have a := h x List.mem_cons_self
    have b := depthAll_le (xs := xs) fun y hy => h y (List.mem_cons_of_mem _ hy)
    simp only [PyData.depthAll]
    omega
/-- small, nested at most n deep, of at most m parts -/
structure Fine (n m : Nat) (d : PyData) : Prop where
  sm : small d = true
  dp : d.depth ≤ n
  ct : cnt d ≤ m
theorem Fine.shaped {n m : Nat} {d : PyData} (h : Fine n m d) (hn : n ≤ 64) : SeqAt.shaped d = true := by
  unfold SeqAt.shaped
  rw [small_lay d h.sm, decide_eq_true (Nat.le_trans h.dp hn)]
  rfl
theorem Fine.text {n m : Nat} {d : PyData} (h : Fine n m d) (hm : m ≤ 100000) : d.shown.length ≤ sizeLine := by
  have a := shown_le d h.sm
  have b := h.ct
  rw [sizeLine_eq]
  omega
theorem fine_none {n : Nat} : Fine n 1 .none := ⟨by simp [small], by simp [PyData.depth], by simp [cnt]⟩
theorem fine_bool {n : Nat} (b : Bool) : Fine n 1 (.bool b) := ⟨by simp [small], by simp [PyData.depth], by simp [cnt]⟩
theorem fine_int {n : Nat} {i : Int} (h1 : -100000000000000000000000000000000000000000000000000000000000000000000000000000000 ≤ i) (h2 : i ≤ 100000000000000000000000000000000000000000000000000000000000000000000000000000000) : Fine n 1 (.int i) :=
  ⟨by simp [small, h1, h2], by simp [PyData.depth], by simp [cnt]⟩
theorem fine_str {n : Nat} {x : Str} (h1 : (PySem.reprText x).length ≤ 100) (h2 : PyData.strOk x = true) : Fine n 1 (.str x) := ⟨by simp [small, h1, h2], by simp [PyData.depth], by simp [cnt]⟩
theorem fine_list {n m : Nat} {xs : List PyData} (h : ∀ x ∈ xs, Fine n m x) : Fine (n + 1) (m * xs.length + 1) (.list xs) :=
  ⟨by simp only [small]; exact smallAll_iff.mpr fun x hx => (h x hx).sm, by simp only [PyData.depth]; have := depthAll_le fun x hx => (h x hx).dp; omega, by simp only [cnt]; have := cntAll_le fun x hx => (h x hx).ct; omega⟩
theorem fine_tuple {n m : Nat} {xs : List PyData} (h : ∀ x ∈ xs, Fine n m x) : Fine (n + 1) (m * xs.length + 1) (.tuple xs) :=
  ⟨by simp only [small]; exact smallAll_iff.mpr fun x hx => (h x hx).sm, by simp only [PyData.depth]; have := depthAll_le fun x hx => (h x hx).dp; omega, by simp only [cnt]; have := cntAll_le fun x hx => (h x hx).ct; omega⟩
theorem Fine.mono {n m n' m' : Nat} {d : PyData} (h : Fine n m d) (hn : n ≤ n') (hm : m ≤ m') : Fine n' m' d := ⟨h.sm, Nat.le_trans h.dp hn, Nat.le_trans h.ct hm⟩
/-! ### data in a heap that keeps what it had -/
section
variable {K : PySem.W.Frag} {H H' : Hp}
mutual
theorem dp_same (s : Same H H') : ∀ (d : PyData) (v : V), Dp K H v d → Dp K H' v d
  | .none, _, h => by cases h; exact .non
  | .bool b, _, h => by cases h; exact .bl b
  | .int i, _, h => by cases h; exact .int i
  | .str x, _, h => by cases h; exact .str x
  | .list ds, _, h => by
    cases h with
    | lst a b => exact .lst (same_sq s a) (dp_sameAll s ds _ b)
  | .tuple ds, _, h => by
    cases h with
    | tup a b => exact .tup (same_sqT s a) (dp_sameAll s ds _ b)
  | .dict _, _, h => by cases h
theorem dp_sameAll (s : Same H H') : ∀ (ds : List PyData) (vs : List V), DpAll K H vs ds → DpAll K H' vs ds
  | [], _, h => by cases h; exact .nil
  | d :: ds, _, h => by
    cases h with
    | cons a b => exact .cons (dp_same s d _ a) (dp_sameAll s ds _ b)
end
theorem dpAll_ints : ∀ (ns : List Int), DpAll K H (ns.map V.int) (ns.map PyData.int)
  | [] => .nil
  | n :: ns => .cons (.int n) (dpAll_ints ns)
theorem dpAll_len : ∀ {vs : List V} {ds : List PyData}, DpAll K H vs ds → vs.length = ds.length
  | _, _, .nil => rfl
  | _, _, .cons _ r => congrArg (· + 1) (dpAll_len r)
theorem dpAll_append : ∀ {vs ws : List V} {ds es : List PyData}, DpAll K H vs ds → DpAll K H ws es → DpAll K H (vs ++ ws) (ds ++ es)
  | _, _, _, _, .nil, s => s
  | _, _, _, _, .cons a r, s => .cons a (dpAll_append r s)
theorem dpAll_get : ∀ {vs : List V} {ds : List PyData} {i : Nat} {v : V}, DpAll K H vs ds → vs[i]? = some v → ∃ d, ds[i]? = some d ∧ Dp K H v d
  | _, _, _, _, .nil, e => by simp at e
  | _, _, 0, _, .cons a _, e => by
    simp at e
    subst e
    exact ⟨_, rfl, a⟩
  | _, _, i + 1, _, .cons _ r, e => by
    obtain ⟨d, h1, h2⟩ := dpAll_get (i := i) r (by simpa using e)
    exact ⟨d, by simpa using h1, h2⟩
variable {Q : VK} {x y : V} {d e : PyData}
theorem g_eqD (h1 : Dp K H x d) (h2 : Dp K H y e) (s1 : SeqAt.shaped d = true) (s2 : SeqAt.shaped e = true) (q : Q (.bl (PyData.eqv d e)) H) : rEqD K x y H Q := ⟨d, e, h1, h2, s1, s2, q⟩
theorem g_neD (h1 : Dp K H x d) (h2 : Dp K H y e) (s1 : SeqAt.shaped d = true) (s2 : SeqAt.shaped e = true) (q : Q (.bl (!PyData.eqv d e)) H) : rNeD K x y H Q := ⟨d, e, h1, h2, s1, s2, q⟩
theorem g_repr {a : Addr} {n m : Nat} (h : Dp K H (.ref a) d) (f : Fine n m d) (hn : n ≤ 64) (hm : m ≤ 100000) (q : Q (.str d.shown) H) : rReprQ K [V.ref a] H Q := ⟨a, d, rfl, h, f.shaped hn, small_show d f.sm, f.text hm, q⟩
/-- == of a list of ints with the empty list -/
theorem shaped_ints (ns : List Int) : SeqAt.shaped (.list (ns.map PyData.int)) = true := by
  unfold SeqAt.shaped
  have h1 : PyData.canLayAll0 (ns.map PyData.int) = true := by
    induction ns with
    | nil => simp [PyData.canLayAll0]
    | cons n ns ih => simp [PyData.canLayAll0, PyData.canLay0, ih]
  have h2 : PyData.depthAll (ns.map PyData.int) ≤ 0 := depthAll_le fun x hx => by
    obtain ⟨n, _, rfl⟩ := List.mem_map.mp hx
    simp [PyData.depth]
  have h3 : PyData.depthAll (ns.map PyData.int) + 1 ≤ 64 := by omega
  simp [PyData.canLay0, PyData.depth, h1, h3]
theorem bare_ints (ns : List Int) : bare (.list (ns.map PyData.int)) = true := by
  simp only [bare]
  exact bareAll_iff.mpr fun x hx => by
    obtain ⟨n, _, rfl⟩ := List.mem_map.mp hx
    simp [bare]
theorem dp_ints {p : Addr} {ns : List Int} (h : SqL K H p (ns.map V.int)) : Dp K H (.ref p) (.list (ns.map PyData.int)) := .lst h (dpAll_ints ns)
theorem ints_inj {ns ms : List Int} : PyData.list (ns.map PyData.int) = PyData.list (ms.map PyData.int) ↔ ns = ms := by
  constructor
  · intro h
    injection h with h
    induction ns generalizing ms with
    | nil => cases ms with
      | nil => rfl
      | cons m ms => simp at h
    | cons n ns ih => cases ms with
      | nil => simp at h
      | cons m ms =>
        simp only [List.map_cons, List.cons.injEq, PyData.int.injEq] at h
        rw [h.1, ih h.2]
  · intro h
    rw [h]
theorem g_eqI {p q : Addr} {ns ms : List Int} (h1 : SqL K H p (ns.map V.int)) (h2 : SqL K H q (ms.map V.int)) (k : Q (.bl (decide (ns = ms))) H) : rEqD K (.ref p) (.ref q) H Q := by
  refine g_eqD (dp_ints h1) (dp_ints h2) (shaped_ints _) (shaped_ints _) ?_
  have e : PyData.eqv (.list (ns.map PyData.int)) (.list (ms.map PyData.int)) = decide (ns = ms) := by
    by_cases h : ns = ms
    · rw [decide_eq_true h, eqv_yes (bare_ints _) (bare_ints _) (by rw [h])]
    · rw [decide_eq_false h, eqv_no (bare_ints _) (bare_ints _) (fun z => h (ints_inj.mp z))]
  rw [e]
  exact k
end
end Gx

/-! Comprehensions: what the new list is, by a word of the turn and what is made so far -/
namespace Gx
open PySem L2
/-- the turns of a comprehension, its source known -/
def LC (g : TG) (tt : TT) (te : TE) (vs : List Nat) (J : It) (σ : L2.St) (H1 : Hp) (Q : VK) : Prop := ∀ D, H1 D = none → ∃ W : Nat → Nat → Hp → Prop, (∃ m, W 0 m (upd H1 D (.lst []))) ∧ ∀ i m H, W i m H →
  (J.stop i H ∧ Q (.ref D) H) ∨ (J.go i H ∧ ∃ Nx : Hp → Prop, (∀ H', Nx H' → ∃ m', m' < m ∧ W (i + 1) m' H') ∧ ∀ x H', J.yld i H x H' → g x (wipe σ vs) H' fun σ2 H2 => wipe σ2 vs = wipe σ vs ∧ tt σ2 H2 fun b H3 =>
    if b = true then te σ2 H3 fun y H4 => ∃ acc, H4 D = some (.lst acc) ∧ acc.length < sizeLine ∧ Nx (upd H4 D (.lst (acc ++ [y]))) else Nx H3)
/-- a source of n items -/
def Src (J : It) (H1 : Hp) (n : Nat) (item : Nat → V → Hp → Prop) : Prop := ∀ i H, Same H1 H → (i < n → J.go i H ∧ ∀ x H', J.yld i H x H' → Same H H' ∧ item i x H') ∧ (n ≤ i → J.stop i H)
/-- all but one address stay -/
def But (D : Addr) (H H' : Hp) : Prop := ∀ a o, a ≠ D → H a = some o → H' a = some o
section
variable {σ : L2.St} {H H1 : Hp} {Q : VK} {K : PySem.W.Frag} {te tl : TE} {tt : TT} {g : TG} {vs : List Nat} {J : It} {n j : Nat}
theorem g_lc {wi : TI} (q : wi σ H fun J H1 => LC g tt te vs J σ H1 Q) : tLc wi g tt te vs σ H Q := q
theorem src_list {a : Addr} {xs : List V} (h : SqL K H1 a xs) : Src (Itl K a) H1 xs.length (fun i x _ => xs[i]? = some x) := fun i H s => by
  have hh := same_sq s h
  refine ⟨fun hi => ⟨⟨xs, xs[i], hh, List.getElem?_eq_getElem hi⟩, fun x H' y => ?_⟩, fun hi => ⟨xs, hh, hi⟩⟩
  obtain ⟨rfl, q⟩ := y
  exact ⟨Same.refl _, q xs hh⟩
theorem src_tup {a : Addr} {xs : List V} (h : SqT K H1 a xs) : Src (Itt K a) H1 xs.length (fun i x _ => xs[i]? = some x) := fun i H s => by
  have hh := same_sqT s h
  refine ⟨fun hi => ⟨⟨xs, xs[i], hh, List.getElem?_eq_getElem hi⟩, fun x H' y => ?_⟩, fun hi => ⟨xs, hh, hi⟩⟩
  obtain ⟨rfl, q⟩ := y
  exact ⟨Same.refl _, q xs hh⟩
theorem src_rng {lo : Int} : Src (Itr lo n) H1 n (fun i x _ => x = .int (lo + i)) := fun i H s =>
  ⟨fun hi => ⟨hi, fun x H' y => by obtain ⟨rfl, q⟩ := y; exact ⟨Same.refl _, q⟩⟩, fun hi => hi⟩
theorem src_zip {a b : Addr} {xs ys : List V} (ha : SqL K H1 a xs) (hb : SqL K H1 b ys) : Src (Itz K a b) H1 (min xs.length ys.length) (fun i v H => ∃ T x y, v = .ref T ∧ H T = some (.tup [x, y]) ∧ xs[i]? = some x ∧ ys[i]? = some y) := fun i H s => by
  have h1 := same_sq s ha
  have h2 := same_sq s hb
  refine ⟨fun hi => ⟨⟨xs, ys, xs[i]'(by omega), ys[i]'(by omega), h1, h2, List.getElem?_eq_getElem _, List.getElem?_eq_getElem _⟩, fun v H' q => ?_⟩, fun hi => ⟨xs, ys, h1, h2, by omega⟩⟩
  obtain ⟨T, x, y, rfl, hT, rfl, qx, qy⟩ := q
  exact ⟨same_new hT, T, x, y, rfl, upd_same, qx xs h1, qy ys h2⟩
/-- THE RULE: A is true of the turn and of what is made so far -/
theorem lc_src {item : Nat → V → Hp → Prop} (src : Src J H1 n item) (hn : n ≤ 100000) (A : Nat → List V → Hp → Prop)
    (mono : ∀ i acc l D H H', H D = some (.lst l) → H1 D = none → Same H1 H → But D H H' → A i acc H → A i acc H') (A0 : ∀ H, Same H1 H → A 0 [] H)
    (turn : ∀ i x acc H' (Nx : V → Hp → Prop) (No : Hp → Prop), i < n → Same H1 H' → item i x H' → A i acc H' → acc.length ≤ i → (∀ y H4, Same H' H4 → A (i + 1) (acc ++ [y]) H4 → Nx y H4) → (∀ H4, Same H' H4 → A (i + 1) acc H4 → No H4) →
      g x (wipe σ vs) H' fun σ2 H2 => wipe σ2 vs = wipe σ vs ∧ tt σ2 H2 fun b H3 => if b = true then te σ2 H3 Nx else No H3)
    (done : ∀ D acc H', H1 D = none → Same H1 H' → H' D = some (.lst acc) → A n acc H' → acc.length ≤ n → Q (.ref D) H') : LC g tt te vs J σ H1 Q := by
  intro D hD
  refine ⟨fun i m H => m = n - i ∧ i ≤ n ∧ ∃ acc, Same H1 H ∧ H D = some (.lst acc) ∧ A i acc H ∧ acc.length ≤ i, ⟨n, rfl, Nat.zero_le _, [], same_new hD, upd_same, A0 _ (same_new hD), Nat.le_refl _⟩, ?_⟩
  rintro i m H ⟨rfl, hi, acc, s, e, a, hl⟩
  rcases Nat.lt_or_ge i n with lt | ge
  · right
    obtain ⟨go, yl⟩ := (src i H s).1 lt
    refine ⟨go, fun H' => i + 1 ≤ n ∧ ∃ acc, Same H1 H' ∧ H' D = some (.lst acc) ∧ A (i + 1) acc H' ∧ acc.length ≤ i + 1, fun H' ⟨l1, q⟩ => ⟨n - (i + 1), by omega, rfl, l1, q⟩, fun x H' y => ?_⟩
    obtain ⟨s2, it⟩ := yl x H' y
    have s12 := s.trans s2
    refine turn i x acc H' _ _ lt s12 it (mono i acc acc D H H' e hD s (fun b o _ z => s2 b o z) a) hl (fun y H4 s4 a4 => ?_) (fun H4 s4 a4 => ?_)
    · have e4 := s4 _ _ (s2 _ _ e)
      have s14 := s12.trans s4
      refine ⟨acc, e4, big_lt (by omega), lt, acc ++ [y], same_mut s14 hD, upd_same, mono (i + 1) (acc ++ [y]) acc D H4 _ e4 hD s14 (fun b o nb z => by rw [upd_ne nb]; exact z) a4, by rw [List.length_append]; exact Nat.succ_le_succ hl⟩
    · exact ⟨lt, acc, s12.trans s4, s4 _ _ (s2 _ _ e), a4, Nat.le_succ_of_le hl⟩
  · left
    have e0 : i = n := Nat.le_antisymm hi ge
    subst e0
    exact ⟨(src i H s).2 ge, done D acc H hD s e a hl⟩
/-- no test; each item makes a value that is what P says -/
theorem lc_map {item : Nat → V → Hp → Prop} (src : Src J H1 n item) (hn : n ≤ 100000) (P : Nat → V → Prop)
    (turn : ∀ i x H' (Nx : V → Hp → Prop), i < n → Same H1 H' → item i x H' → (∀ y H4, Same H' H4 → P i y → Nx y H4) → g x (wipe σ vs) H' fun σ2 H2 => wipe σ2 vs = wipe σ vs ∧ te σ2 H2 Nx)
    (done : ∀ D acc H', H1 D = none → Same H1 H' → H' D = some (.lst acc) → acc.length = n → (∀ (i : Nat) y, acc[i]? = some y → P i y) → Q (.ref D) H') : LC g tYes te vs J σ H1 Q := by
  refine lc_src src hn (fun i acc _ => acc.length = i ∧ ∀ (k : Nat) y, acc[k]? = some y → P k y) (fun _ _ _ _ _ _ _ _ _ _ a => a) (fun _ _ => ⟨rfl, fun k y z => by simp at z⟩) (fun i x acc H' Nx No lt s it a hl k1 k2 => ?_) fun D acc H' h1 s e a _ => done D acc H' h1 s e a.1 a.2
  have q := turn i x H' Nx lt s it fun y H4 s4 p => k1 y H4 s4 ⟨by rw [List.length_append, a.1]; rfl, fun k z hz => ?_⟩
  · exact q
  · rcases Nat.lt_or_ge k acc.length with h | h
    · rw [List.getElem?_append_left h] at hz
      exact a.2 k z hz
    · rw [List.getElem?_append_right h] at hz
      have e0 : k - acc.length = 0 := by
        rcases Nat.eq_zero_or_pos (k - acc.length) with z0 | z0
        · exact z0
        · rw [List.getElem?_eq_none (by simp; omega)] at hz
          cases hz
      rw [e0] at hz
      simp only [List.getElem?_cons_zero, Option.some.injEq] at hz
      subst hz
      have : k = i := by have := a.1; omega
      rw [this]
      exact p
/-- items of a list, a test that each one answers, a value that each one makes -/
theorem lc_filter {item : Nat → V → Hp → Prop} {xs : List V} (src : Src J H1 xs.length item) (hx : ∀ i x H, item i x H → xs[i]? = some x) (hn : xs.length ≤ 100000) (c : V → Bool) (f : V → V)
    (turn : ∀ (i : Nat) x H' (Nx : V → Hp → Prop) (No : Hp → Prop), xs[i]? = some x → Same H1 H' → (∀ H4, Same H' H4 → c x = true → Nx (f x) H4) → (∀ H4, Same H' H4 → c x = false → No H4) →
      g x (wipe σ vs) H' fun σ2 H2 => wipe σ2 vs = wipe σ vs ∧ tt σ2 H2 fun b H3 => if b = true then te σ2 H3 Nx else No H3)
    (done : ∀ D H', H1 D = none → Same H1 H' → H' D = some (.lst ((xs.filter c).map f)) → Q (.ref D) H') : LC g tt te vs J σ H1 Q := by
  refine lc_src src hn (fun i acc _ => acc = ((xs.take i).filter c).map f) (fun _ _ _ _ _ _ _ _ _ _ a => a) (fun _ _ => rfl) (fun i x acc H' Nx No lt s it a hl k1 k2 => ?_) fun D acc H' h1 s e a _ => done D H' h1 s (by rw [e, a, List.take_length])
  have ex := hx i x H' it
  have tk : xs.take (i + 1) = xs.take i ++ [x] := by
    rw [List.take_succ, ex]
    rfl
  refine turn i x H' Nx No ex s (fun H4 s4 h => k1 _ H4 s4 ?_) (fun H4 s4 h => k2 H4 s4 ?_)
  · rw [tk, List.filter_append, List.map_append, a]
    simp [h]
  · rw [tk, List.filter_append, List.map_append, a]
    simp [h]
theorem g_yes {Q : Bool → Hp → Prop} (q : Q true H) : tYes σ H Q := q
theorem g_iZip {ta : TA} {R : It → Hp → Prop} (q : ta σ H fun vs H1 => ∃ a b xs ys, vs = [.ref a, .ref b] ∧ SqL K H1 a xs ∧ SqL K H1 b ys ∧ R (Itz K a b) H1) : iZip K ta σ H R := q
theorem g_exZ {a b : Addr} {xs ys : List V} {R : Addr → Addr → Prop} (h1 : SqL K H a xs) (h2 : SqL K H b ys) (q : R a b) : ∃ p q xs ys, [V.ref a, V.ref b] = [.ref p, .ref q] ∧ SqL K H p xs ∧ SqL K H q ys ∧ R p q := ⟨a, b, xs, ys, rfl, h1, h2, q⟩
theorem g_gtup {k : Nat} {t : TGs} {a : Addr} {xs : List V} {Q : L2.St → Hp → Prop} (h : SqT K H a xs) (hl : xs.length = k) (q : t xs σ H Q) : gTup K k t (.ref a) σ H Q := ⟨a, xs, rfl, h, hl, q⟩
theorem g_gcons {t : TG} {u : TGs} {v : V} {r : List V} {Q : L2.St → Hp → Prop} (q : t v σ H fun σ' H' => u r σ' H' Q) : gCons t u (v :: r) σ H Q := ⟨v, r, rfl, q⟩
theorem g_gnil {Q : L2.St → Hp → Prop} (q : Q σ H) : gNil [] σ H Q := ⟨rfl, q⟩
theorem g_all {a : Addr} {bs : List Bool} (h : SqL K H a (bs.map V.bl)) (q : Q (.bl (bs.all id)) H) : rAll K [V.ref a] H Q := ⟨a, bs, rfl, h, q⟩
theorem g_any {a : Addr} {bs : List Bool} (h : SqL K H a (bs.map V.bl)) (q : Q (.bl (bs.any id)) H) : rAny K [V.ref a] H Q := ⟨a, bs, rfl, h, q⟩
theorem g_slL {a : Addr} {xs : List V} {lo hi : Option Int} (h : SqL K H a xs) (k : ∀ p H', H p = none → Same H H' → H' p = some (.lst (cutV xs lo hi)) → Q (.ref p) H') : rSlL K (.ref a) lo hi H Q := ⟨a, xs, rfl, h, fun p hp => k p _ hp (same_new hp) upd_same⟩
theorem g_sl {r : V → Option Int → Option Int → Hp → VK → Prop} {tl th : TO} (q : te σ H fun x H1 => tl σ H1 fun l H2 => th σ H2 fun u H3 => r x l u H3 Q) : tSl r te tl th σ H Q := q
theorem g_noP {Q : Option Int → Hp → Prop} (q : Q none H) : tNoPart σ H Q := q
theorem g_part {Q : Option Int → Hp → Prop} (q : te σ H fun x H1 => ∃ i, x = .int i ∧ Q (some i) H1) : tPart te σ H Q := q
/-- all of a list of truths that are all true -/
theorem trues {acc : List V} (h : ∀ (i : Nat) y, acc[i]? = some y → y = V.bl true) : acc = (List.replicate acc.length true).map V.bl := by
  apply List.ext_getElem?
  intro i
  rw [List.getElem?_map, List.getElem?_replicate]
  split
  · rename_i lt
    rw [List.getElem?_eq_getElem lt]
    exact congrArg some (h i _ (List.getElem?_eq_getElem lt))
  · rename_i ge
    rw [List.getElem?_eq_none (by omega)]
    rfl
theorem all_trues (n : Nat) : (List.replicate n true).all id = true := by
  induction n with
  | zero => rfl
  | succ n ih => simp
end
end Gx

/-! Objects: attributes, methods (also with keywords alone), makes, isinstance -/
namespace Gx
open PySem L2 PySem.Spec PyProof.Rows
section
variable {σ : L2.St} {H H1 : Hp} {Q : VK} {K : PySem.W.Frag} {te tl ta : TE} {D : Ends} {x v : V} {a C dx : Addr} {fs : List (Str × V)} {f m : Str} {sp : Sp} {dvs : List V} {E : XK} {t : TA}
def FldQ (K : PySem.W.Frag) (f : Str) (x : V) (H : Hp) (Q : VK) : Prop := ∃ a C dx fs v, x = .ref a ∧ H a = some (.ins C dx fs) ∧ Cls K C ∧ NoAttr K C f ∧ fs.lookup f = some v ∧ Q v H
theorem g_tfld (q : ta σ H fun x H1 => FldQ K f x H1 Q) : tFld K ta f σ H Q := q
theorem g_fld (h : H a = some (.ins C dx fs)) (c : Cls K C) (n : NoAttr K C f) (l : fs.lookup f = some v) (q : Q v H) : FldQ K f (.ref a) H Q := ⟨a, C, dx, fs, v, rfl, h, c, n, l, q⟩
def MethQ (C : Addr) (m : Str) (sp : Sp) (dvs : List V) (E : XK) (t : TA) (σ : L2.St) (x : V) (H : Hp) (Q : VK) : Prop := ∃ a dx fs, x = .ref a ∧ H a = some (.ins C dx fs) ∧ fs.lookup m = none ∧ t σ H fun vs H2 => sp (x :: (vs ++ dvs)) H2 Q E
theorem g_tmeth (q : ta σ H fun x H1 => MethQ C m sp dvs E t σ x H1 Q) : tMeth C m sp dvs E ta t σ H Q := q
theorem g_meth (h : H a = some (.ins C dx fs)) (l : fs.lookup m = none) (q : t σ H fun vs H2 => sp (.ref a :: (vs ++ dvs)) H2 Q E) : MethQ C m sp dvs E t σ (.ref a) H Q := ⟨a, dx, fs, rfl, h, l, q⟩
def MakeQ (C : Addr) (sp : Sp) (vs : List V) (H : Hp) (Q : VK) (E : XK) : Prop := ∀ x dx, H x = none → H dx = none → dx ≠ x → sp (.ref x :: vs) (upd (upd H dx (.own x)) x (.ins C dx [])) (fun v H2 => v = .non ∧ Q (.ref x) H2) E
theorem g_tmake (q : t σ H fun vs H1 => MakeQ C sp (vs ++ dvs) H1 Q E) : tMake C sp dvs E t σ H Q := q
theorem g_make {vs : List V} (k : ∀ x dx H', H x = none → Same H H' → H' x = some (.ins C dx []) → sp (.ref x :: vs) H' (fun v H2 => v = .non ∧ Q (.ref x) H2) E) : MakeQ C sp vs H Q E :=
  fun x dx hx hd _ => k x dx _ hx (same_mut (same_new hd) hx) upd_same
def StoreQ (K : PySem.W.Frag) (f : Str) (y x : V) (D : Ends) (σ : L2.St) (H : Hp) : Prop := ∃ a C dx fs, x = .ref a ∧ H a = some (.ins C dx fs) ∧ Cls K C ∧ NoAttr K C f ∧ fs.length < 1000 ∧ D.nx σ (upd H a (.ins C dx (putF f y fs)))
theorem g_sfld {tv : TE} (q : tv σ H fun y H1 => ta σ H1 fun x H2 => StoreQ K f y x D σ H2) : sFld K ta tv f D σ H := q
theorem g_store (h : H a = some (.ins C dx fs)) (c : Cls K C) (n : NoAttr K C f) (l : fs.length < 1000) (q : D.nx σ (upd H a (.ins C dx (putF f v fs)))) : StoreQ K f v (.ref a) D σ H := ⟨a, C, dx, fs, rfl, h, c, n, l, q⟩
theorem g_isi {c : V} {t u : Value} {b : Bool} (k : ClsV c u) (ty : TyX K H x t) (e : PySem.W.kitOne K t u = some b) (q : Q (.bl b) H) : rIsi K [x, c] H Q := ⟨x, c, t, u, b, rfl, k, ty, e, q⟩
def PropQ (C : Addr) (sp : Sp) (dvs : List V) (E : XK) (x : V) (H : Hp) (Q : VK) : Prop := ∃ a dx fs, x = .ref a ∧ H a = some (.ins C dx fs) ∧ sp (.ref a :: dvs) H Q E
theorem g_tprop (q : ta σ H fun x H1 => PropQ C sp dvs E x H1 Q) : tProp C sp dvs E ta σ H Q := q
theorem g_prop (h : H a = some (.ins C dx fs)) (q : sp (.ref a :: dvs) H Q E) : PropQ C sp dvs E (.ref a) H Q := ⟨a, dx, fs, rfl, h, q⟩
def StarQ (K : PySem.W.Frag) (t : TA) (σ : L2.St) (x : V) (H : Hp) (Q : List V → Hp → Prop) : Prop := ∃ p xs, x = V.ref p ∧ (SqT K H p xs ∨ SqL K H p xs) ∧ t σ H fun ys H2 => Q (xs ++ ys) H2
theorem g_tstar {Q : List V → Hp → Prop} (q : te σ H fun x H1 => StarQ K t σ x H1 Q) : StX.tStar K te t σ H Q := q
theorem g_star {xs : List V} {Q : List V → Hp → Prop} (h : SqL K H a xs) (q : t σ H fun ys H2 => Q (xs ++ ys) H2) : StarQ K t σ (.ref a) H Q := ⟨a, xs, rfl, .inr h, q⟩
/-- an if whose answer is known -/
theorem g_ifT {b : Bool} {A B : Prop} (h : b = true) (q : A) : if b = true then A else B := by rw [if_pos h]; exact q
theorem g_ifF {b : Bool} {A B : Prop} (h : b = false) (q : B) : if b = true then A else B := by rw [if_neg (by rw [h]; exact Bool.false_ne_true)]; exact q
end
/-! ### a method called with keywords alone -/
structure MetK (P : Program) (w : World) (K : PySem.W.Frag) (mg : Str → Option Value) (base : Heap) (k : Nat) (C : Addr) (m : Str) (ks : List Str) (gV : List V → List V → List V) (sp : Sp) : Prop where
  ex : ∃ (f : Addr) (fd : FuncData) (ps : List Str) (g : List Value → List Value → List Value), Cls K C ∧ Meth K C m f ∧ FnOk P w K mg base CX0 k f fd ps sp ∧ KBinds K fd ps ks g gV
/-- o.m(k = e, ..) -/
def tMethK (C : Addr) (m : Str) (sp : Sp) (gV : List V → List V → List V) (ta : TE) (tk : TA) : TE := fun σ H Q => ta σ H fun x H1 => ∃ a dx fs, x = .ref a ∧ H1 a = some (.ins C dx fs) ∧ fs.lookup m = none ∧
  tk σ H1 fun zs H2 => sp (gV [x] zs) H2 Q (fun _ _ _ => False)
section
variable {X : Cx} {k j : Nat} {C : Addr} {m : Str} {ks : List Str} {gV : List V → List V → List V} {sp : Sp} {o : Expr} {kws : List Keyword} {ta : TE} {tk : TA} {pos apos : Pos}
theorem pe_mtK {pl : Sem Bool} (c : MetK X.prog X.w X.K X.mg X.base k C m ks gV sp) (hr : Room j X.A) (hk : k ≤ j) (ho : PE X o ta) (hkw : PK X kws tk)
    (hall : (backToKw pos (keywordEach kws X.env)).all (·.1.isSome) = true := by rfl) (hks : (backToKw pos (keywordEach kws X.env)).filterMap (·.1) = ks := by rfl)
    (hpl : ((backTo pos (starEach [] X.env)).any (·.1) || (backToKw pos (keywordEach kws X.env)).any (·.1.isNone)) = false := by rfl)
    (form : eval (.Call (.Attribute o m apos) [] kws pos) X.env = (do
      let obj ← eval o X.env
      standAt apos.atName
      let (fn, firsts) ← holding [obj] (getMethod obj m pl)
      callWith pos fn firsts (backTo pos (starEach [] X.env)) (backToKw pos (keywordEach kws X.env))) := by rfl) :
    PE X (.Call (.Attribute o m apos) [] kws pos) (tMethK C m sp gV ta tk) := by
  obtain ⟨f, fd, ps, g, cl, me, F, kb⟩ := c.ex
  refine ⟨fun pins s σ H Q I h => PySem.W.methodCall_KW (pl := pl) (thn (ho.run pins s σ H _ I h) fun u s1 got => ?_) form⟩
  obtain ⟨x, H1, I1, rx, a, dx, fs, ex, ea, l, q⟩ := got
  subst ex
  obtain rfl : u = Value.ref a := rx
  refine getmeth_ok I1 ea cl me l ?_
  refine PySem.W.callWith_KW0 (h₀ := X.base) I1.ok.mod.kin me.kp hall (thn (hkw.run pos pins s1 σ H1 _ I1 q) fun ws s2 got2 => ?_) hpl
  obtain ⟨zs, H2, I2, rz, q2⟩ := got2
  refine ⟨I2.kIn, ?_⟩
  rw [hks]
  exact run_fnk (us := [.ref a]) (vs := [.ref a]) F (hr.mono hk) kb pass0 I2 (.cons rfl .nil) rz q2
def MethKQ (C : Addr) (m : Str) (sp : Sp) (gV : List V → List V → List V) (tk : TA) (σ : L2.St) (x : V) (H : Hp) (Q : VK) : Prop := ∃ a dx fs, x = .ref a ∧ H a = some (.ins C dx fs) ∧ fs.lookup m = none ∧ tk σ H fun zs H2 => sp (gV [x] zs) H2 Q (fun _ _ _ => False)
theorem g_tmethK {σ : L2.St} {H : Hp} {Q : VK} (q : ta σ H fun x H1 => MethKQ C m sp gV tk σ x H1 Q) : tMethK C m sp gV ta tk σ H Q := q
theorem g_methK {σ : L2.St} {H : Hp} {Q : VK} {a dx : Addr} {fs : List (Str × V)} (h : H a = some (.ins C dx fs)) (l : fs.lookup m = none) (q : tk σ H fun zs H2 => sp (gV [.ref a] zs) H2 Q (fun _ _ _ => False)) : MethKQ C m sp gV tk σ (.ref a) H Q := ⟨a, dx, fs, rfl, h, l, q⟩
end
/-! ### a property -/
structure PropR (P : Program) (w : World) (K : PySem.W.Frag) (mg : Str → Option Value) (base : Heap) (k : Nat) (C : Addr) (f : Str) (sp : Sp) : Prop where
  ex : ∃ (p g : Addr) (fd : FuncData) (ps : List Str), Cls K C ∧ PropOf K C f p g ∧ FnOk P w K mg base CX0 k g fd ps sp ∧ Binds K fd ps []
theorem pe_pr {X : Cx} {k j : Nat} {C : Addr} {f : Str} {sp : Sp} {e : Expr} {ta : TE} {pos : Pos} (c : PropR X.prog X.w X.K X.mg X.base k C f sp) (hr : Room j X.A) (hk : k + 1 ≤ j) (he : PE X e ta) (hab : attributeBase e f X.env (eval e X.env) = eval e X.env := by rfl) :
    PE X (.Attribute e f pos) (tProp C sp [] (fun _ _ _ => False) ta) := by
  obtain ⟨p, g, fd, ps, cl, pr, F, b⟩ := c.ex
  exact pe_prop he cl pr F (hr.mono hk) b .nil pass0 hab
/-- two keywords, the second parameter's value comes last -/
def swapV : List V → List V → List V
  | [a], [y, x] => [a, x, y]
  | _, _ => []
def swapU : List Value → List Value → List Value
  | [a], [y, x] => [a, x, y]
  | _, _ => []
theorem swap_rel {vs : List V} {us : List Value} {zs : List V} {ws : List Value} (r : Vals vs us) (rz : Vals zs ws) : Vals (swapV vs zs) (swapU us ws) := by
  cases r with
  | nil => exact .nil
  | cons r1 r =>
    cases r with
    | nil =>
      cases rz with
      | nil => exact .nil
      | cons z1 rz =>
        cases rz with
        | nil => exact .nil
        | cons z2 rz =>
          cases rz with
          | nil => exact .cons r1 (.cons z2 (.cons z1 .nil))
          | cons _ _ => exact .nil
    | cons _ _ => exact .nil
/-- one keyword -/
def oneV : List V → List V → List V
  | [a], [x] => [a, x]
  | _, _ => []
def oneU : List Value → List Value → List Value
  | [a], [x] => [a, x]
  | _, _ => []
theorem one_rel {vs : List V} {us : List Value} {zs : List V} {ws : List Value} (r : Vals vs us) (rz : Vals zs ws) : Vals (oneV vs zs) (oneU us ws) := by
  cases r with
  | nil => exact .nil
  | cons r1 r =>
    cases r with
    | nil =>
      cases rz with
      | nil => exact .nil
      | cons z1 rz =>
        cases rz with
        | nil => exact .cons r1 (.cons z1 .nil)
        | cons _ _ => exact .nil
    | cons _ _ => exact .nil
theorem kbinds_one {K : PySem.W.Frag} {fd : FuncData} {s k : Str} (h : ∀ a x : Value, bindArgs fd ⟨[a], [(k, x)]⟩ = pure [(s, a), (k, x)]) : KBinds K fd [s, k] [k] oneU oneV := by
  refine ⟨fun st us ws _ hl => ?_, one_rel⟩
  match us, ws, hl with
  | [a], [x], _ => exact .of_eq (h a x)
  | [], _, hl => simp [oneU] at hl
  | [_], [], hl => simp [oneU] at hl
  | [_], _ :: _ :: _, hl => simp [oneU] at hl
  | _ :: _ :: _, _, hl => simp [oneU] at hl
theorem kbinds_swap {K : PySem.W.Frag} {fd : FuncData} {s k1 k2 : Str} (h : ∀ a x y : Value, bindArgs fd ⟨[a], [(k2, y), (k1, x)]⟩ = pure [(s, a), (k1, x), (k2, y)]) : KBinds K fd [s, k1, k2] [k2, k1] swapU swapV := by
  refine ⟨fun st us ws _ hl => ?_, swap_rel⟩
  match us, ws, hl with
  | [a], [y, x], _ => exact .of_eq (h a x y)
  | [], _, hl => simp [swapU] at hl
  | [_], [], hl => simp [swapU] at hl
  | [_], [_], hl => simp [swapU] at hl
  | [_], _ :: _ :: _ :: _, hl => simp [swapU] at hl
  | _ :: _ :: _, _, hl => simp [swapU] at hl
end Gx

/-! Lines of points: what stands at such an object, the promises of its methods -/
namespace Gx
open PySem L2
/-- whether an object is a whole number (no truth value) -/
inductive WholeV (K : PySem.W.Frag) (H : Hp) : V → Bool → Prop
  | int (i : Int) : WholeV K H (.int i) true
  | bl (c : Bool) : WholeV K H (.bl c) false
  | other {x : V} {t : Value} (ty : TyX K H x t) (no : PySem.W.kitOne K t (.type "int") = some false) : WholeV K H x false
def spWhole (K : PySem.W.Frag) : Sp := fun vs H Q _ => ∃ x b, vs = [x] ∧ WholeV K H x b ∧ Q (.bl b) H
def spPoint (K : PySem.W.Frag) : Sp := fun vs H Q _ => ∃ p x b, vs = [.ref p, x] ∧ WholeV K H x b ∧ Q (.bl b) H
/-- the attributes of a line -/
def lf (q : Addr) : List (Str × V) := [("own_points", .ref q)]
theorem lf_own (q : Addr) : (lf q).lookup ("own_points" : Str) = some (.ref q) := by simp [lf, List.lookup]
theorem lf_no (q : Addr) {m : Str} (h : (m == ("own_points" : Str)) = false) : (lf q).lookup m = none := by simp [lf, List.lookup, h]
/-- a line of the class at C stands at p, its points are xs -/
def LineAt (C : Addr) (H : Hp) (p : Addr) (xs : List V) : Prop := ∃ dx q, H p = some (.ins C dx (lf q)) ∧ H q = some (.lst xs)
theorem LineAt.same {C : Addr} {H H' : Hp} {p : Addr} {xs : List V} (h : LineAt C H p xs) (s : Same H H') : LineAt C H' p xs := by
  obtain ⟨dx, q, h1, h2⟩ := h
  exact ⟨dx, q, s _ _ h1, s _ _ h2⟩
/-- what the walk asks of the class of a line -/
structure LineC (K : PySem.W.Frag) (C : Addr) : Prop where
  cl : Cls K C
  own : NoAttr K C "own_points"
/-- a line of ints is made -/
def spInitI (K : PySem.W.Frag) (C : Addr) : Sp := fun vs H Q _ => ∃ (p a dx : Addr) (ns : List Int), vs = [.ref p, .ref a] ∧ H p = some (.ins C dx []) ∧ H a = some (.lst (ns.map V.int)) ∧ ns.length ≤ 500 ∧ ns.Pairwise (· < ·) ∧
  ∀ H', LineAt C H' p (ns.map V.int) → But p H H' → Q .non H'
/-- its points, as a new list -/
def spPoints (K : PySem.W.Frag) (C : Addr) : Sp := fun vs H Q _ => ∃ (p : Addr) (xs : List V), vs = [.ref p] ∧ LineAt C H p xs ∧ ∀ l H', H l = none → Same H H' → H' l = some (.lst xs) → Q (.ref l) H'
theorem rising_zip {ns : List Int} (h : ns.Pairwise (· < ·)) {i : Nat} {a b : Int} (ha : ns[i]? = some a) (hb : (ns.drop 1)[i]? = some b) : a < b := by
  rw [List.getElem?_drop] at hb
  have h1 := List.getElem?_eq_some_iff.mp ha
  have h2 := List.getElem?_eq_some_iff.mp hb
  obtain ⟨l1, e1⟩ := h1
  obtain ⟨l2, e2⟩ := h2
  have q := List.pairwise_iff_getElem.mp h i (1 + i) l1 l2 (by omega)
  rw [e1, e2] at q
  exact q
theorem ints_at {ns : List Int} {i : Nat} {x : V} (h : (ns.map V.int)[i]? = some x) : ∃ n, ns[i]? = some n ∧ x = V.int n := by
  rw [List.getElem?_map] at h
  cases e : ns[i]? with
  | none => rw [e] at h; cases h
  | some n => rw [e] at h; exact ⟨n, rfl, (Option.some.inj h).symm⟩
theorem but_same {p : Addr} {H H' : Hp} {o : HO} (s : Same H H') : But p H (upd H' p o) := fun b u nb e => by
  rw [upd_ne nb]
  exact s b u e
theorem cut_one (xs : List V) : cutV xs (some 1) none = xs.drop 1 := by
  unfold cutV
  cases xs with
  | nil => rfl
  | cons x r =>
    have e1 : HT.sIx (x :: r).length 0 (some 1) = 1 := by
      simp [HT.sIx]
    have e2 : HT.sIx (x :: r).length (x :: r).length none = (x :: r).length := rfl
    rw [e1, e2]
    exact List.take_of_length_le (by simp)
end Gx

/-! Cells of a line of ints -/
namespace Gx
open PySem L2
theorem g_isN1 {H : Hp} {Q : VK} {x : V} (q : Q (.bl (decide (x = .non))) H) : rIsN x .non H Q := ⟨rfl, q⟩
theorem g_notN1 {H : Hp} {Q : VK} {x : V} (q : Q (.bl (!decide (x = .non))) H) : rNotN x .non H Q := ⟨rfl, q⟩
theorem g_iteF {c : Prop} [Decidable c] {A B : Prop} (h : ¬ c) (q : B) : if decide c = true then A else B := g_ifF (decide_eq_false h) q
theorem g_iteT {c : Prop} [Decidable c] {A B : Prop} (h : c) (q : A) : if decide c = true then A else B := g_ifT (decide_eq_true h) q
abbrev oV : Option Int → V
  | none => .non
  | some i => .int i
def oD : Option Int → PyData
  | none => .none
  | some i => .int i
def leastOf (lo : Int) : Option Int → Int
  | none => lo
  | some x => if x + 1 > lo then x + 1 else lo
def mostOf (hi : Int) : Option Int → Int
  | none => hi
  | some y => if y - 1 < hi then y - 1 else hi
def gapIn (l r : Option Int) (lo hi : Int) : Bool := decide (leastOf lo l ≤ mostOf hi r)
def gapD (l r : Option Int) : PyData := .tuple [.str "gap", oD l, oD r]
def pointD (y : Int) : PyData := .tuple [.str "point", .int y]
def ptStep (lo hi : Int) : Option Int → List PyData
  | none => []
  | some y => if lo ≤ y ∧ y ≤ hi then [pointD y] else []
def cellStep (lo hi : Int) (l r : Option Int) : List PyData := (if gapIn l r lo hi = true then [gapD l r] else []) ++ ptStep lo hi r
def cellFold (lo hi : Int) (s : Option Int × List PyData) (r : Option Int) : Option Int × List PyData := (r, s.2 ++ cellStep lo hi s.1 r)
/-- the points of a line and its open end -/
def rights (ns : List Int) : List (Option Int) := ns.map some ++ [none]
def cellsOf (ns : List Int) (lo hi : Int) : List PyData := ((rights ns).foldl (cellFold lo hi) (none, [])).2
theorem rights_len (ns : List Int) : (rights ns).length = ns.length + 1 := by simp [rights]
theorem rights_V (ns : List Int) : ns.map V.int ++ [V.non] = (rights ns).map oV := by simp [rights, oV, Function.comp_def]
theorem step_len (lo hi : Int) (l r : Option Int) : (cellStep lo hi l r).length ≤ 2 := by
  unfold cellStep
  rw [List.length_append]
  have h1 : (if gapIn l r lo hi = true then [gapD l r] else []).length ≤ 1 := by split <;> simp
  have h2 : (ptStep lo hi r).length ≤ 1 := by
    cases r with
    | none => simp [ptStep]
    | some y =>
      show (if lo ≤ y ∧ y ≤ hi then [pointD y] else []).length ≤ 1
      by_cases c : lo ≤ y ∧ y ≤ hi
      · rw [if_pos c]
        exact Nat.le_refl 1
      · rw [if_neg c]
        exact Nat.zero_le 1
  omega
theorem fold_next {α β : Type} (f : β → α → β) {l : List α} {i : Nat} {x : α} (b : β) (h : l[i]? = some x) : (l.take (i + 1)).foldl f b = f ((l.take i).foldl f b) x := by
  rw [List.take_succ, h, List.foldl_append]
  rfl
mutual
/-- data without lists: it stays whatever list is changed -/
def noLst : PyData → Bool
  | .none | .bool _ | .int _ | .str _ => true
  | .list _ | .dict _ => false
  | .tuple xs => noLstAll xs
def noLstAll : List PyData → Bool
  | [] => true
  | x :: xs => noLst x && noLstAll xs
end
theorem noLstAll_iff : ∀ {xs : List PyData}, noLstAll xs = true ↔ ∀ x ∈ xs, noLst x = true
  | [] => by simp [noLstAll]
  | x :: xs => by simp [noLstAll, noLstAll_iff (xs := xs)]
section
variable {K : PySem.W.Frag} {H H' : Hp} {p : Addr} {l : List V}
theorem sqT_but (hp : H p = some (.lst l)) (b : But p H H') {a : Addr} {xs : List V} (h : SqT K H a xs) : SqT K H' a xs := by
  rcases h with (h | ⟨o, h⟩) | h
  · exact .inl (.inl (b a _ (ne_of h hp (by intro z; cases z)) h))
  · exact .inl (.inr ⟨o, b a _ (ne_of h hp (by intro z; cases z)) h⟩)
  · exact .inr h
mutual
theorem dp_but (hp : H p = some (.lst l)) (b : But p H H') : ∀ (d : PyData) (v : V), noLst d = true → Dp K H v d → Dp K H' v d
  | .none, _, _, h => by cases h; exact .non
  | .bool c, _, _, h => by cases h; exact .bl c
  | .int i, _, _, h => by cases h; exact .int i
  | .str x, _, _, h => by cases h; exact .str x
  | .list _, _, n, _ => by simp [noLst] at n
  | .dict _, _, n, _ => by simp [noLst] at n
  | .tuple ds, _, n, h => by
    cases h with
    | tup a c => exact .tup (sqT_but hp b a) (dp_butAll hp b ds _ (by simpa [noLst] using n) c)
theorem dp_butAll (hp : H p = some (.lst l)) (b : But p H H') : ∀ (ds : List PyData) (vs : List V), noLstAll ds = true → DpAll K H vs ds → DpAll K H' vs ds
  | [], _, _, h => by cases h; exact .nil
  | d :: ds, _, n, h => by
    simp only [noLstAll, Bool.and_eq_true] at n
    cases h with
    | cons a c => exact .cons (dp_but hp b d _ n.1 a) (dp_butAll hp b ds _ n.2 c)
end
end
theorem dp_o {K : PySem.W.Frag} {H : Hp} : ∀ (o : Option Int), Dp K H (oV o) (oD o)
  | none => .non
  | some i => .int i
theorem noLst_gap (l r : Option Int) : noLst (gapD l r) = true := by
  cases l <;> cases r <;> simp [gapD, noLst, noLstAll, oD]
theorem noLst_point (y : Int) : noLst (pointD y) = true := by simp [pointD, noLst, noLstAll]
theorem noLst_step (lo hi : Int) (l r : Option Int) : ∀ d ∈ cellStep lo hi l r, noLst d = true := by
  intro d hd
  unfold cellStep at hd
  rcases List.mem_append.mp hd with h | h
  · split at h
    · rw [List.mem_singleton.mp h]
      exact noLst_gap l r
    · cases h
  · cases r with
    | none => cases h
    | some y =>
      have h : d ∈ (if lo ≤ y ∧ y ≤ hi then [pointD y] else []) := h
      by_cases c : lo ≤ y ∧ y ≤ hi
      · rw [if_pos c] at h
        rw [List.mem_singleton.mp h]
        exact noLst_point _
      · rw [if_neg c] at h
        cases h
theorem cells_keep (P : PyData → Prop) (lo hi : Int) : ∀ (rs : List (Option Int)) (s : Option Int × List PyData), (∀ l r, ∀ d ∈ cellStep lo hi l r, P d) → (∀ d ∈ s.2, P d) → ∀ d ∈ (rs.foldl (cellFold lo hi) s).2, P d
  | [], s, _, h2 => h2
  | r :: rs, s, h1, h2 => cells_keep P lo hi rs (cellFold lo hi s r) h1 fun d hd => by
    rcases List.mem_append.mp hd with h | h
    · exact h2 d h
    · exact h1 _ _ d h
theorem noLst_cells (lo hi : Int) (rs : List (Option Int)) : noLstAll (rs.foldl (cellFold lo hi) (none, [])).2 = true :=
  noLstAll_iff.mpr (cells_keep _ lo hi rs _ (fun l r => noLst_step lo hi l r) fun d h => nomatch h)
theorem same_but {p : Addr} {H H1 H2 : Hp} (s : Same H H1) (n : H p = none) (b : But p H1 H2) : Same H H2 := fun a o e => b a o (ne_of_none e n) (s a o e)
theorem g_appB {p : Addr} {H : Hp} {Q : VK} {xs : List V} {y : V} (h : H p = some (.lst xs)) (hl : xs.length < 100000) (k : ∀ H', But p H H' → H' p = some (.lst (xs ++ [y])) → Q .non H') : rAppend (.ref p) [y] H Q :=
  ⟨p, xs, y, rfl, rfl, h, big_lt hl, k _ (fun a o n e => by rw [upd_ne n]; exact e) upd_same⟩
theorem g_clear {p : Addr} {H H0 : Hp} {Q : VK} {xs : List V} (s : Same H0 H) (n : H0 p = none) (h : H p = some (.lst xs)) (k : ∀ H', Same H0 H' → H' p = some (.lst []) → Q .non H') : rClear (.ref p) [] H Q :=
  ⟨p, xs, rfl, rfl, h, k _ (same_mut s n) upd_same⟩
theorem g_unl {K : PySem.W.Frag} {k : Nat} {t : TGs} {a : Addr} {xs : List V} {σ : L2.St} {H : Hp} {Q : L2.St → Hp → Prop} (h : SqL K H a xs) (hl : xs.length = k) (q : t xs σ H Q) : gUnl K k t (.ref a) σ H Q := ⟨a, xs, rfl, h, hl, q⟩
theorem g_cat {l b : Addr} {xs zs : List V} {H : Hp} {Q : VK} (h1 : H l = some (.lst xs)) (h2 : H b = some (.lst zs)) (hl : xs.length + zs.length ≤ 100000) (k : ∀ p H', H p = none → Same H H' → H' p = some (.lst (xs ++ zs)) → Q (.ref p) H') : rCat (.ref l) (.ref b) H Q :=
  ⟨l, b, xs, zs, rfl, rfl, h1, h2, big_le hl, fun p hp => k p _ hp (same_new hp) upd_same⟩
theorem g_sorted {K : PySem.W.Frag} {a : Addr} {ns : List Int} {H : Hp} {Q : VK} (h : SqL K H a (ns.map V.int)) (few : ns.length < 64) (k : ∀ (ms : List Int) (p : Addr) (H' : Hp), ms.Perm ns → ms.Pairwise (· ≤ ·) → H p = none → Same H H' → H' p = some (.lst (ms.map V.int)) → Q (.ref p) H') : rSorted K [V.ref a] H Q :=
  ⟨a, ns, rfl, h, few, fun ms p h1 h2 h3 => k ms p _ h1 h2 h3 (same_new h3) upd_same⟩
/-- two numbers in order -/
theorem two_sorted {ms : List Int} {a b : Int} (p : ms.Perm [a, b]) (u : ms.Pairwise (· ≤ ·)) : ∃ x y, ms = [x, y] ∧ x ≤ y ∧ (x = a ∨ x = b) ∧ (y = a ∨ y = b) := by
  have l := p.length_eq
  match ms, l with
  | [x, y], _ =>
    refine ⟨x, y, rfl, ?_, ?_, ?_⟩
    · have := List.pairwise_cons.mp u
      exact this.1 y List.mem_cons_self
    · have : x ∈ [a, b] := p.mem_iff.mp List.mem_cons_self
      simpa using this
    · have : y ∈ [a, b] := p.mem_iff.mp (List.mem_cons_of_mem _ List.mem_cons_self)
      simpa using this
theorem ors_at {rs : List (Option Int)} {i : Nat} {x : V} (h : (rs.map oV)[i]? = some x) : ∃ r, rs[i]? = some r ∧ x = oV r := by
  rw [List.getElem?_map] at h
  cases e : rs[i]? with
  | none => rw [e] at h; cases h
  | some n => rw [e] at h; exact ⟨n, rfl, (Option.some.inj h).symm⟩
/-! ### the promises -/
def spAhead : Sp := fun vs H Q _ => ∃ (p : Addr) (a lo : Int), vs = [.ref p, .int a, .int lo] ∧ Q (.bl (decide (a < lo))) H
def spBeyond : Sp := fun vs H Q _ => ∃ (p : Addr) (a hi : Int), vs = [.ref p, .int a, .int hi] ∧ Q (.bl (decide (hi < a))) H
def spBetween : Sp := fun vs H Q _ => ∃ (p : Addr) (l r : Option Int) (lo hi : Int), vs = [.ref p, oV l, oV r, .int lo, .int hi] ∧ Q (.bl (gapIn l r lo hi)) H
def spCells (K : PySem.W.Frag) (C : Addr) : Sp := fun vs H Q _ => ∃ (p : Addr) (ns : List Int) (lo hi : Int), vs = [.ref p, .int lo, .int hi] ∧ LineAt C H p (ns.map V.int) ∧ lo ≤ hi ∧ ns.length ≤ 500 ∧
  ∀ (a : Addr) (acc : List V) (H' : Hp), H a = none → Same H H' → H' a = some (.lst acc) → DpAll K H' acc (cellsOf ns lo hi) → acc.length ≤ 1002 → Q (.ref a) H'
end Gx

/-! Cells found by trying numbers -/
namespace Gx
open PySem L2
theorem g_cutE {te : TE} {σ : L2.St} {H : Hp} {Q : VK} (P : V → Hp → Prop) (h : ∀ Q' : VK, (∀ v H', P v H' → Q' v H') → te σ H Q') (q : ∀ v H', P v H' → Q v H') : te σ H Q := h Q q
theorem g_cutT {tt : TT} {σ : L2.St} {H : Hp} {Q : Bool → Hp → Prop} (P : Bool → Hp → Prop) (h : ∀ Q' : Bool → Hp → Prop, (∀ b H', P b H' → Q' b H') → tt σ H Q') (q : ∀ b H', P b H' → Q b H') : tt σ H Q := h Q q
theorem dpAll_last {K : PySem.W.Frag} {H : Hp} {vs : List V} {ds : List PyData} {e : PyData} (h : DpAll K H vs ds) (he : ds.getLast? = some e) : ∃ v, vs.getLast? = some v ∧ Dp K H v e := by
  have l := dpAll_len h
  rw [List.getLast?_eq_getElem?] at he
  have hi := (List.getElem?_eq_some_iff.mp he).1
  have hv : vs[ds.length - 1]? = some (vs[ds.length - 1]'(by omega)) := List.getElem?_eq_getElem _
  obtain ⟨d, h1, h2⟩ := dpAll_get h hv
  rw [he] at h1
  obtain rfl := Option.some.inj h1
  refine ⟨_, ?_, h2⟩
  rw [List.getLast?_eq_getElem?]
  exact (congrArg (fun n => vs[n - 1]?) l).trans hv
theorem filter_ints (ns : List Int) (c : V → Bool) (d : Int → Bool) (h : ∀ n, c (.int n) = d n) : ((ns.map V.int).filter c).map (fun x => x) = (ns.filter d).map V.int := by
  induction ns with
  | nil => rfl
  | cons n ns ih =>
    rw [List.map_cons, List.filter_cons, List.filter_cons, h n]
    cases d n with
    | true => simp only [if_true, List.map_cons, ih]
    | false => simpa using ih
theorem eqV_int (a b : Int) : eqV (.int a) (.int b) = decide (a = b) := by
  show (a == b) = decide (a = b)
  by_cases h : a = b
  · subst h; simp
  · simp [h]
theorem inV_ints (n : Int) : ∀ ns : List Int, inV (.int n) (ns.map V.int) = decide (n ∈ ns)
  | [] => by simp [inV]
  | m :: ns => by
    have ih := inV_ints n ns
    unfold inV at ih ⊢
    rw [List.map_cons, List.any_cons, eqV_int, ih]
    by_cases h : m = n
    · subst h; simp
    · by_cases h2 : n ∈ ns <;> simp [h, h2, Ne.symm h, eq_comm]
theorem flat_ints (ns : List Int) : (ns.map V.int).all flatV = true := by
  rw [List.all_eq_true]
  intro x hx
  obtain ⟨n, _, rfl⟩ := List.mem_map.mp hx
  rfl
theorem g_inI {K : PySem.W.Frag} {H : Hp} {Q : VK} {p : Addr} {ns : List Int} {n : Int} (h : SqL K H p (ns.map V.int)) (q : Q (.bl (decide (n ∈ ns))) H) : rIn K false (.int n) (.ref p) H Q :=
  ⟨p, _, rfl, .inl h, rfl, flat_ints ns, by rw [inV_ints]; exact q⟩
theorem g_notInI {K : PySem.W.Frag} {H : Hp} {Q : VK} {p : Addr} {ns : List Int} {n : Int} (h : SqL K H p (ns.map V.int)) (q : Q (.bl (!decide (n ∈ ns))) H) : rIn K true (.int n) (.ref p) H Q :=
  ⟨p, _, rfl, .inl h, rfl, flat_ints ns, by rw [inV_ints]; exact q⟩
theorem eqv_ints (ns ms : List Int) : PyData.eqv (.list (ns.map PyData.int)) (.list (ms.map PyData.int)) = decide (ns = ms) := by
  by_cases h : ns = ms
  · rw [decide_eq_true h, eqv_yes (bare_ints _) (bare_ints _) (by rw [h])]
  · rw [decide_eq_false h, eqv_no (bare_ints _) (bare_ints _) (fun z => h (ints_inj.mp z))]
theorem g_neI {K : PySem.W.Frag} {H : Hp} {Q : VK} {p q : Addr} {ns ms : List Int} (h1 : SqL K H p (ns.map V.int)) (h2 : SqL K H q (ms.map V.int)) (k : Q (.bl (!decide (ns = ms))) H) : rNeD K (.ref p) (.ref q) H Q := by
  refine g_neD (dp_ints h1) (dp_ints h2) (shaped_ints _) (shaped_ints _) ?_
  rw [eqv_ints]
  exact k
theorem atI_neg1 {xs : List V} {v : V} (h : xs.getLast? = some v) : atI xs (-1) = some v := by
  have ne : xs ≠ [] := fun e => by rw [e] at h; cases h
  have e : xs = xs.dropLast ++ [v] := by
    have := List.dropLast_concat_getLast ne
    rw [List.getLast?_eq_some_getLast ne] at h
    rw [Option.some.inj h] at this
    exact this.symm
  rw [e]
  exact atI_last _ _
theorem atI_head {xs : List V} {v : V} (h : xs.head? = some v) : atI xs 0 = some v := by
  cases xs with
  | nil => cases h
  | cons x r => exact atI_nat (j := 0) h
theorem oV_last (ns : List Int) (h : ns ≠ []) : (ns.map V.int).getLast? = some (oV ns.getLast?) := by
  rw [List.getLast?_map, List.getLast?_eq_some_getLast h]
  rfl
theorem oV_head (ns : List Int) (h : ns ≠ []) : (ns.map V.int).head? = some (oV ns.head?) := by
  cases ns with
  | nil => exact absurd rfl h
  | cons n r => rfl
/-- the cell of a number -/
def cellAt (ns : List Int) (m : Int) : PyData := if m ∈ ns then pointD m else gapD (ns.filter fun n => decide (n < m)).getLast? (ns.filter fun n => decide (m < n)).head?
def sameLast (acc : List PyData) (d : PyData) : Bool := match acc.getLast? with
  | none => false
  | some e => PyData.eqv e d
def dueStep (ns : List Int) (acc : List PyData) (m : Int) : List PyData := if sameLast acc (cellAt ns m) = true then acc else acc ++ [cellAt ns m]
def dueOf (ns : List Int) (lo : Int) (k : Nat) : List PyData := (List.range k).foldl (fun acc (i : Nat) => dueStep ns acc (lo + (i : Int))) []
theorem due_succ (ns : List Int) (lo : Int) (k : Nat) : dueOf ns lo (k + 1) = dueStep ns (dueOf ns lo k) (lo + (k : Int)) := by
  unfold dueOf
  rw [List.range_succ, List.foldl_append]
  rfl
theorem eqv_nil (ds : List PyData) : PyData.eqv (.list ds) (.list []) = ds.isEmpty := by cases ds <;> simp [PyData.eqv, PyData.eqvAll]
/-! ### cells are small data -/
/-- numbers of at most eighty digits -/
def In80 (i : Int) : Prop := -100000000000000000000000000000000000000000000000000000000000000000000000000000000 ≤ i ∧ i ≤ 100000000000000000000000000000000000000000000000000000000000000000000000000000000
theorem fine_o {n : Nat} {o : Option Int} (h : ∀ i, o = some i → In80 i) : Fine n 1 (oD o) := by
  cases o with
  | none => exact fine_none
  | some i => exact fine_int (h i rfl).1 (h i rfl).2
theorem fine_gap {l r : Option Int} (hl : ∀ i, l = some i → In80 i) (hr : ∀ i, r = some i → In80 i) : Fine 1 4 (gapD l r) := by
  refine (fine_tuple (n := 0) (m := 1) (xs := [.str "gap", oD l, oD r]) fun x hx => ?_).mono (Nat.le_refl _) (by simp)
  simp only [List.mem_cons, List.not_mem_nil, or_false] at hx
  rcases hx with rfl | rfl | rfl
  · exact fine_str (by decide +kernel) (by decide +kernel)
  · exact fine_o hl
  · exact fine_o hr
theorem fine_point {y : Int} (h : In80 y) : Fine 1 4 (pointD y) := by
  refine (fine_tuple (n := 0) (m := 1) (xs := [.str "point", .int y]) fun x hx => ?_).mono (Nat.le_refl _) (by simp)
  simp only [List.mem_cons, List.not_mem_nil, or_false] at hx
  rcases hx with rfl | rfl
  · exact fine_str (by decide +kernel) (by decide +kernel)
  · exact fine_int h.1 h.2
theorem bare_gap (l r : Option Int) : bare (gapD l r) = true := by cases l <;> cases r <;> simp [gapD, oD, bare, bareAll]
theorem bare_point (y : Int) : bare (pointD y) = true := by simp [pointD, bare, bareAll]
theorem bare_cellAt (ns : List Int) (m : Int) : bare (cellAt ns m) = true := by
  unfold cellAt
  split
  · exact bare_point m
  · exact bare_gap _ _
theorem noLst_cellAt (ns : List Int) (m : Int) : noLst (cellAt ns m) = true := by
  unfold cellAt
  split
  · exact noLst_point m
  · exact noLst_gap _ _
theorem fine_cellAt {ns : List Int} (h : ∀ n ∈ ns, In80 n) {m : Int} (hm : In80 m) : Fine 1 4 (cellAt ns m) := by
  unfold cellAt
  split
  · exact fine_point hm
  · refine fine_gap (fun i e => h i ?_) (fun i e => h i ?_)
    · exact (List.mem_filter.mp (List.mem_of_getLast? e)).1
    · exact (List.mem_filter.mp (List.mem_of_head? e)).1
theorem due_all (P : PyData → Prop) {ns : List Int} {lo : Int} : ∀ (k : Nat), (∀ i : Nat, i < k → P (cellAt ns (lo + (i : Int)))) → ∀ d ∈ dueOf ns lo k, P d
  | 0, _, d, h => nomatch h
  | k + 1, hp, d, h => by
    rw [due_succ] at h
    unfold dueStep at h
    split at h
    · exact due_all P k (fun i hi => hp i (by omega)) d h
    · rcases List.mem_append.mp h with h | h
      · exact due_all P k (fun i hi => hp i (by omega)) d h
      · rw [List.mem_singleton.mp h]
        exact hp k (Nat.lt_succ_self k)
theorem due_len (ns : List Int) (lo : Int) : ∀ k : Nat, (dueOf ns lo k).length ≤ k
  | 0 => Nat.le_refl 0
  | k + 1 => by
    have ih := due_len ns lo k
    rw [due_succ]
    unfold dueStep
    split
    · omega
    · rw [List.length_append]
      exact Nat.succ_le_succ ih
def spDue (K : PySem.W.Frag) : Sp := fun vs H Q _ => ∃ (a : Addr) (ns : List Int) (lo hi : Int), vs = [.ref a, .int lo, .int hi] ∧ H a = some (.lst (ns.map V.int)) ∧ ns.length ≤ 500 ∧ (∀ n ∈ ns, In80 n) ∧ -1000 ≤ lo ∧ lo ≤ hi ∧ hi ≤ 1000 ∧
  ∀ (l : Addr) (acc : List V) (H' : Hp), H l = none → Same H H' → H' l = some (.lst acc) → DpAll K H' acc (dueOf ns lo (hi + 1 - lo).toNat) → Q (.ref l) H'
end Gx

/-! The cells found by trying all numbers are those that meet the range -/
namespace Gx
open PySem L2
def tryStep (f : Int → PyData) (acc : List PyData) (m : Int) : List PyData := if sameLast acc (f m) = true then acc else acc ++ [f m]
def tryN (f : Int → PyData) (acc : List PyData) (lo : Int) : Nat → List PyData
  | 0 => acc
  | n + 1 => tryStep f (tryN f acc lo n) (lo + (n : Int))
theorem tryN_due (ns : List Int) (lo : Int) : ∀ n, dueOf ns lo n = tryN (cellAt ns) [] lo n
  | 0 => rfl
  | n + 1 => by
    rw [due_succ, tryN_due ns lo n]
    rfl
theorem tryN_add (f : Int → PyData) (acc : List PyData) (lo : Int) (a : Nat) : ∀ b, tryN f acc lo (a + b) = tryN f (tryN f acc lo a) (lo + (a : Int)) b
  | 0 => rfl
  | b + 1 => by
    show tryStep f (tryN f acc lo (a + b)) (lo + ((a + b : Nat) : Int)) = tryStep f (tryN f (tryN f acc lo a) (lo + (a : Int)) b) (lo + (a : Int) + (b : Int))
    rw [tryN_add f acc lo a b, show lo + ((a + b : Nat) : Int) = lo + (a : Int) + (b : Int) by omega]
theorem tryN_congr {f g : Int → PyData} (acc : List PyData) (lo : Int) : ∀ n, (∀ i : Nat, i < n → f (lo + (i : Int)) = g (lo + (i : Int))) → tryN f acc lo n = tryN g acc lo n
  | 0, _ => rfl
  | n + 1, h => by
    show tryStep f (tryN f acc lo n) _ = tryStep g (tryN g acc lo n) _
    unfold tryStep
    rw [tryN_congr acc lo n fun i hi => h i (by omega), h n (by omega)]
theorem sameLast_add (acc : List PyData) (c d : PyData) : sameLast (acc ++ [c]) d = PyData.eqv c d := by
  unfold sameLast
  rw [List.getLast?_concat]
theorem tryN_const {f : Int → PyData} {c : PyData} {acc : List PyData} {lo : Int} (hb : bare c = true) (ha : sameLast acc c = false) : ∀ n, 0 < n → (∀ i : Nat, i < n → f (lo + (i : Int)) = c) → tryN f acc lo n = acc ++ [c]
  | 1, _, h => by
    show tryStep f acc (lo + ((0 : Nat) : Int)) = _
    unfold tryStep
    rw [h 0 (by omega), ha, if_neg Bool.false_ne_true]
  | n + 2, _, h => by
    show tryStep f (tryN f acc lo (n + 1)) (lo + ((n + 1 : Nat) : Int)) = _
    rw [tryN_const hb ha (n + 1) (by omega) fun i hi => h i (by omega)]
    unfold tryStep
    rw [h (n + 1) (by omega), sameLast_add, eqv_yes hb hb rfl, if_pos rfl]
/-- the cell of a number, left of it l, beyond it the points rs -/
def cellR (l : Option Int) : List Int → Int → PyData
  | [], _ => gapD l none
  | y :: ys, m => if m < y then gapD l (some y) else if m = y then pointD y else cellR (some y) ys m
def cellsR (lo hi : Int) (l : Option Int) : List Int → List PyData
  | [] => cellStep lo hi l none
  | y :: ys => cellStep lo hi l (some y) ++ cellsR lo hi (some y) ys
theorem fold_cellsR (lo hi : Int) : ∀ (ns : List Int) (l : Option Int) (acc : List PyData), ((rights ns).foldl (cellFold lo hi) (l, acc)).2 = acc ++ cellsR lo hi l ns
  | [], l, acc => rfl
  | y :: ys, l, acc => by
    show ((rights ys).foldl (cellFold lo hi) (some y, acc ++ cellStep lo hi l (some y))).2 = _
    rw [fold_cellsR lo hi ys (some y) _]
    show _ = acc ++ (cellStep lo hi l (some y) ++ cellsR lo hi (some y) ys)
    rw [List.append_assoc]
theorem bare_cellR : ∀ (rs : List Int) (l : Option Int) (m : Int), bare (cellR l rs m) = true
  | [], l, m => bare_gap l none
  | y :: ys, l, m => by
    unfold cellR
    split
    · exact bare_gap _ _
    · split
      · exact bare_point _
      · exact bare_cellR ys _ m
/-- beyond a point none of the cells is that point's -/
theorem cellR_ne : ∀ (rs : List Int) (l : Option Int) (m y : Int), y < m → PyData.eqv (pointD y) (cellR l rs m) = false
  | [], l, m, y, _ => (eqv_no (bare_point y) (bare_gap l none) (by simp [pointD, gapD]) : PyData.eqv (pointD y) (gapD l none) = false)
  | z :: zs, l, m, y, h => by
    unfold cellR
    split
    · exact eqv_no (bare_point y) (bare_gap _ _) (by simp [pointD, gapD])
    · split
      · rename_i h1 h2
        exact eqv_no (bare_point y) (bare_point z) (by simp [pointD]; omega)
      · exact cellR_ne zs _ m y h
theorem gap_point (l r : Option Int) (y : Int) : PyData.eqv (gapD l r) (pointD y) = false := eqv_no (bare_gap _ _) (bare_point y) (by simp [pointD, gapD])
theorem step_some (lo hi : Int) (l : Option Int) (y : Int) : cellStep lo hi l (some y) = (if gapIn l (some y) lo hi = true then [gapD l (some y)] else []) ++ (if lo ≤ y ∧ y ≤ hi then [pointD y] else []) := rfl
theorem step_none (lo hi : Int) (l : Option Int) : cellStep lo hi l none = (if gapIn l none lo hi = true then [gapD l none] else []) ++ [] := rfl
/-- beyond the range there are no cells -/
theorem cellsR_none {lo hi : Int} : ∀ (rs : List Int) (y : Int), hi ≤ y → (y :: rs).Pairwise (· < ·) → cellsR lo hi (some y) rs = []
  | [], y, h, _ => by
    have g : gapIn (some y) none lo hi = false := by
      unfold gapIn leastOf mostOf
      apply decide_eq_false
      simp only
      split <;> omega
    show cellStep lo hi (some y) none = []
    rw [step_none, g, if_neg Bool.false_ne_true]
    rfl
  | z :: zs, y, h, p => by
    have yz : y < z := (List.pairwise_cons.mp p).1 z List.mem_cons_self
    have g : gapIn (some y) (some z) lo hi = false := by
      unfold gapIn leastOf mostOf
      apply decide_eq_false
      simp only
      split <;> split <;> omega
    show cellStep lo hi (some y) (some z) ++ cellsR lo hi (some z) zs = []
    rw [cellsR_none zs z (by omega) (List.pairwise_cons.mp p).2]
    rw [step_some, g, if_neg Bool.false_ne_true, if_neg (by omega)]
    rfl
/-- numbers at or below a point don't matter behind it -/
theorem cellsR_lo {hi lo lo' : Int} : ∀ (rs : List Int) (y : Int), lo ≤ y + 1 → lo' ≤ y + 1 → (y :: rs).Pairwise (· < ·) → cellsR lo hi (some y) rs = cellsR lo' hi (some y) rs
  | [], y, h, h', _ => by
    have e : leastOf lo (some y) = leastOf lo' (some y) := by
      unfold leastOf
      simp only
      split <;> split <;> omega
    show cellStep lo hi (some y) none = cellStep lo' hi (some y) none
    unfold cellStep gapIn
    rw [e]
    rfl
  | z :: zs, y, h, h', p => by
    have yz : y < z := (List.pairwise_cons.mp p).1 z List.mem_cons_self
    have e : leastOf lo (some y) = leastOf lo' (some y) := by
      unfold leastOf
      simp only
      split <;> split <;> omega
    show cellStep lo hi (some y) (some z) ++ cellsR lo hi (some z) zs = cellStep lo' hi (some y) (some z) ++ cellsR lo' hi (some z) zs
    rw [cellsR_lo (lo := lo) (lo' := lo') zs z (by omega) (by omega) (List.pairwise_cons.mp p).2, step_some, step_some]
    unfold gapIn
    rw [e]
    have q : (lo ≤ z ∧ z ≤ hi) ↔ (lo' ≤ z ∧ z ≤ hi) := by omega
    simp only [q]
theorem try_cells : ∀ (rs : List Int) (l : Option Int) (acc : List PyData) (lo hi : Int), lo ≤ hi → (∀ x, l = some x → x < lo) → (∀ x, l = some x → ∀ y ∈ rs, x < y) → rs.Pairwise (· < ·) → sameLast acc (cellR l rs lo) = false →
    tryN (cellR l rs) acc lo (hi + 1 - lo).toNat = acc ++ cellsR lo hi l rs
  | [], l, acc, lo, hi, h, hl, _, _, ha => by
    rw [tryN_const (c := gapD l none) (bare_gap _ _) ha _ (by omega) fun _ _ => rfl]
    have g : gapIn l none lo hi = true := by
      unfold gapIn leastOf mostOf
      apply decide_eq_true
      cases l with
      | none => exact h
      | some x =>
        have := hl x rfl
        simp only
        split <;> omega
    show _ = acc ++ cellStep lo hi l none
    unfold cellStep
    rw [g, if_pos rfl]
    rfl
  | y :: ys, l, acc, lo, hi, h, hl, hy, p, ha => by
    have pys := (List.pairwise_cons.mp p).2
    have py := (List.pairwise_cons.mp p).1
    show _ = acc ++ (cellStep lo hi l (some y) ++ cellsR lo hi (some y) ys)
    rcases Int.lt_or_le hi y with c | c
    · -- all numbers below the first point
      have ha' : sameLast acc (gapD l (some y)) = false := by
        have : cellR l (y :: ys) lo = gapD l (some y) := by
          unfold cellR
          rw [if_pos (by omega)]
        rw [← this]
        exact ha
      rw [tryN_const (c := gapD l (some y)) (bare_gap _ _) ha' _ (by omega) fun i hi' => by
        unfold cellR
        rw [if_pos (by omega)]]
      have g : gapIn l (some y) lo hi = true := by
        unfold gapIn leastOf mostOf
        apply decide_eq_true
        cases l with
        | none => simp only; split <;> omega
        | some x =>
          have := hl x rfl
          simp only
          split <;> split <;> omega
      rw [cellsR_none ys y (by omega) p]
      rw [step_some, g, if_pos rfl, if_neg (by omega)]
      simp
    · rcases Int.lt_or_le y lo with c2 | c2
      · -- all numbers beyond it
        have e : tryN (cellR l (y :: ys)) acc lo (hi + 1 - lo).toNat = tryN (cellR (some y) ys) acc lo (hi + 1 - lo).toNat := tryN_congr _ _ _ fun i hi' => by
          show (if lo + (i : Int) < y then gapD l (some y) else if lo + (i : Int) = y then pointD y else cellR (some y) ys (lo + (i : Int))) = _
          rw [if_neg (by omega), if_neg (by omega)]
        have ha' : sameLast acc (cellR (some y) ys lo) = false := by
          have : cellR l (y :: ys) lo = cellR (some y) ys lo := by
            show (if lo < y then gapD l (some y) else if lo = y then pointD y else cellR (some y) ys lo) = _
            rw [if_neg (by omega), if_neg (by omega)]
          rw [← this]
          exact ha
        rw [e, try_cells ys (some y) acc lo hi h (fun x e => by cases e; exact c2) (fun x e z hz => by cases e; exact py z hz) pys ha']
        have g : gapIn l (some y) lo hi = false := by
          unfold gapIn leastOf mostOf
          apply decide_eq_false
          cases l with
          | none => simp only; split <;> omega
          | some x =>
            have := hl x rfl
            simp only
            split <;> split <;> omega
        rw [step_some, g, if_neg Bool.false_ne_true, if_neg (by omega)]
        rfl
      · -- below, at and beyond it
        have e0 : (hi + 1 - lo).toNat = (y - lo).toNat + (1 + (hi - y).toNat) := by omega
        rw [e0, tryN_add]
        have e1 : lo + ((y - lo).toNat : Int) = y := by omega
        rw [e1, tryN_add]
        -- the gap ahead of it
        have g : (if gapIn l (some y) lo hi = true then [gapD l (some y)] else []) = if lo < y then [gapD l (some y)] else [] := by
          have q : gapIn l (some y) lo hi = decide (lo < y) := by
            unfold gapIn leastOf mostOf
            cases l with
            | none =>
              simp only
              congr 1
              apply propext
              split <;> omega
            | some x =>
              have := hl x rfl
              simp only
              congr 1
              apply propext
              split <;> split <;> omega
          rw [q]
          by_cases z : lo < y <;> simp [z]
        have A1 : tryN (cellR l (y :: ys)) acc lo (y - lo).toNat = acc ++ (if lo < y then [gapD l (some y)] else []) := by
          by_cases z : lo < y
          · rw [if_pos z]
            refine tryN_const (bare_gap _ _) ?_ _ (by omega) fun i hi' => ?_
            · have : cellR l (y :: ys) lo = gapD l (some y) := by
                unfold cellR
                rw [if_pos z]
              rw [← this]
              exact ha
            · unfold cellR
              rw [if_pos (by omega)]
          · rw [if_neg z, List.append_nil, show (y - lo).toNat = 0 by omega]
            rfl
        have at_y : cellR l (y :: ys) y = pointD y := by
          unfold cellR
          rw [if_neg (by omega), if_pos rfl]
        have A2 : tryN (cellR l (y :: ys)) (acc ++ (if lo < y then [gapD l (some y)] else [])) y 1 = acc ++ (if lo < y then [gapD l (some y)] else []) ++ [pointD y] := by
          refine tryN_const (bare_point y) ?_ 1 (by omega) fun i hi' => ?_
          · by_cases z : lo < y
            · rw [if_pos z, sameLast_add]
              exact gap_point _ _ _
            · rw [if_neg z, List.append_nil]
              have : lo = y := by omega
              rw [this, at_y] at ha
              exact ha
          · have : i = 0 := by omega
            subst this
            show cellR l (y :: ys) (y + ((0 : Nat) : Int)) = _
            rw [show y + ((0 : Nat) : Int) = y by omega]
            exact at_y
        rw [A1, A2]
        have A3 : tryN (cellR l (y :: ys)) (acc ++ (if lo < y then [gapD l (some y)] else []) ++ [pointD y]) (y + ((1 : Nat) : Int)) (hi - y).toNat = acc ++ (if lo < y then [gapD l (some y)] else []) ++ [pointD y] ++ cellsR lo hi (some y) ys := by
          by_cases z : y < hi
          · have e3 : tryN (cellR l (y :: ys)) (acc ++ (if lo < y then [gapD l (some y)] else []) ++ [pointD y]) (y + ((1 : Nat) : Int)) (hi - y).toNat = tryN (cellR (some y) ys) (acc ++ (if lo < y then [gapD l (some y)] else []) ++ [pointD y]) (y + 1) (hi + 1 - (y + 1)).toNat := by
              rw [show (hi + 1 - (y + 1)).toNat = (hi - y).toNat by omega]
              refine tryN_congr _ _ _ fun i hi' => ?_
              show (if y + 1 + (i : Int) < y then gapD l (some y) else if y + 1 + (i : Int) = y then pointD y else cellR (some y) ys (y + 1 + (i : Int))) = _
              rw [if_neg (by omega), if_neg (by omega)]
              rfl
            rw [e3, try_cells ys (some y) (acc ++ (if lo < y then [gapD l (some y)] else []) ++ [pointD y]) (y + 1) hi (by omega) (fun x e => by cases e; omega) (fun x e z hz => by cases e; exact py z hz) pys (by rw [sameLast_add]; exact cellR_ne ys _ _ _ (by omega))]
            rw [cellsR_lo ys y (Int.le_refl _) (by omega : lo ≤ y + 1) p]
          · rw [show (hi - y).toNat = 0 by omega, cellsR_none ys y (by omega) p, List.append_nil]
            rfl
        rw [A3]
        rw [step_some, g, if_pos (by omega : lo ≤ y ∧ y ≤ hi)]
        simp only [List.append_assoc]
theorem filter_none {ns : List Int} {p : Int → Bool} (h : ∀ n ∈ ns, p n = false) : ns.filter p = [] := List.filter_eq_nil_iff.mpr fun n hn => by rw [h n hn]; exact Bool.false_ne_true
/-- the cell of a number, said by all points or by those beyond -/
theorem cellAt_R : ∀ (rs pre : List Int) (m : Int), (pre ++ rs).Pairwise (· < ·) → (∀ x ∈ pre, x < m) → cellAt (pre ++ rs) m = cellR pre.getLast? rs m
  | [], pre, m, p, h => by
    rw [List.append_nil]
    unfold cellAt cellR
    rw [if_neg (fun q => by have := h m q; omega), List.filter_eq_self.mpr fun n hn => decide_eq_true (h n hn), filter_none fun n hn => decide_eq_false (by have := h n hn; omega)]
    rfl
  | y :: ys, pre, m, p, h => by
    have pp := List.pairwise_append.mp p
    have py := List.pairwise_cons.mp pp.2.1
    show _ = (if m < y then gapD pre.getLast? (some y) else if m = y then pointD y else cellR (some y) ys m)
    by_cases c : m < y
    · rw [if_pos c]
      unfold cellAt
      have nm : ¬ m ∈ pre ++ y :: ys := fun q => by
        rcases List.mem_append.mp q with q | q
        · have := h m q
          omega
        · rcases List.mem_cons.mp q with q | q
          · omega
          · have := py.1 m q
            omega
      rw [if_neg nm, List.filter_append, List.filter_append, List.filter_eq_self.mpr fun n hn => decide_eq_true (h n hn), filter_none (ns := pre) fun n hn => decide_eq_false (by have := h n hn; omega)]
      have f1 : (y :: ys).filter (fun n => decide (n < m)) = [] := filter_none fun n hn => by
        apply decide_eq_false
        rcases List.mem_cons.mp hn with q | q
        · omega
        · have := py.1 n q
          omega
      rw [f1, List.append_nil, List.filter_cons, if_pos (decide_eq_true c)]
      rfl
    · rw [if_neg c]
      by_cases c2 : m = y
      · rw [if_pos c2]
        unfold cellAt
        rw [if_pos (by rw [c2]; exact List.mem_append_right _ List.mem_cons_self), c2]
      · rw [if_neg c2]
        have q := cellAt_R ys (pre ++ [y]) m (by rw [List.append_assoc]; exact p) (fun x hx => by
          rcases List.mem_append.mp hx with z | z
          · exact h x z
          · rw [List.mem_singleton.mp z]
            omega)
        rw [List.append_assoc, List.getLast?_concat] at q
        exact q
/-- THE LAW of cells_in: the cells found number by number are those of the line -/
theorem due_cells {ns : List Int} (p : ns.Pairwise (· < ·)) {lo hi : Int} (h : lo ≤ hi) : dueOf ns lo (hi + 1 - lo).toNat = cellsOf ns lo hi := by
  rw [tryN_due]
  have e : tryN (cellAt ns) [] lo (hi + 1 - lo).toNat = tryN (cellR none ns) [] lo (hi + 1 - lo).toNat := tryN_congr _ _ _ fun i _ => cellAt_R ns [] _ p (fun x hx => nomatch hx)
  rw [e, try_cells ns none [] lo hi h (fun x e => nomatch e) (fun x e => nomatch e) p rfl]
  unfold cellsOf
  rw [fold_cellsR]
end Gx

/-! Any list that a def changes, known to its callers by what stays true of it -/
namespace Gx
open PySem L2
/-- at f stands a list whose items are as G says -/
def HidP (G : List V → Prop) (f : Addr) (h : Heap) : Prop := ∃ (vs : List V) (its : List Value) (n : Nat), G vs ∧ vs.length ≤ sizeLine ∧ Vals vs its ∧ h.get? f = some { cls := .type "list", data := .seq its.toArray n }
def HidO (G : List V → Prop) (f : Addr) : HO := .ext (HidP G f)
section
variable {P : Program} {w : World} {K : PySem.W.Frag} {mg : Str → Option Value} {base : Heap} {H : Hp} {h : Heap} {f : Addr} {G : List V → Prop}
theorem hid_open (ok : HOk P w H h) (hf : H f = some (HidO G f)) : ∃ vs, G vs ∧ HOk P w (upd H f (.lst vs)) h := by
  have q : ObjOk P w H h f (HidO G f) := ok f _ hf
  obtain ⟨⟨vs, its, n, g, l, r, e⟩, _, _⟩ := q
  refine ⟨vs, g, ok.write (by rw [hf]; trivial) (Or.inl rfl) (fun _ _ _ q => q) ⟨_, e⟩ ?_⟩
  exact ⟨l, its, n, r, e⟩
theorem hid_close {vs : List V} (ok : HOk P w H h) (hf : H f = some (.lst vs)) (g : G vs) : HOk P w (upd H f (HidO G f)) h := by
  have q : ObjOk P w H h f (.lst vs) := ok f _ hf
  obtain ⟨l, its, n, r, e⟩ := q
  refine ok.write (by rw [hf]; trivial) (Or.inl rfl) (fun _ _ _ q => q) ⟨_, e⟩ ?_
  exact ⟨⟨vs, its, n, g, l, r, e⟩, ⟨_, e⟩, fun h1 h2 p1 k => by
    obtain ⟨vs, its, n, g, l, r, e⟩ := p1
    exact ⟨vs, its, n, g, l, r, k _ e⟩⟩
theorem hid_view {k : Nat} {fa : Addr} {fd : FuncData} {ps : List Str} {sp sp' : Sp} (F : FnOk P w K mg base CX0 k fa fd ps sp) (some_ : sp' = sp' → ∀ vs H Q E, sp' vs H Q E → vs.length = ps.length)
    (hs : ∀ vs H Q E, sp' vs H Q E → ∃ (f : Addr) (G G2 : List V → Prop), H f = some (HidO G f) ∧ ∀ xs, G xs → sp vs (upd H f (.lst xs)) (fun v H' => (∃ ys, G2 ys ∧ H' f = some (.lst ys)) ∧ Q v (upd H' f (HidO G2 f))) E) :
    FnOk P w K mg base CX0 k fa fd ps sp' := by
  refine ⟨some_ rfl, fun A outer s H args us vs Q E hr he hb hv q => ?_⟩
  obtain ⟨f, G, G2, hf, k⟩ := hs vs H Q E q
  obtain ⟨xs, g, ok1⟩ := hid_open he.hok hf
  have nf : ∀ b, H b = none → b ≠ f := fun b n e => by rw [e, hf] at n; cases n
  have mu : Mut (H f) := by rw [hf]; trivial
  have hof : ∃ o, s.heap.get? f = some o := by
    have q : ObjOk P w H s.heap f (HidO G f) := he.hok f _ hf
    exact q.2.1
  have he1 : Env0 P w K mg base A outer s (upd H f (.lst xs)) :=
    ⟨he.frames, he.mod, fun b o e => ⟨(he.bs b o e).1, by rw [upd_ne (nf b (he.bs b o e).2)]; exact (he.bs b o e).2⟩, he.bsz, he.funs, fun b hb => by rw [upd_ne (nf b (he.frf b hb))]; exact he.frf b hb, ok1, he.bare⟩
  refine codeAny_mono (F.run A outer s _ args us vs _ E hr he1 hb hv (k xs g)) fun r s' hq => ?_
  cases r with
  | error e => exact hq.elim
  | ok fl =>
    cases fl with
    | ret u =>
      obtain ⟨v, H', os, bare, un, hok, rv, ⟨ys, g', e'⟩, q'⟩ := hq
      refine ⟨v, upd H' f (HidO G2 f), os, bare, ?_, hid_close hok e' g', rv, q'⟩
      have u1 : Un (frs outer) [] H (upd H f (.lst xs)) s.heap s.heap := Un.write mu (Or.inl rfl) (fun _ _ _ q => q) hof
      have hof' : ∃ o, s'.heap.get? f = some o := by
        have q : ObjOk P w H' s'.heap f (.lst ys) := hok f _ e'
        obtain ⟨_, its, n, r, e⟩ := q
        exact ⟨_, e⟩
      have u2 : Un (frs outer) [] H' (upd H' f (HidO G2 f)) s'.heap s'.heap := Un.write (by rw [e']; trivial) (Or.inl rfl) (fun _ _ _ q => q) hof'
      exact (u1.trans un).trans u2
    | next => exact hq.elim
    | brk => exact hq.elim
    | cont => exact hq.elim
/-- a def that makes such a list -/
theorem hid_made {k : Nat} {fa : Addr} {fd : FuncData} {ps : List Str} {sp sp' : Sp} (F : FnOk P w K mg base CX0 k fa fd ps sp)
    (hs : ∀ vs H Q E, sp' vs H Q E → sp vs H (fun v H' => ∃ (f : Addr) (G : List V → Prop) (ys : List V), G ys ∧ H' f = some (.lst ys) ∧ Q v (upd H' f (HidO G f))) E) : FnOk P w K mg base CX0 k fa fd ps sp' := by
  refine ⟨fun vs H Q E q => F.len _ _ _ _ (hs vs H Q E q), fun A outer s H args us vs Q E hr he hb hv q => ?_⟩
  refine codeAny_mono (F.run A outer s _ args us vs _ E hr he hb hv (hs vs H Q E q)) fun r s' hq => ?_
  cases r with
  | error e => exact hq.elim
  | ok fl =>
    cases fl with
    | ret u =>
      obtain ⟨v, H', os, bare, un, hok, rv, f, G, ys, g, e', q'⟩ := hq
      have there : ∃ o, s'.heap.get? f = some o := by
        have q : ObjOk P w H' s'.heap f (.lst ys) := hok f _ e'
        obtain ⟨_, its, n, r, e⟩ := q
        exact ⟨_, e⟩
      exact ⟨v, upd H' f (HidO G f), os, bare, un.trans (Un.write (by rw [e']; trivial) (Or.inl rfl) (fun _ _ _ q => q) there), hid_close hok e' g, rv, q'⟩
    | next => exact hq.elim
    | brk => exact hq.elim
    | cont => exact hq.elim
end
/-! ### a flask of draws: two lists -/
/-- numbers from 0 on -/
def Nats (vs : List V) : Prop := ∃ ns : List Int, vs = ns.map V.int ∧ ∀ n ∈ ns, 0 ≤ n
/-- what is not hidden stays -/
def vis : HO → Bool
  | .ext _ => false
  | _ => true
def SmV (H H' : Hp) : Prop := ∀ a o, vis o = true → H a = some o → H' a = some o
theorem SmV.refl (H : Hp) : SmV H H := fun _ _ _ e => e
theorem SmV.trans {H1 H2 H3 : Hp} (a : SmV H1 H2) (b : SmV H2 H3) : SmV H1 H3 := fun p o v e => b p o v (a p o v e)
theorem Same.smv {H H' : Hp} (s : Same H H') : SmV H H' := fun a o _ e => s a o e
theorem SmV.lst {H H' : Hp} (s : SmV H H') {a : Addr} {xs : List V} (e : H a = some (.lst xs)) : H' a = some (.lst xs) := s a _ rfl e
theorem SmV.tup {H H' : Hp} (s : SmV H H') {a : Addr} {xs : List V} (e : H a = some (.tup xs)) : H' a = some (.tup xs) := s a _ rfl e
theorem SmV.sqL {K : PySem.W.Frag} {H H' : Hp} (s : SmV H H') {a : Addr} {xs : List V} (h : SqL K H a xs) : SqL K H' a xs := by
  rcases h with (h | ⟨o, h⟩) | h
  · exact .inl (.inl (s a _ rfl h))
  · exact .inl (.inr ⟨o, s a _ rfl h⟩)
  · exact .inr h
theorem SmV.sqT {K : PySem.W.Frag} {H H' : Hp} (s : SmV H H') {a : Addr} {xs : List V} (h : SqT K H a xs) : SqT K H' a xs := by
  rcases h with (h | ⟨o, h⟩) | h
  · exact .inl (.inl (s a _ rfl h))
  · exact .inl (.inr ⟨o, s a _ rfl h⟩)
  · exact .inr h
mutual
theorem dp_smv {K : PySem.W.Frag} {H H' : Hp} (s : SmV H H') : ∀ (d : PyData) (v : V), Dp K H v d → Dp K H' v d
  | .none, _, h => by cases h; exact .non
  | .bool c, _, h => by cases h; exact .bl c
  | .int i, _, h => by cases h; exact .int i
  | .str x, _, h => by cases h; exact .str x
  | .list ds, _, h => by
    cases h with
    | lst a b => exact .lst (s.sqL a) (dp_smvAll s ds _ b)
  | .dict _, _, h => by cases h
  | .tuple ds, _, h => by
    cases h with
    | tup a b => exact .tup (s.sqT a) (dp_smvAll s ds _ b)
theorem dp_smvAll {K : PySem.W.Frag} {H H' : Hp} (s : SmV H H') : ∀ (ds : List PyData) (vs : List V), DpAll K H vs ds → DpAll K H' vs ds
  | [], _, h => by cases h; exact .nil
  | d :: ds, _, h => by
    cases h with
    | cons a c => exact .cons (dp_smv s d _ a) (dp_smvAll s ds _ c)
end
abbrev flC : Int := 170141183460469231731687303715884105727
def FlaskG (q : Addr) (c : Nat) (vs : List V) : Prop := ∃ b n : Int, vs = [.ref q, .int b, .int n] ∧ 0 ≤ b ∧ b < flC ∧ 0 ≤ n ∧ n ≤ (c : Int)
/-- f is a flask that was asked at most c times -/
def Flask (c : Nat) (H : Hp) (f : Addr) : Prop := ∃ q, q ≠ f ∧ H f = some (HidO (FlaskG q c) f) ∧ H q = some (HidO Nats q)
theorem Flask.same {c : Nat} {H H' : Hp} {f : Addr} (h : Flask c H f) (s : Same H H') : Flask c H' f := by
  obtain ⟨q, n, h1, h2⟩ := h
  exact ⟨q, n, s _ _ h1, s _ _ h2⟩
/-- a flask with two open lists -/
def spDrip0 : Sp := fun vs H Q _ => ∃ (f q : Addr) (b n m : Int) (ns : List Int), vs = [.ref f, .int m] ∧ q ≠ f ∧ H f = some (.lst [.ref q, .int b, .int n]) ∧ H q = some (.lst (ns.map V.int)) ∧ (∀ n ∈ ns, 0 ≤ n) ∧
  0 ≤ b ∧ b < flC ∧ 0 ≤ n ∧ n ≤ 1000000 ∧ 0 < m ∧ m.natAbs < 2 ^ 1000 ∧
  ∀ (r b' n' : Int) (ns' : List Int) (H' : Hp), 0 ≤ r → r < m → 0 ≤ b' → b' < flC → 0 ≤ n' → n' ≤ n + 1 → (∀ n ∈ ns', 0 ≤ n) → (∀ a o, a ≠ f → a ≠ q → H a = some o → H' a = some o) → H' q = some (.lst (ns'.map V.int)) → H' f = some (.lst [.ref q, .int b', .int n']) → Q (.int r) H'
def spDrip : Sp := fun vs H Q _ => ∃ (f : Addr) (c : Nat) (m : Int), vs = [.ref f, .int m] ∧ Flask c H f ∧ c ≤ 1000000 ∧ 0 < m ∧ m.natAbs < 2 ^ 1000 ∧ ∀ (r : Int) (H' : Hp), 0 ≤ r → r < m → SmV H H' → Flask (c + 1) H' f → Q (.int r) H'
def spDrip1 : Sp := fun vs H Q _ => ∃ (f q : Addr) (b n m : Int), vs = [.ref f, .int m] ∧ q ≠ f ∧ H f = some (.lst [.ref q, .int b, .int n]) ∧ H q = some (HidO Nats q) ∧
  0 ≤ b ∧ b < flC ∧ 0 ≤ n ∧ n ≤ 1000000 ∧ 0 < m ∧ m.natAbs < 2 ^ 1000 ∧
  ∀ (r b' n' : Int) (H' : Hp), 0 ≤ r → r < m → 0 ≤ b' → b' < flC → 0 ≤ n' → n' ≤ n + 1 → (∀ a o, a ≠ f → H a = some o → H' a = some o) → H' f = some (.lst [.ref q, .int b', .int n']) → Q (.int r) H'
section
variable {P : Program} {w : World} {K : PySem.W.Frag} {mg : Str → Option Value} {base : Heap}
theorem drip_view {k : Nat} {fa : Addr} {fd : FuncData} {ps : List Str} (hl : ps.length = 2) (F : FnOk P w K mg base CX0 k fa fd ps spDrip0) : FnOk P w K mg base CX0 k fa fd ps spDrip := by
  have F1 : FnOk P w K mg base CX0 k fa fd ps spDrip1 := by
    refine hid_view F (fun _ vs H Q E h => ?_) fun vs H Q E h => ?_
    · obtain ⟨f, q, b, n, m, rfl, _⟩ := h
      exact hl.symm
    · obtain ⟨f, q, b, n, m, rfl, hn, hf, hq, b0, b1, n0, n1, m0, m1, k⟩ := h
      refine ⟨q, Nats, Nats, hq, fun xs g => ?_⟩
      obtain ⟨ns, rfl, pos⟩ := g
      refine ⟨f, q, b, n, m, ns, rfl, hn, by rw [upd_ne (Ne.symm hn)]; exact hf, upd_same, pos, b0, b1, n0, n1, m0, m1, fun r b' n' ns' H' r0 r1 c0 c1 d0 d1 pos' ke kq kf => ?_⟩
      refine ⟨⟨_, ⟨ns', rfl, pos'⟩, kq⟩, ?_⟩
      refine k r b' n' _ r0 r1 c0 c1 d0 d1 (fun a o na e => ?_) (by rw [upd_ne (Ne.symm hn)]; exact kf)
      by_cases ha : a = q
      · subst ha
        rw [upd_same]
        rw [hq] at e
        exact e
      · rw [upd_ne ha]
        exact ke a o na ha (by rw [upd_ne ha]; exact e)
  refine hid_view F1 (fun _ vs H Q E h => ?_) fun vs H Q E h => ?_
  · obtain ⟨f, c, m, rfl, _⟩ := h
    exact hl.symm
  · obtain ⟨f, c, m, rfl, ⟨q, hn, hf, hq⟩, c1, m0, m1, k⟩ := h
    refine ⟨f, FlaskG q c, FlaskG q (c + 1), hf, fun xs g => ?_⟩
    obtain ⟨b, n, rfl, b0, b1, n0, n1⟩ := g
    refine ⟨f, q, b, n, m, rfl, hn, upd_same, by rw [upd_ne hn]; exact hq, b0, b1, n0, by omega, m0, m1, fun r b' n' H' r0 r1 c0 c1 d0 d1 ke kf => ?_⟩
    refine ⟨⟨_, ⟨b', n', rfl, c0, c1, d0, by omega⟩, kf⟩, ?_⟩
    refine k r _ r0 r1 (fun a o vo e => ?_) ⟨q, hn, upd_same, ?_⟩
    · have na : a ≠ f := fun z => by
        subst z
        rw [hf] at e
        obtain rfl := Option.some.inj e
        cases vo
      rw [upd_ne na]
      exact ke a o na (by rw [upd_ne na]; exact e)
    · rw [upd_ne hn]
      exact ke q _ hn (by rw [upd_ne hn]; exact hq)
end
end Gx

/-! A comprehension over a range whose turns may change hidden things; texts -/
namespace Gx
open PySem L2
section
variable {σ : L2.St} {H H1 : Hp} {Q : VK} {K : PySem.W.Frag} {te tl : TE} {tt : TT} {g : TG} {vs : List Nat} {J : It} {n j : Nat}
theorem smv_new {H : Hp} {a : Addr} {o : HO} (h : H a = none) : SmV H (upd H a o) := Same.smv (same_new h)
theorem smv_mut {H H' : Hp} {a : Addr} {o : HO} (s : SmV H H') (h : H a = none) : SmV H (upd H' a o) := fun b u v e => by
  by_cases c : b = a
  · subst c
    rw [h] at e
    cases e
  · rw [upd_ne c]
    exact s b u v e
theorem lc_rngV {lo : Int} (hn : n ≤ 100000) (A : Nat → List V → Hp → Prop)
    (mono : ∀ i acc l D H H', H D = some (.lst l) → H1 D = none → SmV H1 H → But D H H' → A i acc H → A i acc H') (A0 : ∀ H, Same H1 H → A 0 [] H)
    (turn : ∀ i acc H' (Nx : V → Hp → Prop), i < n → SmV H1 H' → A i acc H' → acc.length = i → (∀ y H4, SmV H' H4 → A (i + 1) (acc ++ [y]) H4 → Nx y H4) →
      g (.int (lo + (i : Int))) (wipe σ vs) H' fun σ2 H2 => wipe σ2 vs = wipe σ vs ∧ te σ2 H2 Nx)
    (done : ∀ D acc H', H1 D = none → SmV H1 H' → H' D = some (.lst acc) → A n acc H' → acc.length = n → Q (.ref D) H') : LC g tYes te vs (Itr lo n) σ H1 Q := by
  intro D hD
  refine ⟨fun i m H => m = n - i ∧ i ≤ n ∧ ∃ acc, SmV H1 H ∧ H D = some (.lst acc) ∧ A i acc H ∧ acc.length = i, ⟨n, rfl, Nat.zero_le _, [], smv_new hD, upd_same, A0 _ (same_new hD), rfl⟩, ?_⟩
  rintro i m H ⟨rfl, hi, acc, s, e, a, hl⟩
  rcases Nat.lt_or_ge i n with lt | ge
  · right
    refine ⟨lt, fun H' => i + 1 ≤ n ∧ ∃ acc, SmV H1 H' ∧ H' D = some (.lst acc) ∧ A (i + 1) acc H' ∧ acc.length = i + 1, fun H' ⟨l1, q⟩ => ⟨n - (i + 1), by omega, rfl, l1, q⟩, fun x H' y => ?_⟩
    obtain ⟨rfl, rfl⟩ := y
    have t := turn i acc H' (fun y H4 => ∃ acc', H4 D = some (.lst acc') ∧ acc'.length < sizeLine ∧ (i + 1 ≤ n ∧ ∃ acc, SmV H1 (upd H4 D (.lst (acc' ++ [y]))) ∧ upd H4 D (.lst (acc' ++ [y])) D = some (.lst acc) ∧ A (i + 1) acc (upd H4 D (.lst (acc' ++ [y]))) ∧ acc.length = i + 1)) lt s a hl fun y H4 s4 a4 => ?_
    · exact t
    · have e4 := s4 _ _ rfl e
      have s14 := s.trans s4
      exact ⟨acc, e4, big_lt (by omega), lt, acc ++ [y], smv_mut s14 hD, upd_same, mono (i + 1) (acc ++ [y]) acc D H4 _ e4 hD s14 (fun b o nb z => by rw [upd_ne nb]; exact z) a4, by rw [List.length_append, hl]; rfl⟩
  · left
    have e0 : i = n := Nat.le_antisymm hi ge
    subst e0
    exact ⟨Nat.le_refl _, done D acc H hD s e a hl⟩
end
end Gx

/-! name, *rest = x; a text times 0 or 1 -/
namespace Gx
open PySem L2 PySem.Spec PyProof.Rows PySem.W
section
variable {X : Cx}
/-- the unpacking itself, one name ahead of the star -/
theorem star_list {a : Addr} {x : Value} {r : List Value} {n : Nat} {Q : List Value → Shared → Prop} {pr : Program} {wo : World} {A : Around} {E : Value → Shared → Prop} {s : Shared} (hd : A.handled = none)
    (hl : s.heap.IsList a (x :: r).toArray) (hz : r.length ≤ 16000) (done : ∀ (h2 : Heap) (tk : Nat), Heap.ExtBut s.heap.objs.size s.heap h2 → Q [x, .ref h2.objs.size] { s with toks := tk, heap := h2.push { cls := .type "list", data := .seq r.toArray } }) :
    wpAny (model pr wo) A (unpackItems (.ref a) 2 (some 1)) Q E s := by
  have ne : a ≠ s.heap.objs.size := by
    obtain ⟨o, ho, _⟩ := hl
    exact Nat.ne_of_lt (Heap.lt_size ho)
  have sz : (x :: r).toArray.size = r.length + 1 := by simp
  unfold unpackItems notIterableAtAll
  refine wpAny_bind (wpAny_bind (wpAny_specialOf hl.typeIs slot_list_iter.lookup (wpAny_pure ?_)))
  rw [if_neg (by simp)]
  refine wpAny_bind (wpAny_holding (wpAny_pyIter_list hl ?_))
  refine wpAny_bind (wpAny_holding (kun_draw ne 1 0 _ _ ⟨_, Heap.get?_push_size _ rfl, rfl, rfl⟩ (hl.push _) (by omega) fun h1 it1 sb1 => ?_))
  have hl1 : h1.IsList a (x :: r).toArray := (hl.push _).extBut sb1.extBut ne
  rw [Nat.zero_add] at it1
  have it2 := it1
  have hl2 := hl1
  obtain ⟨oi, hoi, _⟩ := it2
  obtain ⟨ol, hol, _⟩ := hl2
  rw [if_neg (by simp)]
  refine wpAny_bind (wpAny_holding (kun_collect (s := { s with heap := h1 }) (T := "list_iterator") (.inr (.inr (.inl rfl))) (Walks.list (A := A.in1) hd s.heap.objs.size a ne _) (fun j u st => st.1.typeIs) (k := 1) (by omega) ⟨it1, hl1⟩ (Heap.lt_size hoi) (Heap.lt_size hol) (fun h2 tk kp => ?_) (by rw [sz, sizeLine_eq]; omega)))
  show wpAny _ _ (if r.length < 0 then _ else _) _ _ _
  rw [if_neg (Nat.not_lt_zero _)]
  show wpAny _ _ (newList (r.take r.length) >>= fun d => pure ([x] ++ [d] ++ r.drop r.length)) _ _ _
  rw [List.take_length, List.drop_length]
  refine wpAny_bind (wpAny_newList (wpAny_pure ?_) (by rw [sizeLine_eq]; omega))
  exact done h2 tk fun b o nb e => kp b o nb (sb1.extBut b o nb (Heap.get?_push_of_some _ e))
theorem star_tuple {a : Addr} {x : Value} {r : List Value} {n : Nat} {Q : List Value → Shared → Prop} {pr : Program} {wo : World} {A : Around} {E : Value → Shared → Prop} {s : Shared} (hd : A.handled = none)
    (hl : IsTup s.heap a (x :: r).toArray) (hz : r.length ≤ 16000) (done : ∀ (h2 : Heap) (tk : Nat), Heap.ExtBut s.heap.objs.size s.heap h2 → Q [x, .ref h2.objs.size] { s with toks := tk, heap := h2.push { cls := .type "list", data := .seq r.toArray } }) :
    wpAny (model pr wo) A (unpackItems (.ref a) 2 (some 1)) Q E s := by
  have ne : a ≠ s.heap.objs.size := by
    obtain ⟨o, ho, _⟩ := hl
    exact Nat.ne_of_lt (Heap.lt_size ho)
  have sz : (x :: r).toArray.size = r.length + 1 := by simp
  unfold unpackItems notIterableAtAll
  refine wpAny_bind (wpAny_bind (wpAny_specialOf hl.typeIs slot_tuple_iter.lookup (wpAny_pure ?_)))
  rw [if_neg (by simp)]
  refine wpAny_bind (wpAny_holding (iter_tuple hl ?_))
  refine wpAny_bind (wpAny_holding (draw_tuple ne 1 0 _ _ ⟨_, Heap.get?_push_size _ rfl, rfl, rfl⟩ (hl.push _) (by omega) fun h1 it1 sb1 => ?_))
  have hl1 : IsTup h1 a (x :: r).toArray := (hl.push _).extBut sb1.extBut ne
  rw [Nat.zero_add] at it1
  have it2 := it1
  have hl2 := hl1
  obtain ⟨oi, hoi, _⟩ := it2
  obtain ⟨ol, hol, _⟩ := hl2
  rw [if_neg (by simp)]
  refine wpAny_bind (wpAny_holding (kun_collect (s := { s with heap := h1 }) (T := "tuple_iterator") (.inr (.inr (.inr rfl))) (Walks.tuple (A := A.in1) hd s.heap.objs.size a ne _) (fun j u st => st.1.typeIs) (k := 1) (by omega) ⟨it1, hl1⟩ (Heap.lt_size hoi) (Heap.lt_size hol) (fun h2 tk kp => ?_) (by rw [sz, sizeLine_eq]; omega)))
  show wpAny _ _ (if r.length < 0 then _ else _) _ _ _
  rw [if_neg (Nat.not_lt_zero _)]
  show wpAny _ _ (newList (r.take r.length) >>= fun d => pure ([x] ++ [d] ++ r.drop r.length)) _ _ _
  rw [List.take_length, List.drop_length]
  refine wpAny_bind (wpAny_newList (wpAny_pure ?_) (by rw [sizeLine_eq]; omega))
  exact done h2 tk fun b o nb e => kp b o nb (sb1.extBut b o nb (Heap.get?_push_of_some _ e))
/-- name, *rest = x : x a list or a tuple -/
def gStar (K : PySem.W.Frag) (t : TGs) : TG := fun v σ H Q => ∃ a x r, v = .ref a ∧ (SqL K H a (x :: r) ∨ SqT K H a (x :: r)) ∧ r.length ≤ 16000 ∧ ∀ p, H p = none → t [x, .ref p] σ (upd H p (.lst r)) Q
theorem pg_star {es : List Expr} {k : Nat} {t : TGs} {pos : Pos} (hc : X.calm = true) (h : PGs X es t) (hn : (assignEach es X.env).length = 2 := by rfl) (hst : (assignEach es X.env).findIdx? (·.1) = some 1 := by rfl) : PG X (.Tuple es k pos) (gStar X.K t) := by
  refine ⟨fun pins s σ H v u Q I r hw => ?_⟩
  obtain ⟨a, x, xs, rfl, hq, hl, go⟩ := hw
  cases r
  rw [PyProof.Rows.assign_Tuple]
  refine wpAny_bind (wpAny_standAt ?_)
  unfold unpack
  rw [hn, hst]
  have last : ∀ (y : Value) (ys : List Value), Vals (x :: xs) (y :: ys) → ∀ (h2 : Heap) (tk : Nat), Heap.ExtBut s.heap.objs.size s.heap h2 → wpAny (model X.prog X.w) X.A (assignInOrder ((assignEach es X.env).map (·.2)) [y, .ref h2.objs.size]) (fun _ s' => ∃ σ' H', Inv X pins σ' H' s' ∧ Q σ' H') X.xe
      { s with toks := tk, heap := h2.push { cls := .type "list", data := .seq ys.toArray } } := by
    intro y ys rv h2 tk he
    cases rv with
    | cons r1 rv =>
      have I1 : Inv X pins σ H { s with heap := h2, toks := tk } := I.kept (t' := tk) fun b o e => he b o (Nat.ne_of_lt (Heap.lt_size e)) e
      have np := I1.hok.fresh (Nat.le_refl _)
      have I2 : Inv X pins σ (upd H h2.objs.size (.lst xs)) { s with toks := tk, heap := h2.push { cls := .type "list", data := .seq ys.toArray } } :=
        I1.laid (t' := tk) (fun b u q => Heap.get?_push_of_some _ q) (Nat.le_refl _) ⟨Nat.le_trans hl (by decide), ys, _, rv, Heap.get?_push_size _ rfl⟩
      exact h.run pins _ σ _ [x, .ref h2.objs.size] [y, .ref h2.objs.size] Q I2 (.cons r1 (.cons rfl .nil)) (go _ np)
  rcases hq with hq | hq
  · obtain ⟨its, rv, pl, hz⟩ := I.list hq
    cases its with
    | nil => cases rv
    | cons y ys =>
      have hl' : s.heap.IsList a (y :: ys).toArray := by
        obtain ⟨o, m, e, c, d, q⟩ := pl
        exact ⟨o, e, c, m, q⟩
      have ly : ys.length ≤ 16000 := by
        have := rv.length
        simp at this
        omega
      exact wpAny_bind (wpAny_holding (star_list (n := 0) (I.ok.hd hc) hl' ly fun h2 tk he => last y ys rv h2 tk he))
  · obtain ⟨its, rv, ht, hz⟩ := I.tuple hq
    cases its with
    | nil => cases rv
    | cons y ys =>
      have ly : ys.length ≤ 16000 := by
        have := rv.length
        simp at this
        omega
      exact wpAny_bind (wpAny_holding (star_tuple (n := 0) (I.ok.hd hc) ht ly fun h2 tk he => last y ys rv h2 tk he))
theorem g_starT {K : PySem.W.Frag} {t : TGs} {a : Addr} {x : V} {r : List V} {σ : L2.St} {H : Hp} {Q : L2.St → Hp → Prop} (h : SqL K H a (x :: r) ∨ SqT K H a (x :: r)) (hl : r.length ≤ 16000) (k : ∀ p H', H p = none → Same H H' → H' p = some (.lst r) → t [x, .ref p] σ H' Q) : gStar K t (.ref a) σ H Q :=
  ⟨a, x, r, rfl, h, hl, fun p hp => k p _ hp (same_new hp) upd_same⟩
/-- a text, 0 or 1 times -/
def rRep1 : R2 := fun x y H Q => ∃ (a : Str) (b : Bool), x = .str a ∧ y = .int (if b = true then 1 else 0) ∧ Q (.str (if b = true then a else Str.empty)) H
theorem op_rep1 : OpR X (binaryOp .Mult) rRep1 := by
  intro pins s σ H x y v u Q I rx ry h
  obtain ⟨a, b, rfl, rfl, q⟩ := h
  obtain ⟨t, rfl⟩ := rx
  obtain ⟨t', rfl⟩ := ry
  cases b with
  | true => exact P.mul_str (by decide) (fun _ z => by cases z) (fun _ z => by cases z) ⟨.str a, H, I, ⟨t, rfl⟩, q⟩
  | false => exact P.mul_str_none (by decide) (by decide) ⟨.str Str.empty, H, I.tok _, ⟨_, rfl⟩, q⟩
end
end Gx

/-! Steps for texts; defs called by a keyword; the walk over enumerate -/
namespace Gx
open PySem L2 PySem.Spec PyProof.Rows
section
variable {X : Cx}
theorem pgs_star {e : Expr} {es : List Expr} {t : TG} {u : TGs} {p : Pos} (h1 : PG X e t) (h2 : PGs X es u) (hs : (assignEach (.Starred e p :: es) X.env).map (·.2) = assign e X.env :: (assignEach es X.env).map (·.2) := by rfl) : PGs X (.Starred e p :: es) (gCons t u) := by
  refine ⟨fun pins s σ H vs us Q I r h => ?_⟩
  obtain ⟨v, vr, rfl, h⟩ := h
  cases r with
  | cons r rr =>
    rw [hs]
    exact assignInOrder_cons (thn (h1.run pins s σ H _ _ _ I r h) fun _ s1 ⟨σ1, H1, I1, q1⟩ => h2.run pins s1 σ1 H1 _ _ Q I1 rr q1)
/-- a def called with keywords alone -/
structure CalK (P : Program) (w : World) (K : PySem.W.Frag) (mg : Str → Option Value) (base : Heap) (k : Nat) (x : Str) (ks : List Str) (gV : List V → List V → List V) (sp : Sp) : Prop where
  ex : ∃ (f : Addr) (fd : FuncData) (ps : List Str) (g : List Value → List Value → List Value), FnOk P w K mg base CX0 k f fd ps sp ∧ mg x = some (.ref f) ∧ PySem.W.keepIn K (.ref f) = true ∧ KBinds K fd ps ks g gV
def tCallK0 (sp : Sp) (gV : List V → List V → List V) (tk : TA) : TE := fun σ H Q => tk σ H fun zs H2 => sp (gV [] zs) H2 Q (fun _ _ _ => False)
theorem pe_cK {k j : Nat} {x : Str} {ks : List Str} {gV : List V → List V → List V} {sp : Sp} {kws : List Keyword} {tk : TA} {p pos : Pos} (c : CalK X.prog X.w X.K X.mg X.base k x ks gV sp) (hr : Room j X.A) (hk : k ≤ j) (hg : Gl X x) (hkw : PK X kws tk)
    (hdb : (x == ("__debug__" : Str)) = false := by decide) (hall : (backToKw pos (keywordEach kws X.env)).all (·.1.isSome) = true := by rfl) (hks : (backToKw pos (keywordEach kws X.env)).filterMap (·.1) = ks := by rfl)
    (hpl : ((backTo pos (starEach [] X.env)).any (·.1) || (backToKw pos (keywordEach kws X.env)).any (·.1.isNone)) = false := by rfl) : PE X (.Call (.Name x p) [] kws pos) (tCallK0 sp gV tk) := by
  obtain ⟨f, fd, ps, g, F, named, kept, kb⟩ := c.ex
  refine ⟨fun pins s σ H Q I h => wpAny_Call_Name_kw (ld_glob I hg named ?_ hdb)⟩
  refine PySem.W.callWith_KW0 (h₀ := X.base) I.ok.mod.kin kept hall (thn (hkw.run pos pins s σ H _ I h) fun ws s2 got => ?_) hpl
  obtain ⟨zs, H2, I2, rz, q2⟩ := got
  refine ⟨I2.kIn, ?_⟩
  rw [hks]
  exact run_fnk (us := []) (vs := []) F (hr.mono hk) kb pass0 I2 .nil rz q2
def soleV : List V → List V → List V
  | [], [x] => [x]
  | _, _ => []
def soleU : List Value → List Value → List Value
  | [], [x] => [x]
  | _, _ => []
theorem sole_rel {vs : List V} {us : List Value} {zs : List V} {ws : List Value} (r : Vals vs us) (rz : Vals zs ws) : Vals (soleV vs zs) (soleU us ws) := by
  cases r with
  | nil =>
    cases rz with
    | nil => exact .nil
    | cons z1 rz =>
      cases rz with
      | nil => exact .cons z1 .nil
      | cons _ _ => exact .nil
  | cons r1 r => exact .nil
theorem kbinds_sole {K : PySem.W.Frag} {fd : FuncData} {k : Str} (h : ∀ x : Value, bindArgs fd ⟨[], [(k, x)]⟩ = pure [(k, x)]) : KBinds K fd [k] [k] soleU soleV := by
  refine ⟨fun st us ws _ hl => ?_, sole_rel⟩
  match us, ws, hl with
  | [], [x], _ => exact .of_eq (h x)
  | [], [], hl => simp [soleU] at hl
  | [], _ :: _ :: _, hl => simp [soleU] at hl
  | _ :: _, _, hl => simp [soleU] at hl
end
section
variable {σ : L2.St} {H H1 : Hp} {Q : VK} {K : PySem.W.Frag} {te to ta : TE} {tk : TA} {R : It → Hp → Prop} {a : Addr} {xs : List V}
theorem g_callK0 {sp : Sp} {gV : List V → List V → List V} (q : tk σ H fun zs H2 => sp (gV [] zs) H2 Q (fun _ _ _ => False)) : tCallK0 sp gV tk σ H Q := q
theorem g_m1 {r : V → List V → Hp → VK → Prop} (q : to σ H fun x H1 => (∃ a, x = .str a) ∧ te σ H1 fun y H2 => r x [y] H2 Q) : tM1 r to te σ H Q := q
theorem g_isstr {z : Str} {P : Prop} (q : P) : (∃ a, V.str z = .str a) ∧ P := ⟨⟨z, rfl⟩, q⟩
theorem g_iStr (q : te σ H fun v H1 => ∃ x, v = .str x ∧ R (Its x) H1) : iStr te σ H R := q
theorem g_exS {z : Str} {R : Str → Prop} (q : R z) : ∃ x, V.str z = .str x ∧ R x := ⟨z, rfl, q⟩
theorem g_iEnum {t : TA} (q : t σ H fun vs H1 => ∃ a xs, vs = [.ref a] ∧ SqL K H1 a xs ∧ R (Ite K a) H1) : iEnum K t σ H R := q
theorem g_exEn {R : Addr → Prop} (h : SqL K H a xs) (q : R a) : ∃ b ys, [V.ref a] = [.ref b] ∧ SqL K H b ys ∧ R b := ⟨a, xs, rfl, h, q⟩
theorem src_str {x : Str} : Src (Its x) H1 x.cps.size (fun i v _ => ∃ c, x.cps[i]? = some c ∧ v = .str ⟨#[c]⟩) := fun i H s =>
  ⟨fun hi => ⟨hi, fun v H' y => by obtain ⟨rfl, q⟩ := y; exact ⟨Same.refl _, q⟩⟩, fun hi => hi⟩
theorem fw_enum {g : TG} {tb : TS} {D : Ends} (Pv : Nat → L2.St → Hp → Prop) (h0 : Pv 0 σ H) (hl : ∀ i σ H, i ≤ xs.length → Pv i σ H → SqL K H a xs)
    (hs : ∀ i x t σ H H', xs[i]? = some x → Pv i σ H → Same H H' → H' t = some (.tup [.int (i : Nat), x]) → g (.ref t) σ H' fun σ2 H2 => tb { D with nx := Pv (i + 1), ct := Pv (i + 1), bk := D.nx } σ2 H2) (hd : ∀ σ H, Pv xs.length σ H → D.nx σ H) : FW g tb D (Ite K a) σ H := by
  refine ⟨fun i m σ H => m = xs.length - i ∧ i ≤ xs.length ∧ Pv i σ H, ⟨_, rfl, Nat.zero_le _, h0⟩, ?_⟩
  rintro i m σ H ⟨rfl, hi, p⟩
  have q := hl i σ H hi p
  rcases Nat.lt_or_ge i xs.length with lt | ge
  · refine .inr ⟨⟨xs, xs[i], q, List.getElem?_eq_getElem lt⟩, Pv (i + 1), fun σ' H' p' => ⟨xs.length - (i + 1), by omega, rfl, lt, p'⟩, fun v H' y => ?_⟩
    obtain ⟨t, x, rfl, nt, rfl, at_⟩ := y
    exact hs i x t σ H _ (at_ xs q) p (same_new nt) upd_same
  · have e : i = xs.length := Nat.le_antisymm hi ge
    subst e
    exact .inl ⟨⟨xs, q, Nat.le_refl _⟩, hd σ H p⟩
theorem g_split {a b : Str} (hb : (b.length == 0) = false) (hl : a.length + 2 ≤ sizeLine) (k : ∀ p H', H p = none → Same H H' → H' p = some (.lst ((Txt.split a b).map V.str)) → Q (.ref p) H') :
    (∃ x y, V.str a = .str x ∧ [V.str b] = [.str y] ∧ (y.length == 0) = false ∧ x.length + 2 ≤ sizeLine ∧ rNewStrs (Txt.split x y) H Q) := ⟨a, b, rfl, rfl, hb, hl, fun p hp => k p _ hp (same_new hp) upd_same⟩
theorem g_join {s : Str} {p : Addr} {ys : List Str} (h : SqL K H p (ys.map V.str)) (hl : (ys.map (·.length)).sum + ys.length * s.length ≤ 16777216) (q : Q (.str (Txt.join s ys)) H) :
    (∃ a p', ∃ ys : List Str, V.str s = .str a ∧ [V.ref p] = [.ref p'] ∧ (SqL K H p' (ys.map V.str) ∨ SqT K H p' (ys.map V.str)) ∧ (ys.map (·.length)).sum + ys.length * a.length ≤ 16777216 ∧ Q (.str (Txt.join a ys)) H) := ⟨s, p, ys, rfl, rfl, .inl h, hl, q⟩
end
end Gx

/-! in by an own __contains__; while; dict comprehensions; comprehensions over ints -/
namespace Gx
open PySem L2 PySem.Spec PyProof.Rows
open C8 (Cal Met Mak)
section
variable {X : Cx} {k j : Nat} {C : Addr} {sp : Sp}
/-- y in o, o of the class at C with its own __contains__ -/
def rOwn (C : Addr) (sp : Sp) (neg : Bool) : R2 := fun y x H Q => ∃ a dx fs, x = .ref a ∧ H a = some (.ins C dx fs) ∧ sp [.ref a, y] H (fun r H' => ∃ b, r = .bl b ∧ Q (.bl (if neg = true then !b else b)) H') (fun _ _ _ => False)
theorem own_run {f : Addr} {fd : FuncData} {ps : List Str} {pins : List (Addr × Obj)} {σ : L2.St} {H : Hp} {s : Shared} {vs : List V} {us : List Value} {Q : VK} (F : FnOk X.prog X.w X.K X.mg X.base CX0 k f fd ps sp) (hr : Room k X.A) (hb : Binds X.K fd ps [])
    (I : Inv X pins σ H s) (r : Vals vs us) (h : sp vs H Q (fun _ _ _ => False)) : wpAny (model X.prog X.w) X.A (call (.ref f) us) (EP X pins σ Q) X.xe s := by
  have hl := F.len _ _ _ _ h
  refine wpAny_call (codeAny_mono (F.run X.A X.stack s H ⟨us, []⟩ us vs Q (fun _ _ _ => False) hr I.env0 (by
    have := hb s us I.kIn (by rw [List.append_nil, ← r.length]; exact hl)
    simpa using this) r h) fun r s' hq => ?_)
  cases r with
  | error e => exact hq.elim
  | ok fl =>
    cases fl with
    | ret w => exact I.after hq
    | next => exact False.elim hq
    | brk => exact False.elim hq
    | cont => exact False.elim hq
theorem op_ownIn (c : Met X.prog X.w X.K X.mg X.base k C "__contains__" sp []) (hr : Room j X.A) (hk : k ≤ j) : OpR X (compareOp .In) (rOwn C sp false) := by
  intro pins s σ H y x v u Q I ry rx h
  obtain ⟨a, dx, fs, rfl, ha, q⟩ := h
  cases rx
  obtain ⟨f, fd, ps, ds, hc, hm, F, hb, hd⟩ := c.ex
  cases hd
  obtain ⟨mA, J, _⟩ := ins_get I.hok ha
  obtain ⟨od, J, _⟩ := J.look
  obtain ⟨m, hF⟩ := I.fr
  refine PySem.W.in_K hF I.ok.mod.kin J hm.at_ hm.fn (wpAny_mono (own_run (vs := [.ref a, y]) F (hr.mono hk) hb I (.cons rfl (.cons ry .nil)) q) (fun z s' hz => ?_) fun _ _ e => e)
  obtain ⟨r, H', I', rz, b, rfl, q'⟩ := hz
  cases rz
  exact wpAny_truthy_bool ⟨.bl b, H', I', rfl, q'⟩
theorem op_ownNotIn (c : Met X.prog X.w X.K X.mg X.base k C "__contains__" sp []) (hr : Room j X.A) (hk : k ≤ j) : OpR X (compareOp .NotIn) (rOwn C sp true) := by
  intro pins s σ H y x v u Q I ry rx h
  obtain ⟨a, dx, fs, rfl, ha, q⟩ := h
  cases rx
  obtain ⟨f, fd, ps, ds, hc, hm, F, hb, hd⟩ := c.ex
  cases hd
  obtain ⟨mA, J, _⟩ := ins_get I.hok ha
  obtain ⟨od, J, _⟩ := J.look
  obtain ⟨m, hF⟩ := I.fr
  refine PySem.W.notIn_K hF I.ok.mod.kin J hm.at_ hm.fn (wpAny_mono (own_run (vs := [.ref a, y]) F (hr.mono hk) hb I (.cons rfl (.cons ry .nil)) q) (fun z s' hz => ?_) fun _ _ e => e)
  obtain ⟨r, H', I', rz, b, rfl, q'⟩ := hz
  cases rz
  exact wpAny_truthy_bool ⟨.bl (!b), H', I', rfl, q'⟩
end
section
variable {σ : L2.St} {H H1 : Hp} {Q : VK} {K : PySem.W.Frag} {te tl tk tv : TE} {tt : TT} {g : TG} {vs : List Nat} {J : It} {n j : Nat} {D : Ends} {tb : TS}
theorem g_own {C a dx : Addr} {fs : List (Str × V)} {sp : Sp} {y : V} (h : H a = some (.ins C dx fs)) (q : sp [.ref a, y] H (fun r H' => ∃ b, r = .bl b ∧ Q (.bl (if false = true then !b else b)) H') (fun _ _ _ => False)) : rOwn C sp false y (.ref a) H Q := ⟨a, dx, fs, rfl, h, q⟩
/-- while, by a word and a measure of the state -/
theorem g_while (Pv : Nat → L2.St → Hp → Prop) (m0 : Nat) (h0 : Pv m0 σ H) (hs : ∀ m σ H, Pv m σ H → tt σ H fun b H1 => if b = true then ∃ N : L2.St → Hp → Prop, (∀ σ' H', N σ' H' → ∃ m', m' < m ∧ Pv m' σ' H') ∧ tb { D with nx := N, ct := N, bk := D.nx } σ H1 else D.nx σ H1) : tWhile tt tb D σ H := ⟨Pv, ⟨m0, h0⟩, hs⟩
theorem g_turn (Pv : Nat → L2.St → Hp → Prop) {m : Nat} (q : tb { D with nx := fun σ' H' => ∃ m', m' < m ∧ Pv m' σ' H', ct := fun σ' H' => ∃ m', m' < m ∧ Pv m' σ' H', bk := D.nx } σ H) : ∃ N : L2.St → Hp → Prop, (∀ σ' H', N σ' H' → ∃ m', m' < m ∧ Pv m' σ' H') ∧ tb { D with nx := N, ct := N, bk := D.nx } σ H := ⟨_, fun _ _ h => h, q⟩
/-! ### membership in a dict -/
/-- the turns of a dict comprehension, its source known -/
def DC (g : TG) (tt : TT) (tk tv : TE) (vs : List Nat) (J : It) (σ : L2.St) (H1 : Hp) (Q : VK) : Prop := ∀ D, H1 D = none → ∃ W : Nat → Nat → Hp → Prop, (∃ m, W 0 m (upd H1 D (.dK []))) ∧ ∀ i m H, W i m H →
  (J.stop i H ∧ Q (.ref D) H) ∨ (J.go i H ∧ ∃ Nx : Hp → Prop, (∀ H', Nx H' → ∃ m', m' < m ∧ W (i + 1) m' H') ∧ ∀ x H', J.yld i H x H' → g x (wipe σ vs) H' fun σ2 H2 => wipe σ2 vs = wipe σ vs ∧ tt σ2 H2 fun b H3 =>
    if b = true then tk σ2 H3 fun y H4 => tv σ2 H4 fun z H5 => ∃ kvs k, y = kV k ∧ H5 D = some (.dK kvs) ∧ kvs.length < sizeLine ∧ Nx (upd H5 D (.dK (putK kvs k z))) else Nx H3)
theorem g_dc {wi : TI} (q : wi σ H fun J H1 => DC g tt tk tv vs J σ H1 Q) : tDc wi g tt tk tv vs σ H Q := q
/-- a dict whose keys are some ints -/
def KeysI (H : Hp) (a : Addr) (ns : List Int) : Prop := ∃ kvs : List (Key × V), H a = some (.dK kvs) ∧ ∀ k : Int, (valV kvs (.inl k)).isSome = decide (k ∈ ns)
theorem KeysI.same {H H' : Hp} {a : Addr} {ns : List Int} (h : KeysI H a ns) (s : Same H H') : KeysI H' a ns := by
  obtain ⟨kvs, e, m⟩ := h
  exact ⟨kvs, s _ _ e, m⟩
theorem dc_ints {a : Addr} {ns : List Int} (h : SqL K H1 a (ns.map V.int)) (hn : ns.length ≤ 100000)
    (turn : ∀ (m : Int) H' (Nx : V → V → Hp → Prop), m ∈ ns → Same H1 H' → (∀ z H4, Same H' H4 → Nx (.int m) z H4) → g (.int m) (wipe σ vs) H' fun σ2 H2 => wipe σ2 vs = wipe σ vs ∧ tk σ2 H2 fun y H3 => tv σ2 H3 fun z H4 => Nx y z H4)
    (done : ∀ D H', H1 D = none → Same H1 H' → KeysI H' D ns → Q (.ref D) H') : DC g tYes tk tv vs (Itl K a) σ H1 Q := by
  intro D hD
  refine ⟨fun i m H => m = ns.length - i ∧ i ≤ ns.length ∧ ∃ kvs : List (Key × V), Same H1 H ∧ H D = some (.dK kvs) ∧ kvs.length ≤ i ∧ ∀ k : Int, (valV kvs (.inl k)).isSome = decide (k ∈ ns.take i), ⟨ns.length, rfl, Nat.zero_le _, [], same_new hD, upd_same, Nat.le_refl _, fun k => rfl⟩, ?_⟩
  rintro i m H ⟨rfl, hi, kvs, s, e, hl, mem⟩
  rcases Nat.lt_or_ge i ns.length with lt | ge
  · right
    have lt' : i < (ns.map V.int).length := by rw [List.length_map]; exact lt
    obtain ⟨go, yl⟩ := (src_list h i H s).1 lt'
    refine ⟨go, fun H' => i + 1 ≤ ns.length ∧ ∃ kvs : List (Key × V), Same H1 H' ∧ H' D = some (.dK kvs) ∧ kvs.length ≤ i + 1 ∧ ∀ k : Int, (valV kvs (.inl k)).isSome = decide (k ∈ ns.take (i + 1)), fun H' ⟨l1, q⟩ => ⟨ns.length - (i + 1), by omega, rfl, l1, q⟩, fun x H' y => ?_⟩
    obtain ⟨s2, it⟩ := yl x H' y
    have s12 := s.trans s2
    obtain ⟨n, hn', rfl⟩ := ints_at it
    have t := turn n H' (fun y z H5 => ∃ kvs k, y = kV k ∧ H5 D = some (.dK kvs) ∧ kvs.length < sizeLine ∧ (i + 1 ≤ ns.length ∧ ∃ kvs' : List (Key × V), Same H1 (upd H5 D (.dK (putK kvs k z))) ∧ upd H5 D (.dK (putK kvs k z)) D = some (.dK kvs') ∧ kvs'.length ≤ i + 1 ∧ ∀ k : Int, (valV kvs' (.inl k)).isSome = decide (k ∈ ns.take (i + 1)))) (List.mem_of_getElem? hn') s12 fun z H4 s4 => ?_
    · exact t
    · refine ⟨kvs, .inl n, rfl, s4 _ _ (s2 _ _ e), big_lt (by omega), lt, _, same_mut (s12.trans s4) hD, upd_same, Nat.le_trans (length_putK _ _ _) (Nat.succ_le_succ hl), fun k => ?_⟩
      have tk : ns.take (i + 1) = ns.take i ++ [n] := by
        rw [List.take_succ, hn']
        rfl
      rw [valV_put, tk]
      by_cases c : k = n
      · subst c
        rw [if_pos rfl]
        simp
      · rw [if_neg (fun z => c (Sum.inl.inj z)), mem k]
        simp [c]
  · left
    have e0 : i = ns.length := Nat.le_antisymm hi ge
    subst e0
    rw [List.take_length] at mem
    exact ⟨(src_list h _ H s).2 (by rw [List.length_map]; exact Nat.le_refl _), done D H hD s ⟨kvs, e, mem⟩⟩
def rDIn2 (neg : Bool) : R2 := fun y x H Q => ∃ a o, x = .ref a ∧ DGet H a y o ∧ Q (.bl (if neg = true then !o.isSome else o.isSome)) H
theorem op_dictIn {X : Cx} (hu : X.A.units + 64 < cLine) : OpR X (compareOp .In) (rDIn2 false) := by
  intro pins s σ H y x v u Q I ry rx h
  obtain ⟨a, ov, rfl, g, q⟩ := h
  cases rx
  exact d_in (by omega) I g ry fun s3 I3 => ⟨.bl ov.isSome, H, I3, rfl, q⟩
theorem op_dictNotIn {X : Cx} (hu : X.A.units + 64 < cLine) : OpR X (compareOp .NotIn) (rDIn2 true) := by
  intro pins s σ H y x v u Q I ry rx h
  obtain ⟨a, ov, rfl, g, q⟩ := h
  cases rx
  exact d_notIn (by omega) I g ry fun s3 I3 => ⟨.bl (!ov.isSome), H, I3, rfl, q⟩
theorem g_keyNot {a : Addr} {ns : List Int} {n : Int} (h : KeysI H a ns) (q : Q (.bl (!decide (n ∈ ns))) H) : rDIn2 true (.int n) (.ref a) H Q := by
  obtain ⟨kvs, e, m⟩ := h
  exact ⟨a, _, rfl, DGet.k (k := .inl n) e, by rw [if_pos rfl, m]; exact q⟩
theorem g_keyIn {a : Addr} {ns : List Int} {n : Int} (h : KeysI H a ns) (q : Q (.bl (decide (n ∈ ns))) H) : rDIn2 false (.int n) (.ref a) H Q := by
  obtain ⟨kvs, e, m⟩ := h
  exact ⟨a, _, rfl, DGet.k (k := .inl n) e, by rw [if_neg (by decide), m]; exact q⟩
/-! ### comprehensions over ints -/
/-- a test that each int answers -/
theorem lc_filtI {a : Addr} {ns : List Int} (h : SqL K H1 a (ns.map V.int)) (hn : ns.length ≤ 100000) (d : Int → Bool)
    (turn : ∀ (m : Int) H' (Nx : V → Hp → Prop) (No : Hp → Prop), m ∈ ns → Same H1 H' → (∀ H4, Same H' H4 → d m = true → Nx (.int m) H4) → (∀ H4, Same H' H4 → d m = false → No H4) →
      g (.int m) (wipe σ vs) H' fun σ2 H2 => wipe σ2 vs = wipe σ vs ∧ tt σ2 H2 fun b H3 => if b = true then te σ2 H3 Nx else No H3)
    (done : ∀ D H', H1 D = none → Same H1 H' → H' D = some (.lst ((ns.filter d).map V.int)) → Q (.ref D) H') : LC g tt te vs (Itl K a) σ H1 Q := by
  have e0 : ns.length = (ns.map V.int).length := (List.length_map _).symm
  refine lc_src (n := ns.length) (by rw [e0]; exact src_list h) hn (fun i acc _ => acc = ((ns.take i).filter d).map V.int) (fun _ _ _ _ _ _ _ _ _ _ a => a) (fun _ _ => rfl) (fun i x acc H' Nx No lt s it a hl k1 k2 => ?_) fun D acc H' h1 s e a _ => done D H' h1 s (by rw [e, a, List.take_length])
  obtain ⟨m, hm, rfl⟩ := ints_at it
  have tk : ns.take (i + 1) = ns.take i ++ [m] := by
    rw [List.take_succ, hm]
    rfl
  refine turn m H' Nx No (List.mem_of_getElem? hm) s (fun H4 s4 h => k1 _ H4 s4 ?_) (fun H4 s4 h => k2 H4 s4 ?_)
  · rw [tk, List.filter_append, List.map_append, a]
    simp [h]
  · rw [tk, List.filter_append, List.map_append, a]
    simp [h]
/-- a test whose answer is not known: some of them, in their sequence -/
theorem lc_someI {a : Addr} {ns : List Int} (h : SqL K H1 a (ns.map V.int)) (hn : ns.length ≤ 100000)
    (turn : ∀ (m : Int) H' (Nx : V → Hp → Prop) (No : Hp → Prop), m ∈ ns → Same H1 H' → (∀ H4, Same H' H4 → Nx (.int m) H4) → (∀ H4, Same H' H4 → No H4) →
      g (.int m) (wipe σ vs) H' fun σ2 H2 => wipe σ2 vs = wipe σ vs ∧ tt σ2 H2 fun b H3 => if b = true then te σ2 H3 Nx else No H3)
    (done : ∀ D (ys : List Int) H', H1 D = none → Same H1 H' → H' D = some (.lst (ys.map V.int)) → ys.Sublist ns → Q (.ref D) H') : LC g tt te vs (Itl K a) σ H1 Q := by
  have e0 : ns.length = (ns.map V.int).length := (List.length_map _).symm
  refine lc_src (n := ns.length) (by rw [e0]; exact src_list h) hn (fun i acc _ => ∃ ys : List Int, acc = ys.map V.int ∧ ys.Sublist (ns.take i)) (fun _ _ _ _ _ _ _ _ _ _ a => a) (fun _ _ => ⟨[], rfl, List.nil_sublist _⟩) (fun i x acc H' Nx No lt s it a hl k1 k2 => ?_) fun D acc H' h1 s e a _ => ?_
  · obtain ⟨m, hm, rfl⟩ := ints_at it
    obtain ⟨ys, rfl, sub⟩ := a
    have tk : ns.take (i + 1) = ns.take i ++ [m] := by
      rw [List.take_succ, hm]
      rfl
    refine turn m H' Nx No (List.mem_of_getElem? hm) s (fun H4 s4 => k1 _ H4 s4 ⟨ys ++ [m], by rw [List.map_append]; rfl, ?_⟩) (fun H4 s4 => k2 H4 s4 ⟨ys, rfl, ?_⟩)
    · rw [tk]
      exact sub.append (List.Sublist.refl _)
    · rw [tk]
      exact sub.trans (List.sublist_append_left _ _)
  · obtain ⟨ys, rfl, sub⟩ := a
    rw [List.take_length] at sub
    exact done D ys H' h1 s e sub
end
/-! ### keywords in another sequence -/
def rotV : List V → List V → List V
  | [], [z, b, a, c] => [a, b, c, z]
  | _, _ => []
def rotU : List Value → List Value → List Value
  | [], [z, b, a, c] => [a, b, c, z]
  | _, _ => []
theorem rot_rel {vs : List V} {us : List Value} {zs : List V} {ws : List Value} (r : Vals vs us) (rz : Vals zs ws) : Vals (rotV vs zs) (rotU us ws) := by
  cases r with
  | cons _ _ => exact .nil
  | nil =>
    cases rz with
    | nil => exact .nil
    | cons z1 rz =>
      cases rz with
      | nil => exact .nil
      | cons z2 rz =>
        cases rz with
        | nil => exact .nil
        | cons z3 rz =>
          cases rz with
          | nil => exact .nil
          | cons z4 rz =>
            cases rz with
            | nil => exact .cons z3 (.cons z2 (.cons z4 (.cons z1 .nil)))
            | cons _ _ => exact .nil
theorem kbinds_rot {K : PySem.W.Frag} {fd : FuncData} {k1 k2 k3 k4 : Str} (h : ∀ z b a c : Value, bindArgs fd ⟨[], [(k4, z), (k2, b), (k1, a), (k3, c)]⟩ = pure [(k1, a), (k2, b), (k3, c), (k4, z)]) : KBinds K fd [k1, k2, k3, k4] [k4, k2, k1, k3] rotU rotV := by
  refine ⟨fun st us ws _ hl => ?_, rot_rel⟩
  match us, ws, hl with
  | [], [z, b, a, c], _ => exact .of_eq (h z b a c)
  | [], [], hl => simp [rotU] at hl
  | [], [_], hl => simp [rotU] at hl
  | [], [_, _], hl => simp [rotU] at hl
  | [], [_, _, _], hl => simp [rotU] at hl
  | [], _ :: _ :: _ :: _ :: _ :: _, hl => simp [rotU] at hl
  | _ :: _, _, hl => simp [rotU] at hl
end Gx

/-! How far a read reaches, as plain functions; what is found by steps and by the nearest points is the same -/
namespace Gx
open PySem L2
def leftOf (ns : List Int) (lo : Int) : Option Int := if lo ∈ ns then some lo else (ns.filter fun n => decide (n < lo)).getLast?
def rightOf (ns : List Int) (hi : Int) : Option Int := if hi ∈ ns then some hi else (ns.filter fun n => decide (hi < n)).head?
def keptOf (ns ss : List Int) : List Int := ns.filter fun n => !decide (n ∈ ss)
def leftOk (l : Option Int) (hl : Bool) (x : Int) : Bool := match l with | none => true | some a => !(decide (x < a) || (decide (x = a) && !hl))
def rightOk (r : Option Int) (hr : Bool) (x : Int) : Bool := match r with | none => true | some b => decide (x < b) || (decide (x = b) && hr)
def heldB (l r : Option Int) (hl hr : Bool) (x : Int) : Bool := leftOk l hl x && rightOk r hr x
def reachV (ns ss : List Int) (lo hi : Int) : List V := [oV (leftOf (keptOf ns ss) lo), oV (rightOf (keptOf ns ss) hi), .bl (decide (lo ∈ keptOf ns ss)), .bl (decide (hi ∈ keptOf ns ss))]
def tupD (l r : Option Int) (hl hr : Bool) : PyData := .tuple [oD l, oD r, .bool hl, .bool hr]
def reachD (ns ss : List Int) (lo hi : Int) : PyData := tupD (leftOf (keptOf ns ss) lo) (rightOf (keptOf ns ss) hi) (decide (lo ∈ keptOf ns ss)) (decide (hi ∈ keptOf ns ss))
theorem kept_up {ns : List Int} (ss : List Int) (h : ns.Pairwise (· < ·)) : (keptOf ns ss).Pairwise (· < ·) := h.sublist List.filter_sublist
theorem kept_sub {ns ss : List Int} {n : Int} (h : n ∈ keptOf ns ss) : n ∈ ns := (List.mem_filter.mp h).1
theorem kept_len (ns ss : List Int) : (keptOf ns ss).length ≤ ns.length := List.length_filter_le _ _
/-- the greatest of ascending numbers is the last -/
theorem last_most : ∀ {l : List Int} {z : Int}, l.Pairwise (· < ·) → l.getLast? = some z → ∀ y ∈ l, y ≤ z
  | [], _, _, h, _, _ => by cases h
  | [a], z, _, h, y, hy => by
    rw [List.mem_singleton.mp hy]
    have : a = z := by simpa using h
    omega
  | a :: b :: r, z, p, h, y, hy => by
    have h2 : (b :: r).getLast? = some z := by rw [List.getLast?_cons_cons] at h; exact h
    have ih := last_most (List.pairwise_cons.mp p).2 h2
    rcases List.mem_cons.mp hy with rfl | hy
    · have := (List.pairwise_cons.mp p).1 b (List.mem_cons_self ..)
      have := ih b (List.mem_cons_self ..)
      omega
    · exact ih y hy
theorem head_least {l : List Int} {z : Int} (p : l.Pairwise (· < ·)) (h : l.head? = some z) : ∀ y ∈ l, z ≤ y := by
  intro y hy
  cases l with
  | nil => cases h
  | cons a r =>
    have e : a = z := by simpa using h
    rcases List.mem_cons.mp hy with rfl | hy
    · omega
    · have := (List.pairwise_cons.mp p).1 y hy
      omega
theorem last_filter {ns : List Int} (p : ns.Pairwise (· < ·)) {c : Int → Bool} {x : Int} (hx : x ∈ ns) (hc : c x = true) (most : ∀ y ∈ ns, c y = true → y ≤ x) : (ns.filter c).getLast? = some x := by
  have hm : x ∈ ns.filter c := List.mem_filter.mpr ⟨hx, hc⟩
  cases e : (ns.filter c).getLast? with
  | none =>
    rw [List.getLast?_eq_none_iff.mp e] at hm
    cases hm
  | some z =>
    have h1 := last_most (p.sublist List.filter_sublist) e x hm
    obtain ⟨hz, cz⟩ := List.mem_filter.mp (List.mem_of_getLast? e)
    have h2 := most z hz cz
    rw [show z = x by omega]
theorem head_filter {ns : List Int} (p : ns.Pairwise (· < ·)) {c : Int → Bool} {x : Int} (hx : x ∈ ns) (hc : c x = true) (least : ∀ y ∈ ns, c y = true → x ≤ y) : (ns.filter c).head? = some x := by
  have hm : x ∈ ns.filter c := List.mem_filter.mpr ⟨hx, hc⟩
  cases e : (ns.filter c).head? with
  | none =>
    rw [List.head?_eq_none_iff.mp e] at hm
    cases hm
  | some z =>
    have h1 := head_least (p.sublist List.filter_sublist) e x hm
    obtain ⟨hz, cz⟩ := List.mem_filter.mp (List.mem_of_head? e)
    have h2 := least z hz cz
    rw [show z = x by omega]
theorem filter_no {ns : List Int} {c : Int → Bool} (h : ∀ n ∈ ns, c n = false) : ns.filter c = [] := List.filter_eq_nil_iff.mpr fun n hn => by rw [h n hn]; exact Bool.false_ne_true
/-- what is found by steps of one number -/
def StepP (rows : List Int) (b by_ : Int) (o : Option Int) (z : Bool) : Prop :=
  (∃ t : Nat, t < 40 ∧ o = some (b + by_ * (t : Int)) ∧ b + by_ * (t : Int) ∈ rows ∧ (∀ s : Nat, s < t → ¬ b + by_ * (s : Int) ∈ rows) ∧ z = decide (t = 0)) ∨ (o = none ∧ z = false ∧ ∀ s : Nat, s < 40 → ¬ b + by_ * (s : Int) ∈ rows)
theorem step_left {ns : List Int} (p : ns.Pairwise (· < ·)) (hb : ∀ n ∈ ns, -12 ≤ n ∧ n ≤ 12) {lo : Int} (h1 : -13 ≤ lo) (h2 : lo ≤ 13) {o : Option Int} {z : Bool} (h : StepP ns lo (-1) o z) : o = leftOf ns lo ∧ z = decide (lo ∈ ns) := by
  unfold leftOf
  rcases h with ⟨t, lt, rfl, ht, nt, rfl⟩ | ⟨rfl, rfl, no⟩
  · cases t with
    | zero =>
      have e : lo + -1 * ((0 : Nat) : Int) = lo := by omega
      rw [e] at ht ⊢
      rw [if_pos ht]
      exact ⟨rfl, by simp [ht]⟩
    | succ t =>
      have n0 : ¬ lo ∈ ns := by
        have := nt 0 (by omega)
        rwa [show lo + -1 * ((0 : Nat) : Int) = lo by omega] at this
      rw [if_neg n0]
      refine ⟨(last_filter p ht (decide_eq_true (by omega)) fun y hy cy => ?_).symm, by simp [n0]⟩
      have c := of_decide_eq_true cy
      rcases Int.lt_or_le (lo + -1 * ((t + 1 : Nat) : Int)) y with l | l
      · have := nt (lo - y).toNat (by omega)
        rw [show lo + -1 * (((lo - y).toNat : Nat) : Int) = y by omega] at this
        exact absurd hy this
      · exact l
  · have n0 : ¬ lo ∈ ns := by
      have := no 0 (by omega)
      rwa [show lo + -1 * ((0 : Nat) : Int) = lo by omega] at this
    rw [if_neg n0, filter_no fun n hn => decide_eq_false fun c => ?_]
    · exact ⟨rfl, by simp [n0]⟩
    · have hn' := hb n hn
      have := no (lo - n).toNat (by omega)
      rw [show lo + -1 * (((lo - n).toNat : Nat) : Int) = n by omega] at this
      exact this hn
theorem step_right {ns : List Int} (p : ns.Pairwise (· < ·)) (hb : ∀ n ∈ ns, -12 ≤ n ∧ n ≤ 12) {hi : Int} (h1 : -13 ≤ hi) (h2 : hi ≤ 13) {o : Option Int} {z : Bool} (h : StepP ns hi 1 o z) : o = rightOf ns hi ∧ z = decide (hi ∈ ns) := by
  unfold rightOf
  rcases h with ⟨t, lt, rfl, ht, nt, rfl⟩ | ⟨rfl, rfl, no⟩
  · cases t with
    | zero =>
      have e : hi + 1 * ((0 : Nat) : Int) = hi := by omega
      rw [e] at ht ⊢
      rw [if_pos ht]
      exact ⟨rfl, by simp [ht]⟩
    | succ t =>
      have n0 : ¬ hi ∈ ns := by
        have := nt 0 (by omega)
        rwa [show hi + 1 * ((0 : Nat) : Int) = hi by omega] at this
      rw [if_neg n0]
      refine ⟨(head_filter p ht (decide_eq_true (by omega)) fun y hy cy => ?_).symm, by simp [n0]⟩
      have c := of_decide_eq_true cy
      rcases Int.lt_or_le y (hi + 1 * ((t + 1 : Nat) : Int)) with l | l
      · have := nt (y - hi).toNat (by omega)
        rw [show hi + 1 * (((y - hi).toNat : Nat) : Int) = y by omega] at this
        exact absurd hy this
      · exact l
  · have n0 : ¬ hi ∈ ns := by
      have := no 0 (by omega)
      rwa [show hi + 1 * ((0 : Nat) : Int) = hi by omega] at this
    rw [if_neg n0, filter_no fun n hn => decide_eq_false fun c => ?_]
    · exact ⟨rfl, by simp [n0]⟩
    · have hn' := hb n hn
      have := no (n - hi).toNat (by omega)
      rw [show hi + 1 * (((n - hi).toNat : Nat) : Int) = n by omega] at this
      exact this hn
/-- the nearest points, itself among them -/
def lessOf (ns : List Int) (lo : Int) : List Int := ns.filter fun n => decide (n ≤ lo)
def moreOf (ns : List Int) (hi : Int) : List Int := ns.filter fun n => decide (hi ≤ n)
theorem near_left {ns : List Int} (p : ns.Pairwise (· < ·)) (lo : Int) : (lessOf ns lo).getLast? = leftOf ns lo ∧ (decide (oV (lessOf ns lo).getLast? = V.int lo) && decide (lessOf ns lo ≠ [])) = decide (lo ∈ ns) := by
  unfold leftOf lessOf
  by_cases h : lo ∈ ns
  · have e := last_filter (c := fun n => decide (n ≤ lo)) p h (decide_eq_true (Int.le_refl lo)) fun y _ c => of_decide_eq_true c
    rw [if_pos h, e]
    refine ⟨rfl, ?_⟩
    have ne : ns.filter (fun n => decide (n ≤ lo)) ≠ [] := fun z => by rw [z] at e; cases e
    simp [h, oV, ne]
  · have e : (ns.filter fun n => decide (n ≤ lo)) = ns.filter fun n => decide (n < lo) := List.filter_congr fun n hn => by
      have : n ≠ lo := fun z => h (z ▸ hn)
      exact decide_eq_decide.mpr ⟨fun _ => by omega, fun _ => by omega⟩
    rw [if_neg h, e]
    refine ⟨rfl, ?_⟩
    rw [decide_eq_false h]
    cases q : (ns.filter fun n => decide (n < lo)).getLast? with
    | none => rfl
    | some z =>
      have hz := (List.mem_filter.mp (List.mem_of_getLast? q)).2
      have hz := of_decide_eq_true hz
      have : ¬ oV (some z) = V.int lo := fun e => by
        have e : V.int z = V.int lo := e
        injection e with e
        omega
      rw [decide_eq_false this]
      rfl
theorem near_right {ns : List Int} (p : ns.Pairwise (· < ·)) (hi : Int) : (moreOf ns hi).head? = rightOf ns hi ∧ (decide (oV (moreOf ns hi).head? = V.int hi) && decide (moreOf ns hi ≠ [])) = decide (hi ∈ ns) := by
  unfold rightOf moreOf
  by_cases h : hi ∈ ns
  · have e := head_filter (c := fun n => decide (hi ≤ n)) p h (decide_eq_true (Int.le_refl hi)) fun y _ c => of_decide_eq_true c
    rw [if_pos h, e]
    refine ⟨rfl, ?_⟩
    have ne : ns.filter (fun n => decide (hi ≤ n)) ≠ [] := fun z => by rw [z] at e; cases e
    simp [h, oV, ne]
  · have e : (ns.filter fun n => decide (hi ≤ n)) = ns.filter fun n => decide (hi < n) := List.filter_congr fun n hn => by
      have : n ≠ hi := fun z => h (z ▸ hn)
      exact decide_eq_decide.mpr ⟨fun _ => by omega, fun _ => by omega⟩
    rw [if_neg h, e]
    refine ⟨rfl, ?_⟩
    rw [decide_eq_false h]
    cases q : (ns.filter fun n => decide (hi < n)).head? with
    | none => rfl
    | some z =>
      have hz := (List.mem_filter.mp (List.mem_of_head? q)).2
      have hz := of_decide_eq_true hz
      have : ¬ oV (some z) = V.int hi := fun e => by
        have e : V.int z = V.int hi := e
        injection e with e
        omega
      rw [decide_eq_false this]
      rfl
/-- how many of ascending numbers are less: a halving search -/
def lessN (ns : List Int) (x : Int) : Nat := (ns.filter fun n => decide (n < x)).length
theorem lessN_at {x : Int} : ∀ {ns : List Int} {k : Nat}, ns.Pairwise (· < ·) → k ≤ ns.length → (∀ i n, i < k → ns[i]? = some n → n < x) → (∀ i n, k ≤ i → ns[i]? = some n → x ≤ n) → lessN ns x = k
  | ns, 0, _, _, _, b => by
    unfold lessN
    rw [filter_no fun n hn => decide_eq_false fun c => ?_]
    · rfl
    · obtain ⟨i, hi⟩ := List.getElem?_of_mem hn
      have := b i n (Nat.zero_le _) hi
      omega
  | [], k + 1, _, h, _, _ => by simp at h
  | n :: ns, k + 1, p, h, a, b => by
    have hn : n < x := a 0 n (by omega) rfl
    have ih := lessN_at (ns := ns) (k := k) (x := x) (List.pairwise_cons.mp p).2 (by simpa using h) (fun i m hi hm => a (i + 1) m (by omega) (by simpa using hm)) fun i m hi hm => b (i + 1) m (by omega) (by simpa using hm)
    unfold lessN at ih ⊢
    rw [List.filter_cons_of_pos (p := fun n => decide (n < x)) (decide_eq_true hn), List.length_cons, ih]
theorem less_get {x : Int} {ns : List Int} {i : Nat} {n : Int} : ns.Pairwise (· < ·) → ns[i]? = some n → (i < lessN ns x ↔ n < x) := by
  induction ns generalizing i with
  | nil => intro _ h; simp at h
  | cons m r ih =>
    intro p h
    obtain ⟨p1, p2⟩ := List.pairwise_cons.mp p
    unfold lessN at ih ⊢
    by_cases c : m < x
    · rw [List.filter_cons_of_pos (p := fun n => decide (n < x)) (decide_eq_true c), List.length_cons]
      cases i with
      | zero =>
        have : m = n := by simpa using h
        omega
      | succ i =>
        have := ih p2 (i := i) (by simpa using h)
        omega
    · rw [List.filter_cons_of_neg (p := fun n => decide (n < x)) (by rw [decide_eq_false c]; exact Bool.false_ne_true)]
      have e : r.filter (fun n => decide (n < x)) = [] := filter_no fun y hy => decide_eq_false fun z => by
        have := p1 y hy
        omega
      rw [e]
      refine ⟨fun z => by simp at z, fun z => ?_⟩
      exfalso
      cases i with
      | zero =>
        have : m = n := by simpa using h
        omega
      | succ i =>
        have hn : n ∈ r := List.mem_of_getElem? (i := i) (by simpa using h)
        have := p1 n hn
        omega
theorem lessN_le (ns : List Int) (x : Int) : lessN ns x ≤ ns.length := List.length_filter_le _ _
/-- the number stands where it would -/
theorem less_here {x : Int} {ns : List Int} (p : ns.Pairwise (· < ·)) : (match ns[lessN ns x]? with | none => false | some n => decide (n = x)) = decide (x ∈ ns) := by
  by_cases h : x ∈ ns
  · obtain ⟨i, hi⟩ := List.getElem?_of_mem h
    have lt : i < ns.length := (List.getElem?_eq_some_iff.mp hi).1
    have e : lessN ns x = i := by
      refine lessN_at p (by omega) (fun j n hj hn => ?_) fun j n hj hn => ?_
      · have lj := (List.getElem?_eq_some_iff.mp hn)
        have li := (List.getElem?_eq_some_iff.mp hi)
        have := List.pairwise_iff_getElem.mp p j i lj.1 li.1 hj
        rw [lj.2, li.2] at this
        exact this
      · have lj := (List.getElem?_eq_some_iff.mp hn)
        have li := (List.getElem?_eq_some_iff.mp hi)
        rcases Nat.lt_or_eq_of_le hj with l | l
        · have := List.pairwise_iff_getElem.mp p i j li.1 lj.1 l
          rw [lj.2, li.2] at this
          omega
        · subst l
          have : x = n := by rw [← li.2, ← lj.2]
          omega
    rw [e, hi]
    simp [h]
  · rw [decide_eq_false h]
    cases q : ns[lessN ns x]? with
    | none => rfl
    | some n =>
      exact decide_eq_false fun z => h (z ▸ List.mem_of_getElem? q)
end Gx

/-! Objects of one of several classes: methods, properties, in, defs with a promise for each class -/
namespace Gx
open PySem L2 PySem.Spec PyProof.Rows
open C8 (Cal Met Mak)
/-- a promise for each class of S -/
def spAny (S : Addr → Prop) (sp : Addr → Sp) : Sp := fun vs H Q E => ∃ C, S C ∧ sp C vs H Q E
theorem fn_any {P : Program} {w : World} {K : PySem.W.Frag} {mg : Str → Option Value} {base : Heap} {CX : CXT} {k : Nat} {f : Addr} {fd : FuncData} {ps : List Str} {S : Addr → Prop} {sp : Addr → Sp} (F : ∀ C, S C → FnOk P w K mg base CX k f fd ps (sp C)) : FnOk P w K mg base CX k f fd ps (spAny S sp) := by
  refine ⟨fun vs H Q E h => ?_, fun A outer s H args us vs Q E hr he hb hv h => ?_⟩
  · obtain ⟨C, hC, h⟩ := h
    exact (F C hC).len _ _ _ _ h
  · obtain ⟨C, hC, h⟩ := h
    exact (F C hC).run A outer s H args us vs Q E hr he hb hv h
/-- one of two classes -/
def two (CL CK : Addr) : Addr → Prop := fun C => C = CL ∨ C = CK
theorem two_all {CL CK : Addr} {P : Addr → Prop} (h1 : P CL) (h2 : P CK) : ∀ C, two CL CK C → P C := fun C h => h.elim (fun e => by rw [e]; exact h1) fun e => by rw [e]; exact h2
structure MetS (P : Program) (w : World) (K : PySem.W.Frag) (mg : Str → Option Value) (base : Heap) (k : Nat) (S : Addr → Prop) (m : Str) (sp : Sp) : Prop where
  ex : ∀ C, S C → Met P w K mg base k C m sp []
def tMethS (S : Addr → Prop) (m : Str) (sp : Sp) (ta : TE) (t : TA) : TE := fun σ H Q => ta σ H fun x H1 => ∃ a C dx fs, x = .ref a ∧ H1 a = some (.ins C dx fs) ∧ S C ∧ fs.lookup m = none ∧ t σ H1 fun vs H2 => sp (.ref a :: vs) H2 Q (fun _ _ _ => False)
section
variable {X : Cx} {k j : Nat} {S : Addr → Prop} {m f : Str} {sp : Sp} {pos apos : Pos} {e o : Expr} {es : List Expr} {ta : TE} {t : TA}
theorem pe_mtS {pl : Sem Bool} (c : MetS X.prog X.w X.K X.mg X.base k S m sp) (hr : Room j X.A) (hk : k ≤ j) (he : PE X o ta) (ha : PA X (e :: es) t)
    (hst : starEach (e :: es) X.env = (false, eval e X.env) :: starEach es X.env := by rfl) (hpl : (backTo pos (starEach es X.env)).any (·.1) = false := by rfl)
    (ht : eval (.Call (.Attribute o m apos) (e :: es) [] pos) X.env = (do
      let ov ← eval o X.env
      standAt apos.atName
      let (f, first) ← holding [ov] (getMethod ov m pl)
      callWith pos f first (backTo pos (starEach (e :: es) X.env)) (backToKw pos (keywordEach [] X.env))) := by rfl) :
    PE X (.Call (.Attribute o m apos) (e :: es) [] pos) (tMethS S m sp ta t) := by
  refine ⟨fun pins s σ H Q I h => ?_⟩
  refine PySem.W.methodCall_KW (pl := pl) (thn (he.run pins s σ H _ I h) fun u s1 ⟨x, H1, I1, rx, a, C, dx, fs, ex, ea, hC, l, q⟩ => ?_) ht
  subst ex
  obtain rfl : u = Value.ref a := rx
  obtain ⟨f, fd, ps, ds, hc, hm, F, b, d⟩ := (c.ex C hC).ex
  cases d
  refine getmeth_ok I1 ea hc hm l ?_
  refine PySem.W.callWith_K (first := [.ref a]) (h₀ := X.base) I.ok.mod.kin hm.kp (thn (ha.run pos pins s1 σ H1 _ I1 q) fun us s2 ⟨vs, H2, I2, r, q2⟩ => ⟨I2.kIn, ?_⟩) hst hpl
  exact run_fn (us := .ref a :: us) (vs := .ref a :: vs) (dvs := []) F (hr.mono hk) b .nil pass0 I2 (.cons rfl r) (by rw [List.append_nil]; exact q2)
theorem pe_mt0S {pl : Sem Bool} (c : MetS X.prog X.w X.K X.mg X.base k S m sp) (hr : Room j X.A) (hk : k ≤ j) (he : PE X o ta)
    (ht : eval (.Call (.Attribute o m apos) [] [] pos) X.env = (do
      let ov ← eval o X.env
      standAt apos.atName
      let (f, first) ← holding [ov] (getMethod ov m pl)
      callWith pos f first (backTo pos (starEach [] X.env)) (backToKw pos (keywordEach [] X.env))) := by rfl) :
    PE X (.Call (.Attribute o m apos) [] [] pos) (tMethS S m sp ta tNil) := by
  refine ⟨fun pins s σ H Q I h => ?_⟩
  refine PySem.W.methodCall_KW (pl := pl) (thn (he.run pins s σ H _ I h) fun u s1 ⟨x, H1, I1, rx, a, C, dx, fs, ex, ea, hC, l, q⟩ => ?_) ht
  subst ex
  obtain rfl : u = Value.ref a := rx
  obtain ⟨f, fd, ps, ds, hc, hm, F, b, d⟩ := (c.ex C hC).ex
  cases d
  refine getmeth_ok I1 ea hc hm l ?_
  exact PySem.W.callWith_K0 (first := [.ref a]) I1.kIn hm.kp (run_fn (us := [.ref a]) (vs := [.ref a]) (dvs := []) F (hr.mono hk) b .nil pass0 I1 (.cons rfl .nil) q)
/-- properties -/
structure PropS (P : Program) (w : World) (K : PySem.W.Frag) (mg : Str → Option Value) (base : Heap) (k : Nat) (S : Addr → Prop) (f : Str) (sp : Sp) : Prop where
  ex : ∀ C, S C → PropR P w K mg base k C f sp
def tPropS (S : Addr → Prop) (sp : Sp) (ta : TE) : TE := fun σ H Q => ta σ H fun x H1 => ∃ a C dx fs, x = .ref a ∧ H1 a = some (.ins C dx fs) ∧ S C ∧ sp [.ref a] H1 Q (fun _ _ _ => False)
theorem pe_prS (c : PropS X.prog X.w X.K X.mg X.base k S f sp) (hr : Room j X.A) (hk : k + 1 ≤ j) (he : PE X e ta) (hab : attributeBase e f X.env (eval e X.env) = eval e X.env := by rfl) : PE X (.Attribute e f pos) (tPropS S sp ta) := by
  refine ⟨fun pins s σ H Q I h => ?_⟩
  refine attr_of hab (thn (he.run pins s σ H _ I h) fun u s1 ⟨x, H1, I1, rx, a, C, dx, fs, ex, ea, hC, q⟩ => ?_)
  subst ex
  obtain rfl : u = Value.ref a := rx
  obtain ⟨p, g, fd, ps, cl, pr, F, b⟩ := (c.ex C hC).ex
  exact getprop_ok I1 ea cl pr F (hr.mono hk) b .nil pass0 q
/-- y in o -/
def rOwnS (S : Addr → Prop) (sp : Sp) (neg : Bool) : R2 := fun y x H Q => ∃ a C dx fs, x = .ref a ∧ H a = some (.ins C dx fs) ∧ S C ∧ sp [.ref a, y] H (fun r H' => ∃ b, r = .bl b ∧ Q (.bl (if neg = true then !b else b)) H') (fun _ _ _ => False)
theorem op_ownInS (c : MetS X.prog X.w X.K X.mg X.base k S "__contains__" sp) (hr : Room j X.A) (hk : k ≤ j) : OpR X (compareOp .In) (rOwnS S sp false) := fun pins s σ H y x v u Q I ry rx h => by
  obtain ⟨a, C, dx, fs, e, ha, hC, q⟩ := h
  exact op_ownIn (c.ex C hC) hr hk pins s σ H y x v u Q I ry rx ⟨a, dx, fs, e, ha, q⟩
theorem op_ownNotInS (c : MetS X.prog X.w X.K X.mg X.base k S "__contains__" sp) (hr : Room j X.A) (hk : k ≤ j) : OpR X (compareOp .NotIn) (rOwnS S sp true) := fun pins s σ H y x v u Q I ry rx h => by
  obtain ⟨a, C, dx, fs, e, ha, hC, q⟩ := h
  exact op_ownNotIn (c.ex C hC) hr hk pins s σ H y x v u Q I ry rx ⟨a, dx, fs, e, ha, q⟩
end
section
variable {σ : L2.St} {H : Hp} {Q : VK} {S : Addr → Prop} {m : Str} {sp : Sp} {ta : TE} {t : TA} {a C dx : Addr} {fs : List (Str × V)}
def MethSQ (S : Addr → Prop) (m : Str) (sp : Sp) (t : TA) (σ : L2.St) (x : V) (H : Hp) (Q : VK) : Prop := ∃ a C dx fs, x = .ref a ∧ H a = some (.ins C dx fs) ∧ S C ∧ fs.lookup m = none ∧ t σ H fun vs H2 => sp (.ref a :: vs) H2 Q (fun _ _ _ => False)
theorem g_tmethS (q : ta σ H fun x H1 => MethSQ S m sp t σ x H1 Q) : tMethS S m sp ta t σ H Q := q
theorem g_methS (h : H a = some (.ins C dx fs)) (hC : S C) (l : fs.lookup m = none) (q : t σ H fun vs H2 => sp (.ref a :: vs) H2 Q (fun _ _ _ => False)) : MethSQ S m sp t σ (.ref a) H Q := ⟨a, C, dx, fs, rfl, h, hC, l, q⟩
def PropSQ (S : Addr → Prop) (sp : Sp) (x : V) (H : Hp) (Q : VK) : Prop := ∃ a C dx fs, x = .ref a ∧ H a = some (.ins C dx fs) ∧ S C ∧ sp [.ref a] H Q (fun _ _ _ => False)
theorem g_tpropS (q : ta σ H fun x H1 => PropSQ S sp x H1 Q) : tPropS S sp ta σ H Q := q
theorem g_propS (h : H a = some (.ins C dx fs)) (hC : S C) (q : sp [.ref a] H Q (fun _ _ _ => False)) : PropSQ S sp (.ref a) H Q := ⟨a, C, dx, fs, rfl, h, hC, q⟩
theorem g_ownS {y : V} (h : H a = some (.ins C dx fs)) (hC : S C) (q : sp [.ref a, y] H (fun r H' => ∃ b, r = .bl b ∧ Q (.bl (if false = true then !b else b)) H') (fun _ _ _ => False)) : rOwnS S sp false y (.ref a) H Q := ⟨a, C, dx, fs, rfl, h, hC, q⟩
end
end Gx

/-! Points of two kinds: whole numbers and pairs of them; lists of such points; < of both kinds, membership in lists of data -/
namespace Gx
open PySem L2 PySem.Spec PyProof.Rows
/-- x < y, of two ints or of two tuples of ints -/
def rLt2 (K : PySem.W.Frag) : R2 := fun x y H Q => rI0 (fun i j => .bl (decide (i < j))) x y H Q ∨ rLtT K x y H Q
theorem op_lt2 {X : Cx} (hu : X.A.units < cLine) : OpR X (compareOp .Lt) (rLt2 X.K) := fun pins s σ H x y v u Q I rx ry h => by
  rcases h with h | h
  · exact op_lt pins s σ H x y v u Q I rx ry h
  · exact op_ltT hu pins s σ H x y v u Q I rx ry h
/-- membership in a list of data -/
def rInDL (K : PySem.W.Frag) (neg : Bool) : R2 := fun x y H Q => ∃ d ds, Dp K H x d ∧ Dp K H y (.list ds) ∧ SeqAt.shaped d = true ∧ SeqAt.shaped (.list ds) = true ∧ d.depth ≤ 60 ∧ Q (.bl (if neg = true then !(ds.any fun z => PyData.eqv z d) else ds.any fun z => PyData.eqv z d)) H
theorem op_inDL {X : Cx} (hu : X.A.units + 64 < cLine) : OpR X (compareOp .In) (rInDL X.K false) := by
  intro pins s σ H x y v u Q I rx ry h
  obtain ⟨d, ds, hd, he, sd, se, dd, q⟩ := h
  obtain ⟨as, r1⟩ := Dp.reads I d x v hd rx
  obtain ⟨bs, r2⟩ := Dp.reads I (.list ds) y u he ry
  exact SeqAt.in_list_reads r2 r1 (SeqAt.canLay_of_shaped se) (SeqAt.canLay_of_shaped sd) (by omega) ⟨.bl _, H, I, rfl, q⟩
theorem op_notInDL {X : Cx} (hu : X.A.units + 64 < cLine) : OpR X (compareOp .NotIn) (rInDL X.K true) := by
  intro pins s σ H x y v u Q I rx ry h
  obtain ⟨d, ds, hd, he, sd, se, dd, q⟩ := h
  obtain ⟨as, r1⟩ := Dp.reads I d x v hd rx
  obtain ⟨bs, r2⟩ := Dp.reads I (.list ds) y u he ry
  exact SeqAt.notIn_list_reads r2 r1 (SeqAt.canLay_of_shaped se) (SeqAt.canLay_of_shaped sd) (by omega) ⟨.bl _, H, I, rfl, q⟩
/-- a kind of points -/
class Kd (α : Type) where
  dec : DecidableEq α
  D : α → PyData
  lt : α → α → Bool
  inj : ∀ a b, D a = D b → a = b
  bar : ∀ a, bare (D a) = true
  lay : ∀ a, (D a).canLay0 = true
  dep : ∀ a, (D a).depth ≤ 1
  nol : ∀ a, noLst (D a) = true
  nn : ∀ a, D a ≠ PyData.none
  irr : ∀ a, lt a a = false
  tran : ∀ a b c, lt a b = true → lt b c = true → lt a c = true
  tri : ∀ a b, a ≠ b → lt a b = true ∨ lt b a = true
  less : ∀ {K : PySem.W.Frag} {H : Hp} {x y : V} {a b : α} {Q : VK}, Dp K H x (D a) → Dp K H y (D b) → Q (.bl (lt a b)) H → rLt2 K x y H Q
instance {α : Type} [k : Kd α] : DecidableEq α := k.dec
abbrev Pr := Int × Int
def prD (p : Pr) : PyData := .tuple [.int p.1, .int p.2]
def prLt (p q : Pr) : Bool := decide (p.1 < q.1 ∨ (p.1 = q.1 ∧ p.2 < q.2))
theorem pr_at {K : PySem.W.Frag} {H : Hp} {x : V} {p : Pr} (h : Dp K H x (prD p)) : ∃ r, x = .ref r ∧ SqT K H r [.int p.1, .int p.2] := by
  unfold prD at h
  cases h with
  | tup e hd =>
    cases hd with
    | cons h1 hd =>
      cases h1
      cases hd with
      | cons h2 hd =>
        cases h2
        cases hd
        exact ⟨_, rfl, e⟩
theorem pr_of {K : PySem.W.Frag} {H : Hp} {r : Addr} {p : Pr} (h : SqT K H r [.int p.1, .int p.2]) : Dp K H (.ref r) (prD p) := .tup h (.cons (.int _) (.cons (.int _) .nil))
theorem lex_pr (p q : Pr) : HT.lexLt [p.1, p.2] [q.1, q.2] = prLt p q := by
  unfold prLt
  rw [HT.lexLt_cons]
  by_cases h : p.1 = q.1
  · rw [if_pos h, HT.lexLt_cons]
    by_cases h2 : p.2 = q.2
    · rw [if_pos h2, HT.lexLt_nil_nil, decide_eq_false (by omega)]
    · rw [if_neg h2]
      exact decide_eq_decide.mpr ⟨fun z => .inr ⟨h, z⟩, fun z => by omega⟩
  · rw [if_neg h]
    exact decide_eq_decide.mpr ⟨fun z => .inl z, fun z => by omega⟩
instance : Kd Int where
  dec := inferInstance
  D := PyData.int
  lt a b := decide (a < b)
  inj a b h := by injection h
  bar a := by simp [bare]
  lay a := by simp [PyData.canLay0]
  dep a := by simp [PyData.depth]
  nol a := by simp [noLst]
  nn a := nofun
  irr a := by simp
  tran a b c h1 h2 := by simp at *; omega
  tri a b h := by simp; omega
  less h1 h2 q := by
    cases h1
    cases h2
    exact .inl (g_I0 q)
instance : Kd Pr where
  dec := inferInstance
  D := prD
  lt := prLt
  inj a b h := by
    unfold prD at h
    injection h with h
    simp only [List.cons.injEq, PyData.int.injEq] at h
    exact Prod.ext h.1 h.2.1
  bar a := by simp [prD, bare, bareAll]
  lay a := by simp [prD, PyData.canLay0, PyData.canLayAll0]
  dep a := by simp [prD, PyData.depth, PyData.depthAll]
  nol a := by simp [prD, noLst, noLstAll]
  nn a := nofun
  irr a := by simp [prLt]
  tran a b c h1 h2 := by simp [prLt] at *; omega
  tri a b h := by
    have : a.1 ≠ b.1 ∨ a.2 ≠ b.2 := by
      by_cases e : a.1 = b.1
      · exact .inr fun e2 => h (Prod.ext e e2)
      · exact .inl e
    simp [prLt]
    omega
  less h1 h2 q := by
    obtain ⟨r1, rfl, e1⟩ := pr_at h1
    obtain ⟨r2, rfl, e2⟩ := pr_at h2
    refine .inr ⟨r1, r2, [_, _], [_, _], rfl, rfl, e1, e2, ?_⟩
    rw [lex_pr]
    exact q
section
variable {α : Type} [Kd α] {K : PySem.W.Frag} {H H' : Hp} {Q : VK}
open Kd
theorem kd_eqv (a b : α) : PyData.eqv (D a) (D b) = decide (a = b) := by
  by_cases h : a = b
  · rw [decide_eq_true h, eqv_yes (bar a) (bar b) (by rw [h])]
  · rw [decide_eq_false h, eqv_no (bar a) (bar b) fun z => h (inj a b z)]
theorem kd_shape (a : α) : SeqAt.shaped (D a) = true := by
  have h := dep a
  have h2 : (D a).depth ≤ 64 := by omega
  unfold SeqAt.shaped
  rw [lay a, decide_eq_true h2] <;> rfl
theorem kd_lays (as : List α) : PyData.canLayAll0 (as.map D) = true := by
  induction as with
  | nil => simp [PyData.canLayAll0]
  | cons a as ih => simp [PyData.canLayAll0, lay a, ih]
theorem kd_shapes (as : List α) : SeqAt.shaped (.list (as.map D)) = true := by
  unfold SeqAt.shaped
  have h2 : PyData.depthAll (as.map D) ≤ 1 := depthAll_le fun x hx => by
    obtain ⟨n, _, rfl⟩ := List.mem_map.mp hx
    exact dep n
  have h3 : PyData.depthAll (as.map D) + 1 ≤ 64 := by omega
  simp [PyData.canLay0, PyData.depth, kd_lays as, h3]
theorem kd_bares (as : List α) : bare (.list (as.map D)) = true := by
  simp only [bare]
  exact bareAll_iff.mpr fun x hx => by
    obtain ⟨n, _, rfl⟩ := List.mem_map.mp hx
    exact bar n
theorem kd_injs : ∀ {as bs : List α}, as.map D = bs.map D → as = bs
  | [], [], _ => rfl
  | [], _ :: _, h => by simp at h
  | _ :: _, [], h => by simp at h
  | a :: as, b :: bs, h => by
    rw [List.map_cons, List.map_cons] at h
    injection h with h1 h2
    rw [inj a b h1, kd_injs h2]
theorem kd_eqvs (as bs : List α) : PyData.eqv (.list (as.map D)) (.list (bs.map D)) = decide (as = bs) := by
  by_cases h : as = bs
  · rw [decide_eq_true h, eqv_yes (kd_bares _) (kd_bares _) (by rw [h])]
  · rw [decide_eq_false h, eqv_no (kd_bares _) (kd_bares _) fun z => h (kd_injs (by injection z))]
theorem kd_nols (as : List α) : noLstAll (as.map D) = true := noLstAll_iff.mpr fun d hd => by
  obtain ⟨n, _, rfl⟩ := List.mem_map.mp hd
  exact nol n
theorem kd_any (as : List α) (a : α) : ((as.map D).any fun z => PyData.eqv z (D a)) = decide (a ∈ as) := by
  rw [List.any_map]
  induction as with
  | nil => simp
  | cons b as ih =>
    rw [List.any_cons, ih]
    show (PyData.eqv (D b) (D a) || _) = _
    rw [kd_eqv]
    by_cases h : b = a
    · subst h
      simp
    · have h2 : ¬ a = b := fun z => h z.symm
      simp [h, h2]
/-- a list of points in the heap -/
def PtsL (K : PySem.W.Frag) (H : Hp) (p : Addr) (as : List α) : Prop := ∃ xs, H p = some (.lst xs) ∧ DpAll K H xs (as.map D)
theorem PtsL.same {p : Addr} {as : List α} (h : PtsL K H p as) (s : Same H H') : PtsL K H' p as := by
  obtain ⟨xs, e, d⟩ := h
  exact ⟨xs, s _ _ e, dp_sameAll s _ _ d⟩
theorem PtsL.dp {p : Addr} {as : List α} (h : PtsL K H p as) : Dp K H (.ref p) (.list (as.map D)) := by
  obtain ⟨xs, e, d⟩ := h
  exact .lst (SqL.of e) d
theorem ptsI {p : Addr} {ns : List Int} (h : H p = some (.lst (ns.map V.int))) : PtsL K H p ns := ⟨_, h, dpAll_ints ns⟩
theorem ptsI_of {p : Addr} {ns : List Int} (h : PtsL K H p ns) : H p = some (.lst (ns.map V.int)) := by
  obtain ⟨xs, e, d⟩ := h
  have : xs = ns.map V.int := by
    clear e
    induction ns generalizing xs with
    | nil => cases d; rfl
    | cons n ns ih =>
      cases d with
      | cons h1 d =>
        cases h1
        rw [ih _ d]
        rfl
  rw [this] at e
  exact e
theorem g_eqP {p q : Addr} {as bs : List α} (h1 : PtsL K H p as) (h2 : PtsL K H q bs) (k : Q (.bl (decide (as = bs))) H) : rEqD K (.ref p) (.ref q) H Q := by
  refine g_eqD h1.dp h2.dp (kd_shapes _) (kd_shapes _) ?_
  rw [kd_eqvs]
  exact k
theorem g_neP {p q : Addr} {as bs : List α} (h1 : PtsL K H p as) (h2 : PtsL K H q bs) (k : Q (.bl (!decide (as = bs))) H) : rNeD K (.ref p) (.ref q) H Q := by
  refine g_neD h1.dp h2.dp (kd_shapes _) (kd_shapes _) ?_
  rw [kd_eqvs]
  exact k
theorem g_eq1 {x y : V} {a b : α} (h1 : Dp K H x (D a)) (h2 : Dp K H y (D b)) (k : Q (.bl (decide (a = b))) H) : rEqD K x y H Q := by
  refine g_eqD h1 h2 (kd_shape _) (kd_shape _) ?_
  rw [kd_eqv]
  exact k
theorem g_ne1 {x y : V} {a b : α} (h1 : Dp K H x (D a)) (h2 : Dp K H y (D b)) (k : Q (.bl (!decide (a = b))) H) : rNeD K x y H Q := by
  refine g_neD h1 h2 (kd_shape _) (kd_shape _) ?_
  rw [kd_eqv]
  exact k
theorem g_inP {x : V} {p : Addr} {a : α} {as : List α} (h1 : Dp K H x (D a)) (h2 : PtsL K H p as) (k : Q (.bl (decide (a ∈ as))) H) : rInDL K false x (.ref p) H Q := by
  refine ⟨_, _, h1, h2.dp, kd_shape a, kd_shapes as, Nat.le_trans (dep a) (by decide), ?_⟩
  rw [if_neg (by decide), kd_any]
  exact k
theorem g_notInP {x : V} {p : Addr} {a : α} {as : List α} (h1 : Dp K H x (D a)) (h2 : PtsL K H p as) (k : Q (.bl (!decide (a ∈ as))) H) : rInDL K true x (.ref p) H Q := by
  refine ⟨_, _, h1, h2.dp, kd_shape a, kd_shapes as, Nat.le_trans (dep a) (by decide), ?_⟩
  rw [if_pos rfl, kd_any]
  exact k
theorem pts_at {as : List α} : ∀ {xs : List V} {i : Nat} {x : V}, DpAll K H xs (as.map D) → xs[i]? = some x → ∃ a, as[i]? = some a ∧ Dp K H x (D a) := by
  intro xs i x d h
  obtain ⟨d', h1, h2⟩ := dpAll_get d h
  rw [List.getElem?_map] at h1
  cases e : as[i]? with
  | none => rw [e] at h1; cases h1
  | some a =>
    rw [e] at h1
    have : D a = d' := Option.some.inj h1
    rw [← this] at h2
    exact ⟨a, rfl, h2⟩
theorem pts_len {as : List α} {xs : List V} (d : DpAll K H xs (as.map D)) : xs.length = as.length := by
  rw [dpAll_len d, List.length_map]
/-- ascending -/
def Up (as : List α) : Prop := as.Pairwise fun a b => lt a b = true
/-- how many are less -/
def lessK (as : List α) (x : α) : Nat := (as.filter fun a => lt a x).length
theorem lessK_le (as : List α) (x : α) : lessK as x ≤ as.length := List.length_filter_le _ _
theorem filtK_no {as : List α} {c : α → Bool} (h : ∀ n ∈ as, c n = false) : as.filter c = [] := List.filter_eq_nil_iff.mpr fun n hn => by rw [h n hn]; exact Bool.false_ne_true
theorem lessK_get {x : α} {as : List α} {i : Nat} {n : α} : Up as → as[i]? = some n → (i < lessK as x ↔ lt n x = true) := by
  unfold Up lessK
  induction as generalizing i with
  | nil => intro _ h; simp at h
  | cons m r ih =>
    intro p h
    obtain ⟨p1, p2⟩ := List.pairwise_cons.mp p
    by_cases c : lt m x = true
    · rw [List.filter_cons_of_pos (p := fun a => lt a x) c, List.length_cons]
      cases i with
      | zero =>
        have e : m = n := by simpa using h
        subst e
        exact ⟨fun _ => c, fun _ => by omega⟩
      | succ i =>
        have := ih p2 (i := i) (by simpa using h)
        exact ⟨fun z => this.mp (by omega), fun z => by have := this.mpr z; omega⟩
    · rw [List.filter_cons_of_neg (p := fun a => lt a x) c]
      have e : r.filter (fun a => lt a x) = [] := filtK_no fun y hy => by
        cases q : lt y x with
        | false => rfl
        | true => exact absurd (tran _ _ _ (p1 y hy) q) c
      rw [e]
      refine ⟨fun z => by simp at z, fun z => ?_⟩
      exfalso
      cases i with
      | zero =>
        have e : m = n := by simpa using h
        subst e
        exact c z
      | succ i =>
        have hn : n ∈ r := List.mem_of_getElem? (i := i) (by simpa using h)
        exact c (tran _ _ _ (p1 n hn) z)
/-- the first ones are those that are less -/
theorem take_less {x : α} {as : List α} (p : Up as) : as.take (lessK as x) = as.filter fun a => lt a x := by
  induction as with
  | nil => rfl
  | cons m r ih =>
    obtain ⟨p1, p2⟩ := List.pairwise_cons.mp p
    unfold lessK at ih ⊢
    by_cases c : lt m x = true
    · rw [List.filter_cons_of_pos (p := fun a => lt a x) c, List.length_cons, List.take_succ_cons, ih p2]
    · rw [List.filter_cons_of_neg (p := fun a => lt a x) c]
      have e : r.filter (fun a => lt a x) = [] := filtK_no fun y hy => by
        cases q : lt y x with
        | false => rfl
        | true => exact absurd (tran _ _ _ (p1 y hy) q) c
      rw [e]
      rfl
theorem drop_less {x : α} {as : List α} (p : Up as) : as.drop (lessK as x) = as.filter fun a => !lt a x := by
  induction as with
  | nil => rfl
  | cons m r ih =>
    obtain ⟨p1, p2⟩ := List.pairwise_cons.mp p
    unfold lessK at ih ⊢
    by_cases c : lt m x = true
    · rw [List.filter_cons_of_pos (p := fun a => lt a x) c, List.length_cons, List.drop_succ_cons, ih p2, List.filter_cons_of_neg (p := fun a => !lt a x) (by rw [c]; exact Bool.false_ne_true)]
    · rw [List.filter_cons_of_neg (p := fun a => lt a x) c, List.filter_cons_of_pos (p := fun a => !lt a x) (by rw [Bool.not_eq_true] at c; rw [c]; rfl)]
      have g : ∀ y ∈ r, lt y x = false := fun y hy => by
        cases q : lt y x with
        | false => rfl
        | true => exact absurd (tran _ _ _ (p1 y hy) q) c
      rw [filtK_no g]
      show m :: r = m :: r.filter _
      rw [List.filter_eq_self.mpr fun y hy => by rw [g y hy]; rfl]
/-- the point stands where it would -/
theorem hereK {x : α} {as : List α} (p : Up as) : (match as[lessK as x]? with | none => false | some n => decide (n = x)) = decide (x ∈ as) := by
  by_cases h : x ∈ as
  · obtain ⟨i, hi⟩ := List.getElem?_of_mem h
    have lt0 : i < as.length := (List.getElem?_eq_some_iff.mp hi).1
    have e1 : ¬ i < lessK as x := fun z => by
      have := (lessK_get p hi).mp z
      rw [irr] at this
      cases this
    have e2 : ∀ j, j < i → j < lessK as x := fun j hj => by
      have lj : j < as.length := by omega
      refine (lessK_get p (List.getElem?_eq_getElem lj)).mpr ?_
      have := List.pairwise_iff_getElem.mp p j i lj lt0 hj
      rw [(List.getElem?_eq_some_iff.mp hi).2] at this
      exact this
    have e : lessK as x = i := by
      rcases Nat.lt_or_ge (lessK as x) i with l | l
      · exact absurd (e2 _ l) (Nat.lt_irrefl _)
      · omega
    rw [e, hi]
    simp [h]
  · rw [decide_eq_false h]
    cases q : as[lessK as x]? with
    | none => rfl
    | some n => exact decide_eq_false fun z => h (z ▸ List.mem_of_getElem? q)
end
end Gx

/-! The texts of whole numbers -/
namespace Gx
open PySem TL SX
abbrev numS (n : Int) : Str := Str.ofString (toString n)
/-- the signs of a whole number -/
def numI (n : Int) : List Nat := if n < 0 then 45 :: numL n.natAbs else numL n.natAbs
theorem tl_neg (m : Nat) : tl (numS (Int.negSucc m)) = 45 :: numL (m + 1) := by
  have e : toString (Int.negSucc m) = "-" ++ Nat.repr (m + 1) := rfl
  rw [tl_ofString, e, String.toList_append, List.map_append, Nat.toList_repr]
  rfl
theorem tl_numS (n : Int) : tl (numS n) = numI n := by
  unfold numI
  cases n with
  | ofNat m =>
    rw [if_neg (show ¬ Int.ofNat m < 0 from Int.not_lt.mpr (Int.natCast_nonneg m))]
    exact tl_num m
  | negSucc m =>
    rw [if_pos (Int.negSucc_lt_zero m)]
    exact tl_neg m
theorem numS_S (n : Int) : numS n = S (numI n) := ext_tl (tl_numS n)
theorem numI_free {c : Nat} (h1 : c ≠ 45) (h2 : c < 48 ∨ 57 < c) (n : Int) : c ∉ numI n := by
  unfold numI
  split
  · intro h
    rcases List.mem_cons.mp h with e | h
    · exact h1 e
    · exact numL_free h2 h
  · exact numL_free h2
theorem numL_le {n : Nat} (h : n < 10 ^ 60) : (numL n).length ≤ 60 := numL_len (by decide) h
theorem numI_le {n : Int} (h : n.natAbs < 10 ^ 60) : (numI n).length ≤ 61 := by
  have := numL_le h
  unfold numI
  split
  · rw [List.length_cons]
    omega
  · omega
theorem numS_len {n : Int} (h : n.natAbs < 10 ^ 60) : (numS n).length ≤ 61 := by
  rw [len_tl, tl_numS]
  exact numI_le h
theorem numL_zero : ∀ {n : Nat}, (numL n).head? = some 48 → n = 0 := by
  intro n
  induction n using Nat.strongRecOn with
  | _ n ih =>
    intro h
    by_cases c : n < 10
    · rw [numL_lt c] at h
      have := Option.some.inj h
      omega
    · rw [numL_step (by omega), List.head?_append] at h
      cases q : (numL (n / 10)).head? with
      | none => exact absurd (List.head?_eq_none_iff.mp q) (numL_ne _)
      | some x =>
        rw [q] at h
        have e : x = 48 := Option.some.inj h
        subst e
        have := ih (n / 10) (by omega) q
        omega
theorem int_numS {n : Int} (h : n.natAbs < 10 ^ 60) : intText? (numS n) = some n := by
  have l := numS_len h
  cases n with
  | ofNat m => exact int_num (Nat.le_trans (numL_le h) (by decide))
  | negSucc m =>
    rw [intText_neg (tl_neg m) (numL_digits _) (numL_ne _) (by omega), numL_val]
    rfl
/-! ### joined texts -/
theorem mem_join {c : Nat} {sep : List Nat} : ∀ {ps : List (List Nat)}, c ∈ joinL sep ps → c ∈ sep ∨ ∃ p ∈ ps, c ∈ p
  | [], h => by cases h
  | [p], h => .inr ⟨p, List.mem_cons_self, h⟩
  | p :: q :: r, h => by
    have h : c ∈ p ++ (sep ++ joinL sep (q :: r)) := h
    rcases List.mem_append.mp h with h | h
    · exact .inr ⟨p, List.mem_cons_self, h⟩
    · rcases List.mem_append.mp h with h | h
      · exact .inl h
      · rcases mem_join h with h | ⟨z, hz, h⟩
        · exact .inl h
        · exact .inr ⟨z, List.mem_cons_of_mem _ hz, h⟩
theorem tl_Join (y : Str) (ps : List Str) : tl (Txt.join y ps) = joinL (tl y) (ps.map tl) := by
  rw [join_eq]
  exact tl_join y ps
theorem join_len (sep : List Nat) : ∀ ps : List (List Nat), (joinL sep ps).length ≤ (ps.map (·.length)).sum + ps.length * sep.length
  | [] => Nat.zero_le _
  | [p] => by
    show p.length ≤ (p.length + 0) + 1 * sep.length
    omega
  | p :: q :: r => by
    have ih := join_len sep (q :: r)
    have e : joinL sep (p :: q :: r) = p ++ (sep ++ joinL sep (q :: r)) := rfl
    rw [e, List.length_append, List.length_append, List.map_cons, List.sum_cons, List.length_cons (a := p), Nat.succ_mul]
    omega
end Gx

/-! Errors whose __init__ calls the __init__ of an own class above it -/
namespace Gx
open PySem L2 PySem.Spec PyProof.Rows
section
variable {X : Cx} {e : Expr} {es : List Expr} {ta : TA} {x : Str} {LE : Addr} {mc : Value} {p1 p2 pos : Pos}
theorem pe_above {pl : Sem Bool} (hg : Gl X x) (hm : X.mg x = some (.ref LE)) (ga : PySem.W.specialIn X.K (.ref LE) "__getattribute__" = some (some (.builtin "type.__getattribute__"))) (rd : PySem.W.readsIn X.K LE mc = true)
    (fc : PySem.W.findCls X.K (.ref LE) mc "__init__" = some (.val (.builtin "ValueError.__init__"))) (ha : PA X (e :: es) ta) (hdb : (x == ("__debug__" : Str)) = false := by decide)
    (hc : eval (.Call (.Attribute (.Name x p1) "__init__" p2) (e :: es) [] pos) X.env = (do
      let cls ← eval (.Name x p1) X.env
      standAt p2.atName
      let (fn, fs1) ← holding [cls] (getMethod cls "__init__" pl)
      callWith pos fn fs1 (backTo pos (starEach (e :: es) X.env)) (backToKw pos (keywordEach [] X.env))) := by rfl)
    (he : starEach (e :: es) X.env = (false, eval e X.env) :: starEach es X.env := by rfl) (hpl : (backTo pos (starEach es X.env)).any (·.1) = false := by rfl) : PE X (.Call (.Attribute (.Name x p1) "__init__" p2) (e :: es) [] pos) (tVeI X.K ta) := by
  refine ⟨fun pins s σ H Q I h => ?_⟩
  refine PySem.W.methodCall_KW (ld_glob I hg hm ?_ hdb) hc
  refine PySem.W.method_cls I.kIn ga (PySem.W.cls_value I.kIn rd fc (by decide +kernel) ?_)
  show wpAny _ _ (callWith pos (Value.builtin "ValueError.__init__") [] (backTo pos (starEach (e :: es) X.env)) []) _ _ _
  refine PyProof.Rows.callWith_method1 (thn (ha.run pos pins _ σ H _ (I.tok _) h) fun us s1 got => ?_) he hpl
  obtain ⟨vs, H1, I1, r1, a, C, ws, rfl, hl, T, ea, q⟩ := got
  cases r1 with
  | @cons _ u0 _ ur ra rw' =>
    obtain rfl : u0 = Value.ref a := ra
    have few : ur.length ≤ sizeLine := by
      rw [← Paired.length rw', sizeLine_eq]
      omega
    exact oinit_ok T I1 ea few fun s' J => ⟨.non, H1, J, rfl, q⟩
theorem g_veI {K : PySem.W.Frag} {σ : L2.St} {H : Hp} {Q : VK} (q : ta σ H fun vs H1 => ∃ (a C : Addr) (ws : List V), vs = .ref a :: ws ∧ ws.length ≤ 1000 ∧ OexC K C ∧ H1 a = some (exo a C none) ∧ Q .non H1) : tVeI K ta σ H Q := q
theorem g_ost {K : PySem.W.Frag} {f : Str} {to te : TE} {D : Ends} {σ : L2.St} {H : Hp} (q : te σ H fun y H1 => to σ H1 fun x H2 => ∃ a C : Addr, x = .ref a ∧ OexC K C ∧ PySem.W.findIn K (.ref C) f = some none ∧
  ((H2 a = some (exo a C none) ∧ ∀ dx, H2 dx = none → dx ≠ a → D.nx σ (upd (upd H2 dx (exd dx [(f, y)])) a (exo a C (some dx)))) ∨
    ∃ (dx : Addr) (fs : List (Str × V)), H2 a = some (exo a C (some dx)) ∧ H2 dx = some (exd dx fs) ∧ fs.length ≤ 900 ∧ D.nx σ (upd H2 dx (exd dx ((f, y) :: fs))))) : tOst K f to te D σ H := q
end
end Gx

/-! The whole number that a text writes, if it writes one -/
namespace Gx
open PySem TL SX
def digs (a : List Nat) : List Nat := if a.take 1 = [45] then a.drop 1 else a
def isDig (c : Nat) : Bool := decide (48 ≤ c) && decide (c ≤ 57)
def goodI (a : List Nat) : Bool := (decide (1 ≤ (digs a).length) && decide ((digs a).length ≤ 60) && (digs a).all isDig) && !(decide ((digs a).head? = some 48) && !decide (a = [48]))
def valI (a : List Nat) : Int := if a.take 1 = [45] then -((NumText.digitsVal (a.drop 1) : Nat) : Int) else ((NumText.digitsVal a : Nat) : Int)
def readI (a : List Nat) : Option Int := if goodI a = true then some (valI a) else none
theorem all_dig {a : List Nat} (h : a.all isDig = true) : NumText.AllDigits a := by
  intro c hc
  have z := List.all_eq_true.mp h c hc
  unfold isDig at z
  rw [Bool.and_eq_true, decide_eq_true_eq, decide_eq_true_eq] at z
  exact z
theorem int_good {a : List Nat} (h1 : 1 ≤ (digs a).length) (h2 : (digs a).length ≤ 60) (h3 : (digs a).all isDig = true) : intText? (S a) = some (valI a) ∧ a.length ≤ 61 := by
  by_cases c : a.take 1 = [45]
  · have e : digs a = a.drop 1 := if_pos c
    rw [e] at h1 h2 h3
    cases a with
    | nil => cases c
    | cons x r =>
      have hx : x = 45 := (List.cons.inj c).1
      subst hx
      have hr : r ≠ [] := fun z => by
        rw [z] at h1
        cases h1
      have l2 : r.length ≤ 60 := h2
      refine ⟨?_, by rw [List.length_cons]; omega⟩
      have q := intText_neg (x := S (45 :: r)) (cs := r) rfl (all_dig h3) hr (by rw [S_len, List.length_cons]; omega)
      rw [q]
      unfold valI
      rw [if_pos c]
      rfl
  · have e : digs a = a := if_neg c
    rw [e] at h1 h2 h3
    refine ⟨?_, by omega⟩
    have q := intText_digits (x := S a) (all_dig h3) (fun z => by
      have z2 : a = [] := z
      rw [z2] at h1
      cases h1) (by rw [S_len]; omega)
    rw [q]
    unfold valI
    rw [if_neg c]
end Gx

/-! A table of the module: a word that it lacks -/
namespace Gx
open PySem L2
theorem table_lacks {K : PySem.W.Frag} {d : Addr} {es : Array DictEntry} {n : Nat} (hl : K.lookup d = some ⟨.type "dict", none, .dict es n, #[]⟩) {ks : List (Str × Tok)} (hk : es.toList.map (·.key) = ks.map fun k => Value.str k.1 k.2) {z : Str} (hz : ∀ k ∈ ks, k.1 ≠ z) :
    PySem.W.nsIn K d z = some none := by
  unfold PySem.W.nsIn
  rw [hl]
  dsimp only
  have key : ∀ e ∈ es.toList, ∃ k ∈ ks, e.key = .str k.1 k.2 := fun e he => by
    have m : e.key ∈ es.toList.map (·.key) := List.mem_map.mpr ⟨e, he, rfl⟩
    rw [hk] at m
    obtain ⟨k, hm, q⟩ := List.mem_map.mp m
    exact ⟨k, hm, q.symm⟩
  have f : es.toList.find? (·.key.isStr z) = none := List.find?_eq_none.mpr fun e he => by
    obtain ⟨k, hm, q⟩ := key e he
    rw [q]
    have ne := hz k hm
    intro y
    have y2 : (k.1 == z) = true := y
    exact ne (eq_of_beq y2)
  have r : es.toList.any (·.refKey) = false := by
    rw [List.any_eq_false]
    intro e he y
    obtain ⟨k, hm, q⟩ := key e he
    unfold DictEntry.refKey at y
    rw [q] at y
    cases y
  rw [f, r]
  rfl
end Gx

/-! Requests, their texts: what needs no law's text -/
namespace Gk
open PySem L2 Gx SX TL
/-- numbers below 10 ** 60 -/
def In60 (n : Int) : Prop := n.natAbs < 1000000000000000000000000000000000000000000000000000000000000
/-- a request: its name, its numbers -/
abbrev Req := Str × List Int
def reqV (r : Req) : List V := .str r.1 :: r.2.map V.int
def reqD (r : Req) : PyData := .tuple (.str r.1 :: r.2.map PyData.int)
/-- a request that is no last one -/
def Open (r : Req) : Prop := (∀ n ∈ r.2, In60 n) ∧ (((r.1 = "read" ∨ r.1 = "read_values") ∧ ∃ a b, r.2 = [a, b] ∧ a ≤ b) ∨ (r.1 = "put" ∧ ∃ a b, r.2 = [a, b]) ∨ (r.1 = "erase" ∧ ∃ a, r.2 = [a]))
def Last (r : Req) : Prop := (r.1 = "end" ∨ r.1 = "abort") ∧ r.2 = []
section
variable {P : Program} {w : World} {K : PySem.W.Frag} {mg : Str → Option Value} {base : Heap} {aL aN aC : Addr} {eN eC : Array DictEntry} {mN mC : Nat}
theorem cut_to1 (a : List Nat) : cutS (S a) none (some 1) = S (a.take 1) := by
  unfold cutS
  rw [HT.sIx_none, show (1 : Int) = ((1 : Nat) : Int) from rfl, HT.sIx_nat, S_len]
  show S ((a.drop 0).take (min 1 a.length - 0)) = S (a.take 1)
  rw [List.drop_zero, Nat.sub_zero]
  congr 1
  cases a with
  | nil => rfl
  | cons x r =>
    have : min 1 (x :: r).length = 1 := by
      rw [List.length_cons]
      omega
    rw [this]
theorem cut_from1 (a : List Nat) : cutS (S a) (some 1) none = S (a.drop 1) := by
  unfold cutS
  rw [HT.sIx_none, show (1 : Int) = ((1 : Nat) : Int) from rfl, HT.sIx_nat, S_len]
  show S ((a.drop (min 1 a.length)).take (a.length - min 1 a.length)) = S (a.drop 1)
  congr 1
  cases a with
  | nil => rfl
  | cons x r =>
    have : min 1 (x :: r).length = 1 := by
      rw [List.length_cons]
      omega
    rw [this]
    exact List.take_of_length_le (by rw [List.length_drop]; exact Nat.le_refl _)
theorem atI_headN {xs : List Nat} {v : Nat} (h : xs.head? = some v) : atI xs 0 = some v := by
  cases xs with
  | nil => cases h
  | cons x r => exact (atI_nat (j := 0) rfl).trans h
theorem all_true {acc : List V} (h : ∀ (i : Nat) y, acc[i]? = some y → y = .bl true) : acc = (List.replicate acc.length true).map V.bl := by
  apply List.ext_getElem?
  intro i
  rw [List.getElem?_map, List.getElem?_replicate]
  rcases Nat.lt_or_ge i acc.length with c | c
  · rw [if_pos c, List.getElem?_eq_getElem c, h i _ (List.getElem?_eq_getElem c)]
    rfl
  · rw [if_neg (by omega), List.getElem?_eq_none c]
    rfl
theorem map_of {acc : List V} {ns : List Int} {f : Int → V} (hl : acc.length = ns.length) (h : ∀ (i : Nat) y, acc[i]? = some y → ∀ n, ns[i]? = some n → y = f n) : acc = ns.map f := by
  apply List.ext_getElem?
  intro i
  rw [List.getElem?_map]
  rcases Nat.lt_or_ge i acc.length with c | c
  · have c2 : i < ns.length := by omega
    rw [List.getElem?_eq_getElem c, List.getElem?_eq_getElem c2, h i _ (List.getElem?_eq_getElem c) _ (List.getElem?_eq_getElem c2)]
    rfl
  · rw [List.getElem?_eq_none c, List.getElem?_eq_none (by omega)]
    rfl
theorem str_at {ns : List Int} {i : Nat} {x : V} (h : ((ns.map numS).map V.str)[i]? = some x) : ∃ n, ns[i]? = some n ∧ x = .str (numS n) := by
  rw [List.getElem?_map, List.getElem?_map] at h
  cases e : ns[i]? with
  | none =>
    rw [e] at h
    cases h
  | some n =>
    rw [e] at h
    exact ⟨n, rfl, (Option.some.inj h).symm⟩
theorem int_at {ns : List Int} {i : Nat} {x : V} (h : (ns.map V.int)[i]? = some x) : ∃ n, ns[i]? = some n ∧ x = .int n := by
  rw [List.getElem?_map] at h
  cases e : ns[i]? with
  | none =>
    rw [e] at h
    cases h
  | some n =>
    rw [e] at h
    exact ⟨n, rfl, (Option.some.inj h).symm⟩
theorem inV_non (ns : List Int) : inV .non (ns.map V.int) = false := by
  induction ns with
  | nil => rfl
  | cons n r ih =>
    show (eqV (.int n) .non || inV .non (r.map V.int)) = false
    rw [ih]
    rfl
def wordT (x : Str) : Str := if x = "read_values" then "values" else x
/-- the text of a request -/
def reqT (r : Req) : Str := Txt.join " " (wordT r.1 :: r.2.map numS)
theorem sum_nums : ∀ ns : List Int, (∀ n ∈ ns, In60 n) → ((ns.map numS).map (·.length)).sum ≤ 61 * ns.length
  | [], _ => Nat.zero_le _
  | n :: r, h => by
    have ih := sum_nums r fun x hx => h x (List.mem_cons_of_mem _ hx)
    have h1 := numS_len (h n List.mem_cons_self)
    rw [List.map_cons, List.map_cons, List.sum_cons, List.length_cons]
    omega
/-- a request as it may be written -/
def Wri (r : Req) : Prop := (∀ n ∈ r.2, In60 n) ∧ r.2.length ≤ 2 ∧ (wordT r.1).length ≤ 10
theorem log_60 {n : Int} (h : In60 n) : n.natAbs.log2 < 1920 := Nat.lt_trans (PySem.Flt.log2_lt_of (k := 200) (by decide) (Nat.lt_trans h (by decide))) (by decide)
def scriptT (rs : List Req) : Str := Txt.join "; " (rs.map reqT)
theorem ints_back {H : Hp} : ∀ (ns : List Int) (ys : List V), DpAll K H ys (ns.map PyData.int) → ys = ns.map V.int
  | [], _, h => by
    cases h
    rfl
  | n :: r, _, h => by
    cases h with
    | cons a b =>
      cases a
      rw [ints_back r _ b]
      rfl
theorem rq_back {H : Hp} {v : V} {r : Req} (h : Dp K H v (reqD r)) : ∃ t, v = .ref t ∧ SqT K H t (reqV r) := by
  cases h with
  | tup a b =>
    cases b with
    | cons c d =>
      cases c
      rw [ints_back _ _ d] at a
      exact ⟨_, rfl, a⟩
theorem rq_all {H : Hp} : ∀ (rs : List Req) (vs : List V), DpAll K H vs (rs.map reqD) → vs.length = rs.length ∧ ∀ (i : Nat) x, vs[i]? = some x → ∃ r t, rs[i]? = some r ∧ x = .ref t ∧ SqT K H t (reqV r)
  | [], _, h => by
    cases h
    exact ⟨rfl, fun i x hx => by simp at hx⟩
  | r :: rs, _, h => by
    cases h with
    | cons a b =>
      obtain ⟨l, k⟩ := rq_all rs _ b
      refine ⟨by rw [List.length_cons, List.length_cons, l], fun i x hx => ?_⟩
      cases i with
      | zero =>
        obtain rfl := Option.some.inj hx
        obtain ⟨t, e, ht⟩ := rq_back a
        exact ⟨r, t, rfl, e, ht⟩
      | succ i => exact k i x hx
theorem rq_dp {H : Hp} {t : Addr} {r : Req} (h : SqT K H t (reqV r)) : Dp K H (.ref t) (reqD r) := .tup h (.cons (.str _) (dpAll_ints _))
/-- a list of requests -/
abbrev RqL (K : PySem.W.Frag) (H : Hp) (l : Addr) (rs : List Req) : Prop := Dp K H (.ref l) (.list (rs.map reqD))
theorem rq_list {H : Hp} {l : Addr} {rs : List Req} (h : RqL K H l rs) : ∃ vs, SqL K H l vs ∧ vs.length = rs.length ∧ ∀ (i : Nat) x, vs[i]? = some x → ∃ r t, rs[i]? = some r ∧ x = .ref t ∧ SqT K H t (reqV r) := by
  cases h with
  | lst a b =>
    obtain ⟨h1, h2⟩ := rq_all _ _ b
    exact ⟨_, a, h1, h2⟩
theorem len_reqT {r : Req} (h : Wri r) : (reqT r).length ≤ 140 := by
  obtain ⟨hb, hl, hw⟩ := h
  have h1 := join_len (tl " ") ((wordT r.1 :: r.2.map numS).map tl)
  have h2 := sum_nums _ hb
  have h3 : (((wordT r.1 :: r.2.map numS).map tl).map (·.length)) = (wordT r.1 :: r.2.map numS).map (·.length) := by
    rw [List.map_map]
    refine List.map_congr_left fun x _ => ?_
    exact (len_tl x).symm
  have h5 : ((wordT r.1 :: r.2.map numS).map tl).length = r.2.length + 1 := by simp
  have h6 : ((wordT r.1 :: r.2.map numS).map (·.length)).sum = (wordT r.1).length + ((r.2.map numS).map (·.length)).sum := by rw [List.map_cons, List.sum_cons]
  have h4 : (tl " ").length = 1 := rfl
  rw [h3, h4, h5, h6] at h1
  rw [len_tl, reqT, tl_Join]
  omega
theorem sum_req : ∀ rs : List Req, (∀ r ∈ rs, Wri r) → ((rs.map reqT).map (·.length)).sum ≤ 140 * rs.length
  | [], _ => Nat.zero_le _
  | n :: r, h => by
    have ih := sum_req r fun x hx => h x (List.mem_cons_of_mem _ hx)
    have h1 := len_reqT (h n List.mem_cons_self)
    rw [List.map_cons, List.map_cons, List.sum_cons, List.length_cons]
    omega
theorem len_script {rs : List Req} (h : ∀ r ∈ rs, Wri r) (hl : rs.length ≤ 8) : (scriptT rs).length ≤ 2000 := by
  have h1 := join_len (tl "; ") ((rs.map reqT).map tl)
  have h2 := sum_req _ h
  have h3 : (((rs.map reqT).map tl).map (·.length)) = (rs.map reqT).map (·.length) := by
    rw [List.map_map]
    refine List.map_congr_left fun x _ => ?_
    exact (len_tl x).symm
  have h4 : (tl "; ").length = 2 := rfl
  rw [h3, h4, List.length_map, List.length_map] at h1
  rw [len_tl, scriptT, tl_Join]
  omega
theorem strs_of {acc : List V} {rs : List Req} {f : Req → V} (hl : acc.length = rs.length) (h : ∀ (i : Nat) y, acc[i]? = some y → ∀ n, rs[i]? = some n → y = f n) : acc = rs.map f := by
  apply List.ext_getElem?
  intro i
  rw [List.getElem?_map]
  rcases Nat.lt_or_ge i acc.length with c | c
  · have c2 : i < rs.length := by omega
    rw [List.getElem?_eq_getElem c, List.getElem?_eq_getElem c2, h i _ (List.getElem?_eq_getElem c) _ (List.getElem?_eq_getElem c2)]
    rfl
  · rw [List.getElem?_eq_none c, List.getElem?_eq_none (by omega)]
    rfl
/-- the module's tables of words -/
structure Words (K : PySem.W.Frag) (w : World) (mg : Str → Option Value) (aL aN aC : Addr) (eN eC : Array DictEntry) (mN mC : Nat) : Prop where
  gl : ∃ u, mg "LAST" = some u ∧ RelV (.ref aL) u
  hl : ∀ H, SqT K H aL [.str "end", .str "abort"]
  gn : ∃ u, mg "NAMES" = some u ∧ RelV (.ref aN) u
  kn : KDict K w aN eN mN
  n1 : ∃ t, PySem.W.nsIn K aN "read" = some (some (.str "read" t))
  n2 : ∃ t, PySem.W.nsIn K aN "values" = some (some (.str "read_values" t))
  n3 : ∃ t, PySem.W.nsIn K aN "put" = some (some (.str "put" t))
  n4 : ∃ t, PySem.W.nsIn K aN "erase" = some (some (.str "erase" t))
  gc : ∃ u, mg "COUNTS" = some u ∧ RelV (.ref aC) u
  kc : KDict K w aC eC mC
  c1 : ∃ t, PySem.W.nsIn K aC "read" = some (some (.int 2 t))
  c2 : ∃ t, PySem.W.nsIn K aC "values" = some (some (.int 2 t))
  c3 : ∃ t, PySem.W.nsIn K aC "put" = some (some (.int 2 t))
  c4 : ∃ t, PySem.W.nsIn K aC "erase" = some (some (.int 1 t))
/-- what holds of a request that is no last one -/
structure OpenF (K : PySem.W.Frag) (aN aC : Addr) (r : Req) : Prop where
  nums : ∀ n ∈ r.2, In60 n
  few : r.2.length ≤ 2
  short : (wordT r.1).length ≤ 10
  f32 : 32 ∉ tl (wordT r.1)
  f59 : 59 ∉ tl (wordT r.1)
  last : inV (.str (wordT r.1)) [V.str "end", V.str "abort"] = false
  lastN : inV (.str r.1) [V.str "end", V.str "abort"] = false
  name : ∃ t, PySem.W.nsIn K aN (wordT r.1) = some (some (.str r.1 t))
  count : ∃ t, PySem.W.nsIn K aC (wordT r.1) = some (some (.int r.2.length t))
  rng : inV (.str (wordT r.1)) [V.str "read", V.str "values"] = true → ∃ a b, r.2 = [a, b] ∧ a ≤ b
theorem wf_read : (wordT "read").length ≤ 10 ∧ 32 ∉ tl (wordT "read") ∧ 59 ∉ tl (wordT "read") ∧ inV (.str (wordT "read")) [V.str "end", V.str "abort"] = false ∧ inV (.str "read") [V.str "end", V.str "abort"] = false := by decide +kernel
theorem wf_values : (wordT "read_values").length ≤ 10 ∧ 32 ∉ tl (wordT "read_values") ∧ 59 ∉ tl (wordT "read_values") ∧ inV (.str (wordT "read_values")) [V.str "end", V.str "abort"] = false ∧ inV (.str "read_values") [V.str "end", V.str "abort"] = false := by decide +kernel
theorem wf_put : (wordT "put").length ≤ 10 ∧ 32 ∉ tl (wordT "put") ∧ 59 ∉ tl (wordT "put") ∧ inV (.str (wordT "put")) [V.str "end", V.str "abort"] = false ∧ inV (.str "put") [V.str "end", V.str "abort"] = false ∧ inV (.str (wordT "put")) [V.str "read", V.str "values"] = false := by decide +kernel
theorem wf_erase : (wordT "erase").length ≤ 10 ∧ 32 ∉ tl (wordT "erase") ∧ 59 ∉ tl (wordT "erase") ∧ inV (.str (wordT "erase")) [V.str "end", V.str "abort"] = false ∧ inV (.str "erase") [V.str "end", V.str "abort"] = false ∧ inV (.str (wordT "erase")) [V.str "read", V.str "values"] = false := by decide +kernel
theorem openF (W : Words K w mg aL aN aC eN eC mN mC) {r : Req} (h : Open r) : OpenF K aN aC r := by
  obtain ⟨x, ns⟩ := r
  obtain ⟨hb, h⟩ := h
  rcases h with ⟨h | h, a, b, e, le⟩ | ⟨h, a, b, e⟩ | ⟨h, a, e⟩ <;> (simp only at h e hb; subst h e)
  · obtain ⟨a1, a2, a3, a4, a5⟩ := wf_read
    exact ⟨hb, Nat.le_refl 2, a1, a2, a3, a4, a5, W.n1, W.c1, fun _ => ⟨a, b, rfl, le⟩⟩
  · obtain ⟨a1, a2, a3, a4, a5⟩ := wf_values
    exact ⟨hb, Nat.le_refl 2, a1, a2, a3, a4, a5, W.n2, W.c2, fun _ => ⟨a, b, rfl, le⟩⟩
  · obtain ⟨a1, a2, a3, a4, a5, a6⟩ := wf_put
    exact ⟨hb, Nat.le_refl 2, a1, a2, a3, a4, a5, W.n3, W.c3, fun z => absurd (a6.symm.trans z) Bool.false_ne_true⟩
  · obtain ⟨a1, a2, a3, a4, a5, a6⟩ := wf_erase
    exact ⟨hb, Nat.le_succ 1, a1, a2, a3, a4, a5, W.n4, W.c4, fun z => absurd (a6.symm.trans z) Bool.false_ne_true⟩
structure LastF (r : Req) : Prop where
  none : r.2 = []
  word : wordT r.1 = r.1
  short : (wordT r.1).length ≤ 10
  f32 : 32 ∉ tl (wordT r.1)
  f59 : 59 ∉ tl (wordT r.1)
  last : inV (.str (wordT r.1)) [V.str "end", V.str "abort"] = true
  lastN : inV (.str r.1) [V.str "end", V.str "abort"] = true
theorem wl_end : wordT "end" = "end" ∧ (wordT "end").length ≤ 10 ∧ 32 ∉ tl (wordT "end") ∧ 59 ∉ tl (wordT "end") ∧ inV (.str (wordT "end")) [V.str "end", V.str "abort"] = true ∧ inV (.str "end") [V.str "end", V.str "abort"] = true := by decide +kernel
theorem wl_abort : wordT "abort" = "abort" ∧ (wordT "abort").length ≤ 10 ∧ 32 ∉ tl (wordT "abort") ∧ 59 ∉ tl (wordT "abort") ∧ inV (.str (wordT "abort")) [V.str "end", V.str "abort"] = true ∧ inV (.str "abort") [V.str "end", V.str "abort"] = true := by decide +kernel
theorem lastF {r : Req} (h : Last r) : LastF r := by
  obtain ⟨x, ns⟩ := r
  obtain ⟨h | h, e⟩ := h <;> (simp only at h e; subst h e)
  · obtain ⟨a1, a2, a3, a4, a5, a6⟩ := wl_end
    exact ⟨rfl, a1, a2, a3, a4, a5, a6⟩
  · obtain ⟨a1, a2, a3, a4, a5, a6⟩ := wl_abort
    exact ⟨rfl, a1, a2, a3, a4, a5, a6⟩
theorem split_req {r : Req} (h : 32 ∉ tl (wordT r.1)) : Txt.split (reqT r) " " = wordT r.1 :: r.2.map numS := by
  refine split_join (s := 32) (S := []) (by decide +kernel) (by decide +kernel) (by simp) fun p hp => ?_
  rcases List.mem_cons.mp hp with rfl | hp
  · exact h
  · obtain ⟨n, _, rfl⟩ := List.mem_map.mp hp
    rw [tl_numS]
    exact numI_free (by decide) (by decide) n
theorem free_req {r : Req} (h : 59 ∉ tl (wordT r.1)) : 59 ∉ tl (reqT r) := by
  intro z
  rw [reqT, tl_Join] at z
  rcases mem_join z with z | ⟨p, hp, z⟩
  · exact absurd z (by decide +kernel)
  · obtain ⟨q, hq, rfl⟩ := List.mem_map.mp hp
    rcases List.mem_cons.mp hq with rfl | hq
    · exact h z
    · obtain ⟨n, _, rfl⟩ := List.mem_map.mp hq
      rw [tl_numS] at z
      exact numI_free (by decide) (by decide) n z
/-- a script: open requests, then a last one -/
structure Scr (rs : List Req) : Prop where
  ex : ∃ os l, rs = os ++ [l] ∧ (∀ r ∈ os, Open r) ∧ Last l ∧ os.length ≤ 7
theorem Scr.len {rs : List Req} (h : Scr rs) : rs.length ≤ 8 ∧ 0 < rs.length := by
  obtain ⟨os, l, rfl, _, _, h⟩ := h.ex
  rw [List.length_append]
  simp only [List.length_cons, List.length_nil]
  omega
theorem Scr.at_ {rs : List Req} (h : Scr rs) {i : Nat} {r : Req} (hi : rs[i]? = some r) : (i + 1 < rs.length ∧ Open r) ∨ (i + 1 = rs.length ∧ Last r) := by
  obtain ⟨os, l, rfl, ho, hl, h⟩ := h.ex
  rw [List.length_append]
  simp only [List.length_cons, List.length_nil]
  rcases Nat.lt_or_ge i os.length with c | c
  · rw [List.getElem?_append_left c] at hi
    exact .inl ⟨by omega, ho r (List.mem_of_getElem? hi)⟩
  · rw [List.getElem?_append_right c] at hi
    have lt : i - os.length < 1 := by
      rcases Nat.lt_or_ge (i - os.length) 1 with z | z
      · exact z
      · rw [List.getElem?_eq_none (by simpa using z)] at hi
        cases hi
    have e0 : i - os.length = 0 := by omega
    rw [e0] at hi
    obtain rfl := Option.some.inj hi
    exact .inr ⟨by omega, hl⟩
theorem wri (W : Words K w mg aL aN aC eN eC mN mC) {r : Req} (h : Open r ∨ Last r) : Wri r ∧ 59 ∉ tl (wordT r.1) := by
  rcases h with h | h
  · have o := openF W h
    exact ⟨⟨o.nums, o.few, o.short⟩, o.f59⟩
  · have o := lastF h
    exact ⟨⟨by rw [o.none]; exact nofun, by rw [o.none]; exact Nat.zero_le _, o.short⟩, o.f59⟩
theorem Scr.all {rs : List Req} (h : Scr rs) : ∀ r ∈ rs, Open r ∨ Last r := fun r hr => by
  obtain ⟨i, hi, e⟩ := List.getElem_of_mem hr
  rcases h.at_ (List.getElem?_eq_some_iff.mpr ⟨hi, e⟩) with ⟨_, q⟩ | ⟨_, q⟩
  · exact .inl q
  · exact .inr q
theorem noLst_req (r : Req) : noLst (reqD r) = true := by
  have : noLstAll (r.2.map PyData.int) = true := noLstAll_iff.mpr fun d hd => by
    obtain ⟨n, _, rfl⟩ := List.mem_map.mp hd
    rfl
  simp [reqD, noLst, noLstAll, this]
theorem noLst_reqs (rs : List Req) : noLstAll (rs.map reqD) = true := noLstAll_iff.mpr fun d hd => by
  obtain ⟨n, _, rfl⟩ := List.mem_map.mp hd
  exact noLst_req n
theorem split_script (W : Words K w mg aL aN aC eN eC mN mC) {rs : List Req} (h : Scr rs) : Txt.split (scriptT rs) "; " = rs.map reqT := by
  have hl := h.len.2
  refine split_join (s := 59) (S := [32]) (by decide +kernel) (by decide +kernel) (fun z => ?_) fun p hp => ?_
  · rw [List.map_eq_nil_iff] at z
    rw [z] at hl
    cases hl
  · obtain ⟨r, hr, rfl⟩ := List.mem_map.mp hp
    exact free_req (wri W (h.all r hr)).2
theorem join_flat (sep p : List Nat) : ∀ ps : List (List Nat), joinL sep (p :: ps) = p ++ (ps.map fun q => sep ++ q).flatten := by
  intro ps
  induction ps generalizing p with
  | nil => simp [joinL]
  | cons q r ih =>
    have e : joinL sep (p :: q :: r) = p ++ (sep ++ joinL sep (q :: r)) := rfl
    rw [e, ih q]
    simp
theorem join_snoc (sep p : List Nat) : ∀ ps : List (List Nat), ps ≠ [] → joinL sep (ps ++ [p]) = joinL sep ps ++ (sep ++ p)
  | [], h => absurd rfl h
  | q :: r, _ => by
    rw [List.cons_append, join_flat, join_flat, List.map_append, List.flatten_append]
    simp
/-- the numbers of a request behind its word -/
def argsT (ns : List Int) : Str := S ((ns.map fun n => 32 :: numI n).flatten)
theorem tl_argsT (ns : List Int) : tl (argsT ns) = (ns.map fun n => 32 :: numI n).flatten := rfl
theorem args_next {ns : List Int} {j : Nat} {n : Int} (F : Str) (h : ns[j]? = some n) : F ++ argsT (ns.take j) ++ " " ++ numS n = F ++ argsT (ns.take (j + 1)) := by
  refine ext_tl ?_
  have e : tl " " = [32] := by decide +kernel
  rw [tl_append, tl_append, tl_append, tl_append, tl_argsT, tl_argsT, tl_numS, e, List.take_succ, h]
  simp
theorem args_all (x : Str) (ns : List Int) : wordT x ++ argsT ns = reqT (x, ns) := by
  refine ext_tl ?_
  have e : tl " " = [32] := by decide +kernel
  have e2 : (wordT x :: ns.map numS).map tl = tl (wordT x) :: ns.map numI := by simp [tl_numS]
  rw [tl_append, tl_argsT, reqT, tl_Join, e, e2, join_flat]
  simp
  rfl
theorem script_next {rs : List Req} {i : Nat} {r : Req} (h : rs[i]? = some r) : scriptT (rs.take i) ++ (if i = 0 then Str.empty else "; ") ++ reqT r = scriptT (rs.take (i + 1)) := by
  refine ext_tl ?_
  have lt := (List.getElem?_eq_some_iff.mp h).1
  have e : tl "; " = [59, 32] := by decide +kernel
  rw [tl_append, tl_append, scriptT, scriptT, tl_Join, tl_Join, e, List.take_succ, h]
  cases i with
  | zero =>
    rw [if_pos rfl]
    rfl
  | succ i =>
    rw [if_neg (by omega), e]
    show _ = joinL [59, 32] (((rs.take (i + 1) ++ [r]).map reqT).map tl)
    rw [List.map_append, List.map_append]
    have ne : ((rs.take (i + 1)).map reqT).map tl ≠ [] := by
      cases rs with
      | nil => simp at lt
      | cons a b => simp
    exact ((join_snoc [59, 32] (tl (reqT r)) _ ne).trans (List.append_assoc _ _ _).symm).symm
theorem script_empty {rs : List Req} {i : Nat} (hi : i ≤ rs.length) (hw : ∀ r ∈ rs, tl (wordT r.1) ≠ []) : decide (V.str (scriptT (rs.take i)) = V.str "") = decide (i = 0) := by
  cases i with
  | zero => rfl
  | succ i =>
    rw [decide_eq_false (show ¬ i + 1 = 0 by omega)]
    refine decide_eq_false fun z => ?_
    have z2 := congrArg tl (V.str.inj z)
    cases rs with
    | nil => simp at hi
    | cons a b =>
      rw [List.take_succ_cons, scriptT, tl_Join, List.map_cons, List.map_cons, join_flat] at z2
      have z3 : tl (reqT a) = [] := (List.append_eq_nil_iff.mp (z2.trans (by decide +kernel))).1
      rw [reqT, tl_Join, List.map_cons, join_flat] at z3
      exact hw a List.mem_cons_self (List.append_eq_nil_iff.mp z3).1
theorem len_args : ∀ ns : List Int, (∀ n ∈ ns, In60 n) → (argsT ns).length ≤ 62 * ns.length
  | [], _ => Nat.zero_le _
  | n :: r, h => by
    have ih := len_args r fun x hx => h x (List.mem_cons_of_mem _ hx)
    have h1 := numI_le (h n List.mem_cons_self)
    rw [argsT, S_len] at ih ⊢
    rw [List.map_cons, List.flatten_cons, List.length_append, List.length_cons, List.length_cons]
    omega
theorem cut_tail (x : V) (ys : List V) : cutV (x :: ys) (some 1) none = ys := by
  unfold cutV
  rw [HT.sIx_none, show (1 : Int) = ((1 : Nat) : Int) from rfl, HT.sIx_nat]
  have e : min 1 (x :: ys).length = 1 := by
    rw [List.length_cons]
    omega
  rw [e]
  show ys.take (ys.length + 1 - 1) = ys
  rw [Nat.add_sub_cancel, List.take_length]
theorem g_slTl {K : PySem.W.Frag} {a : Addr} {x : V} {ys : List V} {H : Hp} {Q : VK} (h : SqT K H a (x :: ys)) (k : ∀ p H', H p = none → Same H H' → H' p = some (.tup ys) → Q (.ref p) H') : rSlT K (.ref a) (some 1) none H Q := by
  refine ⟨a, x :: ys, rfl, h, fun z => ?_, fun p hp => ?_⟩
  · have z1 := z.1
    rw [show (1 : Int) = ((1 : Nat) : Int) from rfl, HT.sIx_nat, List.length_cons] at z1
    omega
  · rw [cut_tail]
    exact k p _ hp (same_new hp) upd_same
theorem args_nil (F : Str) : F ++ argsT [] = F := by
  refine ext_tl ?_
  rw [tl_append, tl_argsT]
  simp
/-- what a word of a request is made of -/
structure WordF (r : Req) : Prop where
  nums : ∀ n ∈ r.2, In60 n
  few : r.2.length ≤ 2
  low : (tl (wordT r.1)).all (· < 128) = true
  ne : tl (wordT r.1) ≠ []
  short : (wordT r.1).length ≤ 10
  rep : (PySem.reprText r.1).length ≤ 100
  ok : PyData.strOk r.1 = true
theorem wd_read : (tl (wordT "read")).all (· < 128) = true ∧ tl (wordT "read") ≠ [] ∧ (wordT "read").length ≤ 10 ∧ (PySem.reprText "read").length ≤ 100 ∧ PyData.strOk "read" = true := by decide +kernel
theorem wd_values : (tl (wordT "read_values")).all (· < 128) = true ∧ tl (wordT "read_values") ≠ [] ∧ (wordT "read_values").length ≤ 10 ∧ (PySem.reprText "read_values").length ≤ 100 ∧ PyData.strOk "read_values" = true := by decide +kernel
theorem wd_put : (tl (wordT "put")).all (· < 128) = true ∧ tl (wordT "put") ≠ [] ∧ (wordT "put").length ≤ 10 ∧ (PySem.reprText "put").length ≤ 100 ∧ PyData.strOk "put" = true := by decide +kernel
theorem wd_erase : (tl (wordT "erase")).all (· < 128) = true ∧ tl (wordT "erase") ≠ [] ∧ (wordT "erase").length ≤ 10 ∧ (PySem.reprText "erase").length ≤ 100 ∧ PyData.strOk "erase" = true := by decide +kernel
theorem wd_end : (tl (wordT "end")).all (· < 128) = true ∧ tl (wordT "end") ≠ [] ∧ (wordT "end").length ≤ 10 ∧ (PySem.reprText "end").length ≤ 100 ∧ PyData.strOk "end" = true := by decide +kernel
theorem wd_abort : (tl (wordT "abort")).all (· < 128) = true ∧ tl (wordT "abort") ≠ [] ∧ (wordT "abort").length ≤ 10 ∧ (PySem.reprText "abort").length ≤ 100 ∧ PyData.strOk "abort" = true := by decide +kernel
theorem wordF {r : Req} (h : Open r ∨ Last r) : WordF r := by
  obtain ⟨x, ns⟩ := r
  rcases h with ⟨hb, ⟨h | h, a, b, e, le⟩ | ⟨h, a, b, e⟩ | ⟨h, a, e⟩⟩ | ⟨h | h, e⟩ <;> (simp only at h e; subst h e)
  · exact ⟨hb, Nat.le_refl 2, wd_read.1, wd_read.2.1, wd_read.2.2.1, wd_read.2.2.2.1, wd_read.2.2.2.2⟩
  · exact ⟨hb, Nat.le_refl 2, wd_values.1, wd_values.2.1, wd_values.2.2.1, wd_values.2.2.2.1, wd_values.2.2.2.2⟩
  · exact ⟨hb, Nat.le_refl 2, wd_put.1, wd_put.2.1, wd_put.2.2.1, wd_put.2.2.2.1, wd_put.2.2.2.2⟩
  · exact ⟨hb, Nat.le_succ 1, wd_erase.1, wd_erase.2.1, wd_erase.2.2.1, wd_erase.2.2.2.1, wd_erase.2.2.2.2⟩
  · exact ⟨nofun, Nat.zero_le 2, wd_end.1, wd_end.2.1, wd_end.2.2.1, wd_end.2.2.2.1, wd_end.2.2.2.2⟩
  · exact ⟨nofun, Nat.zero_le 2, wd_abort.1, wd_abort.2.1, wd_abort.2.2.1, wd_abort.2.2.2.1, wd_abort.2.2.2.2⟩
theorem numI_low (n : Int) : ∀ c ∈ numI n, c < 128 := by
  intro c hc
  unfold numI at hc
  split at hc
  · rcases List.mem_cons.mp hc with rfl | h
    · decide
    · have := numL_digits _ c h
      omega
  · have := numL_digits _ c hc
    omega
theorem req_low {r : Req} (h : WordF r) : ∀ c ∈ tl (reqT r), c < 128 := by
  intro c hc
  rw [reqT, tl_Join] at hc
  rcases mem_join hc with hc | ⟨p, hp, hc⟩
  · have e : tl " " = [32] := by decide +kernel
    rw [e, List.mem_singleton] at hc
    omega
  · obtain ⟨q, hq, rfl⟩ := List.mem_map.mp hp
    rcases List.mem_cons.mp hq with rfl | hq
    · exact of_decide_eq_true (List.all_eq_true.mp h.low c hc)
    · obtain ⟨n, _, rfl⟩ := List.mem_map.mp hq
      rw [tl_numS] at hc
      exact numI_low n c hc
theorem script_low {rs : List Req} (h : ∀ r ∈ rs, WordF r) : ∀ c ∈ tl (scriptT rs), c < 128 := by
  intro c hc
  rw [scriptT, tl_Join] at hc
  rcases mem_join hc with hc | ⟨p, hp, hc⟩
  · have e : tl "; " = [59, 32] := by decide +kernel
    rw [e] at hc
    simp at hc
    omega
  · obtain ⟨q, hq, rfl⟩ := List.mem_map.mp hp
    obtain ⟨r, hr, rfl⟩ := List.mem_map.mp hq
    exact req_low (h r hr) c hc
theorem fine_req {r : Req} (h : WordF r) : Fine 1 4 (reqD r) := by
  have f := h.few
  refine (fine_tuple (n := 0) (m := 1) fun x hx => ?_).mono (Nat.le_refl _) ?_
  · rcases List.mem_cons.mp hx with rfl | hx
    · exact fine_str h.rep h.ok
    · obtain ⟨n, hn, rfl⟩ := List.mem_map.mp hx
      have b : n.natAbs < 1000000000000000000000000000000000000000000000000000000000000 := h.nums n hn
      exact fine_int (by omega) (by omega)
  · rw [List.length_cons, List.length_map]
    omega
theorem fine_reqs {rs : List Req} (h : ∀ r ∈ rs, WordF r) (hl : rs.length ≤ 8) : Fine 2 33 (.list (rs.map reqD)) := by
  refine (fine_list (m := 4) fun x hx => ?_).mono (Nat.le_refl _) ?_
  · obtain ⟨r, hr, rfl⟩ := List.mem_map.mp hx
    exact fine_req (h r hr)
  · rw [List.length_map]
    omega
/-- two texts in a list may be shown -/
theorem two_texts {p q : Str} (hp : p.length ≤ 2000) (hq : q.length ≤ 2000) (lp : ∀ c ∈ tl p, c < 128) (lq : ∀ c ∈ tl q, c < 128) :
    SeqAt.shaped (.list [.str p, .str q]) = true ∧ (PyData.list [.str p, .str q]).showable = true ∧ (PyData.list [.str p, .str q]).shown.length ≤ sizeLine := by
  have ok : ∀ x : Str, (∀ c ∈ tl x, c < 128) → PyData.strOk x = true := fun x h => by
    unfold PyData.strOk
    rw [← Array.all_toList, List.all_eq_true]
    intro c hc
    have := h c hc
    exact decide_eq_true (by omega)
  have len : ∀ x : Str, (∀ c ∈ tl x, c < 128) → x.length ≤ 2000 → (PySem.reprText x).length ≤ 20002 := fun x h l => by
    have := PySem.StrLaws.reprText_len x fun c hc => Nat.lt_trans (h c hc) (by decide)
    omega
  refine ⟨?_, by simp [PyData.showable, PyData.showableAll], ?_⟩
  · simp [SeqAt.shaped, PyData.canLay0, PyData.canLayAll0, PyData.depth, PyData.depthAll, ok p lp, ok q lq]
  · have h := listText_le (PyData.shownAll [.str p, .str q])
    have a := len p lp hp
    have b := len q lq hq
    have e : piled (PyData.shownAll [.str p, .str q]) ≤ (PySem.reprText p).length + (PySem.reprText q).length + 100 := by
      simp [PyData.shownAll, PyData.shown, piled]
      omega
    rw [sizeLine_eq]
    show (listText (PyData.shownAll [.str p, .str q])).length ≤ _
    omega
theorem WordF.wri {r : Req} (h : WordF r) : Wri r := ⟨h.nums, h.few, h.short⟩
end
end Gk

/-! The request that any text writes, if it writes one -/
namespace Gk
open PySem L2 Gx SX TL
theorem spl_lens (sep : List Nat) : ∀ (l : List Nat) (k : Nat) (acc : List Nat), (∀ p ∈ spl sep k acc l, p.length ≤ acc.length + l.length) ∧ (spl sep k acc l).length ≤ l.length + 1 ∧ spl sep k acc l ≠ []
  | [], k, acc => by
    rw [spl_nil]
    refine ⟨fun p hp => ?_, Nat.le_refl _, by simp⟩
    rw [List.mem_singleton.mp hp]
    exact Nat.le_refl _
  | c :: r, 0, acc => by
    cases h : pre sep (c :: r) with
    | true =>
      rw [spl_hit h]
      obtain ⟨h1, h2, h3⟩ := spl_lens sep r (sep.length - 1) []
      refine ⟨fun p hp => ?_, ?_, by simp⟩
      · rcases List.mem_cons.mp hp with rfl | hp
        · omega
        · have := h1 p hp
          rw [List.length_cons]
          rw [List.length_nil] at this
          omega
      · rw [List.length_cons, List.length_cons]
        omega
    | false =>
      rw [spl_miss h]
      obtain ⟨h1, h2, h3⟩ := spl_lens sep r 0 (acc ++ [c])
      refine ⟨fun p hp => ?_, ?_, h3⟩
      · have := h1 p hp
        rw [List.length_append] at this
        rw [List.length_cons]
        simp only [List.length_cons, List.length_nil] at this
        omega
      · rw [List.length_cons]
        omega
  | c :: r, k + 1, acc => by
    have e : spl sep (k + 1) acc (c :: r) = spl sep k acc r := rfl
    rw [e]
    obtain ⟨h1, h2, h3⟩ := spl_lens sep r k acc
    refine ⟨fun p hp => ?_, ?_, h3⟩
    · have := h1 p hp
      rw [List.length_cons]
      omega
    · rw [List.length_cons]
      omega
/-- a word of a request: its name, how many numbers -/
def nameOf (x : Str) : Option (Str × Nat) := if x = "read" then some ("read", 2) else if x = "values" then some ("read_values", 2) else if x = "put" then some ("put", 2) else if x = "erase" then some ("erase", 1) else none
def allI (as : List (List Nat)) : Option (List Int) := if (as.any fun a => (readI a).isNone) = true then none else some (as.filterMap readI)
def inOrder : List Int → Bool
  | a :: b :: _ => decide (a ≤ b)
  | _ => true
def reqOf (w : Str) (rest : List (List Nat)) : Option Req :=
  if w = "end" ∨ w = "abort" then (if rest = [] then some (w, []) else none)
  else match nameOf w, allI rest with
    | some (nm, c), some ns => if ns.length = c ∧ (w = "read" ∨ w = "values" → inOrder ns = true) then some (nm, ns) else none
    | _, _ => none
def reqI (a : List Nat) : Option Req := match spl [32] 0 [] a with
  | [] => none
  | w :: rest => reqOf (S w) rest
end Gk

/-! Lists of texts as data; a text among two -/
namespace Gx
open PySem L2
section
variable {K : PySem.W.Frag} {H : Hp}
theorem shaped_strs : ∀ (xs : List Str), (∀ x ∈ xs, PyData.strOk x = true) → SeqAt.shaped (.list (xs.map PyData.str)) = true := fun xs h => by
  unfold SeqAt.shaped
  have h1 : PyData.canLayAll0 (xs.map PyData.str) = true := by
    induction xs with
    | nil => simp [PyData.canLayAll0]
    | cons n ns ih =>
      have h2 := ih fun x hx => h x (List.mem_cons_of_mem _ hx)
      have h3 := h n List.mem_cons_self
      simp [PyData.canLayAll0, PyData.canLay0, h2, h3]
  have h2 : PyData.depthAll (xs.map PyData.str) ≤ 0 := depthAll_le fun x hx => by
    obtain ⟨n, _, rfl⟩ := List.mem_map.mp hx
    simp [PyData.depth]
  have h3 : PyData.depthAll (xs.map PyData.str) + 1 ≤ 64 := by omega
  simp [PyData.canLay0, PyData.depth, h1, h3]
theorem dpAll_strs : ∀ (xs : List Str), DpAll K H (xs.map V.str) (xs.map PyData.str)
  | [] => .nil
  | x :: r => .cons (.str x) (dpAll_strs r)
theorem bare_strs (xs : List Str) : bare (.list (xs.map PyData.str)) = true := by
  simp only [bare]
  exact bareAll_iff.mpr fun x hx => by
    obtain ⟨n, _, rfl⟩ := List.mem_map.mp hx
    simp [bare]
theorem dp_strs {p : Addr} {xs : List Str} (h : SqL K H p (xs.map V.str)) : Dp K H (.ref p) (.list (xs.map PyData.str)) := .lst h (dpAll_strs xs)
theorem strs_inj {ns ms : List Str} : PyData.list (ns.map PyData.str) = PyData.list (ms.map PyData.str) ↔ ns = ms := by
  constructor
  · intro h
    injection h with h
    induction ns generalizing ms with
    | nil => cases ms with
      | nil => rfl
      | cons m ms => simp at h
    | cons n ns ih => cases ms with
      | nil => simp at h
      | cons m ms =>
        simp only [List.map_cons, List.cons.injEq, PyData.str.injEq] at h
        rw [h.1, ih h.2]
  · intro h
    rw [h]
theorem eqv_strs (ns ms : List Str) : PyData.eqv (.list (ns.map PyData.str)) (.list (ms.map PyData.str)) = decide (ns = ms) := by
  by_cases h : ns = ms
  · rw [decide_eq_true h, eqv_yes (bare_strs _) (bare_strs _) (by rw [h])]
  · rw [decide_eq_false h, eqv_no (bare_strs _) (bare_strs _) (fun z => h (strs_inj.mp z))]
theorem g_eqS {Q : VK} {p q : Addr} {ns ms : List Str} (h1 : SqL K H p (ns.map V.str)) (h2 : SqL K H q (ms.map V.str)) (o1 : ∀ x ∈ ns, PyData.strOk x = true) (o2 : ∀ x ∈ ms, PyData.strOk x = true) (k : Q (.bl (decide (ns = ms))) H) : rEqD K (.ref p) (.ref q) H Q := by
  refine g_eqD (dp_strs h1) (dp_strs h2) (shaped_strs _ o1) (shaped_strs _ o2) ?_
  rw [eqv_strs]
  exact k
theorem strOk_low {x : Str} (h : ∀ c ∈ TL.tl x, c < 128) : PyData.strOk x = true := by
  unfold PyData.strOk
  rw [← Array.all_toList, List.all_eq_true]
  intro c hc
  have := h c hc
  exact decide_eq_true (by omega)
theorem inV_two (x a b : Str) : inV (.str x) [V.str a, V.str b] = decide (x = a ∨ x = b) := by
  have e : inV (.str x) [V.str a, V.str b] = ((a == x) || ((b == x) || false)) := rfl
  rw [e]
  by_cases h1 : x = a
  · subst h1
    simp
  · by_cases h2 : x = b
    · subst h2
      simp
    · have e1 : (a == x) = false := by simpa using fun z => h1 z.symm
      have e2 : (b == x) = false := by simpa using fun z => h2 z.symm
      rw [e1, e2]
      simp [h1, h2]
end
end Gx
namespace Gk
open PySem L2 Gx SX TL
theorem spl_mem (sep : List Nat) : ∀ (l : List Nat) (k : Nat) (acc : List Nat), ∀ p ∈ spl sep k acc l, ∀ c ∈ p, c ∈ acc ∨ c ∈ l
  | [], k, acc => by
    rw [spl_nil]
    intro p hp c hc
    rw [List.mem_singleton.mp hp] at hc
    exact .inl hc
  | c :: r, 0, acc => by
    intro p hp y hy
    cases h : pre sep (c :: r) with
    | true =>
      rw [spl_hit h] at hp
      rcases List.mem_cons.mp hp with rfl | hp
      · exact .inl hy
      · rcases spl_mem sep r _ [] p hp y hy with z | z
        · cases z
        · exact .inr (List.mem_cons_of_mem _ z)
    | false =>
      rw [spl_miss h] at hp
      rcases spl_mem sep r 0 (acc ++ [c]) p hp y hy with z | z
      · rcases List.mem_append.mp z with z | z
        · exact .inl z
        · rw [List.mem_singleton.mp z]
          exact .inr List.mem_cons_self
      · exact .inr (List.mem_cons_of_mem _ z)
  | c :: r, k + 1, acc => by
    have e : spl sep (k + 1) acc (c :: r) = spl sep k acc r := rfl
    rw [e]
    intro p hp y hy
    rcases spl_mem sep r k acc p hp y hy with z | z
    · exact .inl z
    · exact .inr (List.mem_cons_of_mem _ z)
/-- all signs below 128 -/
def Low (a : List Nat) : Prop := ∀ c ∈ a, c < 128
theorem low_spl {sep a : List Nat} (h : Low a) : ∀ p ∈ spl sep 0 [] a, Low p := fun p hp c hc => by
  rcases spl_mem sep a 0 [] p hp c hc with z | z
  · cases z
  · exact h c z
theorem ok_S {a : List Nat} (h : Low a) : PyData.strOk (S a) = true := strOk_low fun c hc => h c hc
/-- what the tables say of a word of a request -/
structure NameF (K : PySem.W.Frag) (aN aC : Addr) (z nm : Str) (c : Nat) : Prop where
  name : ∃ t, PySem.W.nsIn K aN z = some (some (.str nm t))
  count : ∃ t, PySem.W.nsIn K aC z = some (some (.int c t))
  two : (z = "read" ∨ z = "values") → c = 2
  le : c ≤ 2
theorem nameF {K : PySem.W.Frag} {w : World} {mg : Str → Option Value} {aL aN aC : Addr} {eN eC : Array DictEntry} {mN mC : Nat} (W : Words K w mg aL aN aC eN eC mN mC) {z nm : Str} {c : Nat} (h : nameOf z = some (nm, c)) : NameF K aN aC z nm c := by
  unfold nameOf at h
  split at h
  · rename_i e
    obtain ⟨rfl, rfl⟩ := Prod.mk.inj (Option.some.inj h)
    subst e
    exact ⟨W.n1, W.c1, fun _ => rfl, Nat.le_refl 2⟩
  split at h
  · rename_i e
    obtain ⟨rfl, rfl⟩ := Prod.mk.inj (Option.some.inj h)
    subst e
    exact ⟨W.n2, W.c2, fun _ => rfl, Nat.le_refl 2⟩
  split at h
  · rename_i e
    obtain ⟨rfl, rfl⟩ := Prod.mk.inj (Option.some.inj h)
    subst e
    refine ⟨W.n3, W.c3, fun z => ?_, Nat.le_refl 2⟩
    rcases z with z | z <;> exact absurd z (by decide +kernel)
  split at h
  · rename_i e
    obtain ⟨rfl, rfl⟩ := Prod.mk.inj (Option.some.inj h)
    subst e
    refine ⟨W.n4, W.c4, fun z => ?_, Nat.le_succ 1⟩
    rcases z with z | z <;> exact absurd z (by decide +kernel)
  · cases h
end Gk

/-! Errors: defs that raise and are called, by place and by keyword; what is asked of a caught error; raising one with a place -/
namespace Gx
open PySem L2 PySem.Spec PyProof.Rows
/-- what an own class of errors says, so that a caught one may be asked -/
structure ErrC (K : PySem.W.Frag) (D : Addr) : Prop where
  cl : (PySem.W.clsIn K D).isSome = true
  hg : PySem.W.findIn K (.ref D) "__getattribute__" = some (some (.builtin "BaseException.__getattribute__"))
  hk : PySem.W.findIn K (.ref D) "__getattr__" = some none
  hs : PySem.W.subIn K (.ref D) (.type "BaseException") = some true
  hd : PySem.W.hasDictIn K D = true
  ha : PySem.W.findIn K (.ref D) "__class__" = some (some (.builtin "object.__class__"))
  hn : PySem.W.specialIn K (.builtin "object.__class__") "__get__" = some (some (.builtin "getset_descriptor.__get__"))
  ht : PySem.W.takesIn K (.builtin "object.__class__") = some true
  hm : PySem.W.mroIn K D (.type "object") = some true
/-- isinstance(e, c), e a caught error that has its dict -/
def rIsD (K : PySem.W.Frag) (a : Addr) (cls : Value) (d : Option Addr) : List V → Hp → VK → Prop := fun xs H Q => ∃ (D dd : Addr) (fs : List (Str × V)) (c : V) (b : Bool), xs = [.ref a, c] ∧ cls = .ref D ∧ d = some dd ∧ H dd = some (.xd fs) ∧ ErrC K D ∧
  ((∃ u, ClsV c u ∧ PySem.W.kitOne K (.ref D) u = some b) ∨ ∃ tp cs us, c = .ref tp ∧ H tp = some (.tup cs) ∧ Paired ClsV cs us ∧ PySem.W.kitAny K (.ref D) us = some b) ∧ Q (.bl b) H
theorem err_inst {X : Cx} {pins : List (Addr × Obj)} {σ : L2.St} {H : Hp} {s : Shared} {a D dd : Addr} {oe : Obj} {pn : List (Addr × Obj)} {fs : List (Str × V)} (I : Inv (X.suite a ((a, oe) :: pn)) pins σ H s) (hz : Zc (.ref D) (some dd) oe) (hf : ∃ vs, oe.data = .fields vs) (ed : H dd = some (.xd fs)) :
    ∃ (od : Obj) (mA : Str → Option Value), PySem.W.InstAt s.heap a oe D (some od) ∧ (∀ name, PySem.W.lookIn name od = some (mA name)) ∧ ∀ f, RelO (fs.lookup f) (mA f) := by
  obtain ⟨ha, _⟩ := I.pin (a, oe) (List.mem_append_left _ List.mem_cons_self)
  obtain ⟨vs, hd⟩ := hf
  have hx : ObjOk X.prog X.w H s.heap dd (.xd fs) := I.hok dd _ ed
  obtain ⟨mA, hns, hr⟩ := hx
  obtain ⟨od, ho, hl⟩ := lookIn_ns hns
  exact ⟨od, mA, ⟨ha, hz.1, by unfold PySem.W.notCls; rw [hd] <;> rfl, by rw [hz.2]; exact ho⟩, hl, hr⟩
theorem call_isD {X : Cx} {a : Addr} {oe : Obj} {cls : Value} {d : Option Addr} {pn : List (Addr × Obj)} (hz : Zc cls d oe) (hf : ∃ vs, oe.data = .fields vs) : CallR (X.suite a ((a, oe) :: pn)) (.builtin "isinstance") (rIsD X.K a cls d) := by
  intro pins s σ H xs us Q I r h
  obtain ⟨D, dd, fs, c, b, rfl, rfl, rfl, ed, C, hc, q⟩ := h
  obtain ⟨u1, u2, rfl, r1, r2⟩ := vals2 r
  cases (show u1 = Value.ref a from r1)
  obtain ⟨od, mA, J, _, _⟩ := err_inst I hz hf ed
  have Z := PySem.W.kitx_exc (x := a) (ox := oe) (od := some od) C.cl C.hg C.hk C.hs C.ha C.hn C.ht C.hm
  rcases hc with ⟨u, k, e⟩ | ⟨tp, cs, ws, rfl, hT, k, e⟩
  · have e2 := k.eq r2
    subst e2
    exact PySem.W.kia_one Z I.kIn J e (fun z => nomatch z) fun tk => ⟨.bl b, H, I.tok tk, rfl, q⟩
  · cases (show u2 = Value.ref tp from r2)
    obtain ⟨_, its, rv, o, h1, h2, n, h3⟩ := (show ObjOk X.prog X.w H s.heap tp (.tup cs) from I.hok tp _ hT)
    have e3 := ClsV.all k rv
    subst e3
    obtain ⟨oc, od', dt, sl⟩ := o
    simp only at h2 h3
    subst h2 h3
    exact PySem.W.kia_tup Z I.kIn J h1 e (fun z => nomatch z) fun tk => ⟨.bl b, H, I.tok tk, rfl, q⟩
/-- e.f, e a caught error -/
def tErr (K : PySem.W.Frag) (a : Addr) (cls : Value) (d : Option Addr) (f : Str) (te : TE) : TE := fun σ H Q => te σ H fun x H1 => x = .ref a ∧ ∃ (D dd : Addr) (fs : List (Str × V)) (v : V), cls = .ref D ∧ d = some dd ∧ H1 dd = some (.xd fs) ∧ fs.lookup f = some v ∧ ErrC K D ∧ PySem.W.findIn K (.ref D) f = some none ∧ Q v H1
theorem pe_err {X : Cx} {a : Addr} {oe : Obj} {cls : Value} {d : Option Addr} {pn : List (Addr × Obj)} {e : Expr} {te : TE} {f : Str} {pos : Pos} (hz : Zc cls d oe) (hf : ∃ vs, oe.data = .fields vs) (he : PE (X.suite a ((a, oe) :: pn)) e te)
    (hb : attributeBase e f X.env (eval e X.env) = eval e X.env := by rfl) : PE (X.suite a ((a, oe) :: pn)) (.Attribute e f pos) (tErr X.K a cls d f te) := by
  refine ⟨fun pins s σ H Q I h => ?_⟩
  refine attr_of hb (thn (he.run pins s σ H _ I h) fun u s1 hh => ?_)
  obtain ⟨x, H1, I1, rx, ex, D, dd, fs, v, ec, edd, ed, hl, C, no, q⟩ := hh
  subst ex
  obtain rfl : u = Value.ref a := rx
  subst ec
  subst edd
  obtain ⟨od, mA, J, lk, hr⟩ := err_inst I1 hz hf ed
  obtain ⟨u, hu, ru⟩ := RelO.some_of (v := v) (o := mA f) (by rw [← hl]; exact hr f)
  exact PySem.HandSPX.exc_get I1.kIn J C.hg C.hk C.hs (PySem.W.findObj_own C.hd no rfl (by rw [lk, hu])) (handed_of ru) ⟨v, H1, I1.tok _, ru, q⟩
section
variable {X : Cx} {e : Expr} {es : List Expr} {x : Str} {ta : TA} {p pos : Pos}
/-- a def that may raise, called by its name -/
structure CalX (P : Program) (w : World) (K : PySem.W.Frag) (mg : Str → Option Value) (base : Heap) (k : Nat) (x : Str) (sp : Sp) : Prop where
  ex : ∃ (f : Addr) (fd : FuncData) (ps : List Str), FnOk P w K mg base (L2.CX P w) k f fd ps sp ∧ mg x = some (.ref f) ∧ PySem.W.keepIn K (.ref f) = true ∧ Binds K fd ps []
theorem pe_cX {k j : Nat} {sp : Sp} {E : L2.St → XK} (c : CalX X.prog X.w X.K X.mg X.base k x sp) (hr : Room j X.A) (hk : k ≤ j) (hg : Gl X x) (hx : ∀ σ, PassesAt (L2.CX X.prog X.w) X σ (E σ)) (ha : PA X (e :: es) ta)
    (hdb : (x == ("__debug__" : Str)) = false := by decide) (he : starEach (e :: es) X.env = (false, eval e X.env) :: starEach es X.env := by rfl) (hpl : (backTo pos (starEach es X.env)).any (·.1) = false := by rfl) : PE X (.Call (.Name x p) (e :: es) [] pos) (tCallS sp E ta) := by
  obtain ⟨f, fd, ps, F, named, kept, b⟩ := c.ex
  exact pe_callS F (hr.mono hk) hg named kept b hx ha hdb he hpl
/-- .. with keywords alone -/
structure CalKX (P : Program) (w : World) (K : PySem.W.Frag) (mg : Str → Option Value) (base : Heap) (k : Nat) (x : Str) (ks : List Str) (gV : List V → List V → List V) (sp : Sp) : Prop where
  ex : ∃ (f : Addr) (fd : FuncData) (ps : List Str) (g : List Value → List Value → List Value), FnOk P w K mg base (L2.CX P w) k f fd ps sp ∧ mg x = some (.ref f) ∧ PySem.W.keepIn K (.ref f) = true ∧ KBinds K fd ps ks g gV
theorem run_fnkS {pins : List (Addr × Obj)} {σ : L2.St} {H : Hp} {s : Shared} {Q : VK} {us ws : List Value} {vs zs : List V} {CX : CXT} {k : Nat} {f : Addr} {fd : FuncData} {ps ks : List Str} {sp : Sp} {g : List Value → List Value → List Value} {gV : List V → List V → List V} {E : L2.St → XK}
    (F : FnOk X.prog X.w X.K X.mg X.base CX k f fd ps sp) (hr : Room k X.A) (hb : KBinds X.K fd ps ks g gV) (hx : PassesAt CX X σ (E σ))
    (I : Inv X pins σ H s) (r : Vals vs us) (rz : Vals zs ws) (h : sp (gV vs zs) H Q (E σ)) : wpAny (model X.prog X.w) X.A (call (.ref f) us (ks.zip ws)) (EP X pins σ Q) X.xe s := by
  have r2 := hb.rel r rz
  have hl : (g us ws).length = ps.length := by rw [← r2.length]; exact F.len _ _ _ _ h
  refine wpAny_call (codeAny_mono (F.run X.A X.stack s H ⟨us, ks.zip ws⟩ (g us ws) (gV vs zs) Q (E σ) hr I.env0 (hb.to s us ws I.kIn hl) r2 h) fun r s' hq => ?_)
  cases r with
  | error e => exact hx pins H s e s' I hq
  | ok fl =>
    cases fl with
    | ret u => exact I.after hq
    | next => exact False.elim hq
    | brk => exact False.elim hq
    | cont => exact False.elim hq
def tCallKX (sp : Sp) (gV : List V → List V → List V) (E : L2.St → XK) (tk : TA) : TE := fun σ H Q => tk σ H fun zs H2 => sp (gV [] zs) H2 Q (E σ)
theorem pe_cKX {k j : Nat} {ks : List Str} {gV : List V → List V → List V} {sp : Sp} {kws : List Keyword} {tk : TA} {E : L2.St → XK} (c : CalKX X.prog X.w X.K X.mg X.base k x ks gV sp) (hr : Room j X.A) (hk : k ≤ j) (hg : Gl X x) (hx : ∀ σ, PassesAt (L2.CX X.prog X.w) X σ (E σ)) (hkw : PK X kws tk)
    (hdb : (x == ("__debug__" : Str)) = false := by decide) (hall : (backToKw pos (keywordEach kws X.env)).all (·.1.isSome) = true := by rfl) (hks : (backToKw pos (keywordEach kws X.env)).filterMap (·.1) = ks := by rfl)
    (hpl : ((backTo pos (starEach [] X.env)).any (·.1) || (backToKw pos (keywordEach kws X.env)).any (·.1.isNone)) = false := by rfl) : PE X (.Call (.Name x p) [] kws pos) (tCallKX sp gV E tk) := by
  obtain ⟨f, fd, ps, g, F, named, kept, kb⟩ := c.ex
  refine ⟨fun pins s σ H Q I h => wpAny_Call_Name_kw (ld_glob I hg named ?_ hdb)⟩
  refine PySem.W.callWith_KW0 (h₀ := X.base) I.ok.mod.kin kept hall (thn (hkw.run pos pins s σ H _ I h) fun ws s2 got => ?_) hpl
  obtain ⟨zs, H2, I2, rz, q2⟩ := got
  refine ⟨I2.kIn, ?_⟩
  rw [hks]
  exact run_fnkS (us := []) (vs := []) F (hr.mono hk) kb (hx σ) I2 .nil rz q2
end
/-- membership in a tuple of data -/
def rInDT (K : PySem.W.Frag) : R2 := fun x y H Q => ∃ d ds, Dp K H x d ∧ Dp K H y (.tuple ds) ∧ SeqAt.shaped d = true ∧ SeqAt.shaped (.tuple ds) = true ∧ d.depth ≤ 60 ∧ Q (.bl (ds.any fun z => PyData.eqv z d)) H
theorem op_inDT {X : Cx} (hu : X.A.units + 64 < cLine) : OpR X (compareOp .In) (rInDT X.K) := by
  intro pins s σ H x y v u Q I rx ry h
  obtain ⟨d, ds, hd, he, sd, se, dd, q⟩ := h
  obtain ⟨as, r1⟩ := Dp.reads I d x v hd rx
  obtain ⟨bs, r2⟩ := Dp.reads I (.tuple ds) y u he ry
  exact SeqAt.in_tuple_reads r2 r1 (SeqAt.canLay_of_shaped se) (SeqAt.canLay_of_shaped sd) (by omega) ⟨.bl _, H, I, rfl, q⟩
section
variable {σ : L2.St} {H : Hp} {Q : VK} {K : PySem.W.Frag} {ta tk : TA} {te : TE} {D : Ends}
theorem g_cX {sp : Sp} {E : L2.St → XK} (q : ta σ H fun vs H1 => sp vs H1 Q (E σ)) : tCallS sp E ta σ H Q := q
theorem g_cKX {sp : Sp} {gV : List V → List V → List V} {E : L2.St → XK} (q : tk σ H fun zs H2 => sp (gV [] zs) H2 Q (E σ)) : tCallKX sp gV E tk σ H Q := q
theorem g_err {a : Addr} {cls : Value} {d : Option Addr} {f : Str} (q : te σ H fun x H1 => x = .ref a ∧ ∃ (D dd : Addr) (fs : List (Str × V)) (v : V), cls = .ref D ∧ d = some dd ∧ H1 dd = some (.xd fs) ∧ fs.lookup f = some v ∧ ErrC K D ∧ PySem.W.findIn K (.ref D) f = some none ∧ Q v H1) : tErr K a cls d f te σ H Q := q
end
end Gx

/-! Methods of one of several classes that may raise; raising an own error made with a text -/
namespace Gx
open PySem L2 PySem.Spec PyProof.Rows
open C8 (Cal Met Mak)
structure MetF (P : Program) (w : World) (K : PySem.W.Frag) (mg : Str → Option Value) (base : Heap) (CX : CXT) (k : Nat) (S : Addr → Prop) (m : Str) (sp : Addr → Sp) : Prop where
  ex : ∀ C, S C → ∃ (f : Addr) (fd : FuncData) (ps : List Str), Cls K C ∧ Meth K C m f ∧ FnOk P w K mg base CX k f fd ps (sp C) ∧ Binds K fd ps []
theorem passF {X : Cx} {E : L2.St → XK} (σ : L2.St) : PassesAt CX0 X σ (E σ) := fun _ _ _ _ _ _ h => h.elim
def tMethF (S : Addr → Prop) (m : Str) (sp : Addr → Sp) (E : L2.St → XK) (ta : TE) (t : TA) : TE := fun σ H Q => ta σ H fun x H1 => ∃ a C dx fs, x = .ref a ∧ H1 a = some (.ins C dx fs) ∧ S C ∧ fs.lookup m = none ∧ t σ H1 fun vs H2 => sp C (.ref a :: vs) H2 Q (E σ)
section
variable {X : Cx} {CX : CXT} {k j : Nat} {S : Addr → Prop} {m : Str} {sp : Addr → Sp} {E : L2.St → XK} {pos apos : Pos} {e o : Expr} {es : List Expr} {ta : TE} {t : TA}
theorem pe_mtF {pl : Sem Bool} (c : MetF X.prog X.w X.K X.mg X.base CX k S m sp) (hr : Room j X.A) (hk : k ≤ j) (hx : ∀ σ, PassesAt CX X σ (E σ)) (ho : PE X o ta) (ha : PA X (e :: es) t)
    (hst : starEach (e :: es) X.env = (false, eval e X.env) :: starEach es X.env := by rfl) (hpl : (backTo pos (starEach es X.env)).any (·.1) = false := by rfl)
    (form : eval (.Call (.Attribute o m apos) (e :: es) [] pos) X.env = (do
      let obj ← eval o X.env
      standAt apos.atName
      let (fn, firsts) ← holding [obj] (getMethod obj m pl)
      callWith pos fn firsts (backTo pos (starEach (e :: es) X.env)) (backToKw pos (keywordEach [] X.env))) := by rfl) :
    PE X (.Call (.Attribute o m apos) (e :: es) [] pos) (tMethF S m sp E ta t) := by
  refine ⟨fun pins s σ H Q I h => PySem.W.methodCall_KW (pl := pl) (thn (ho.run pins s σ H _ I h) fun u s1 got => ?_) form⟩
  obtain ⟨x, H1, I1, rx, a, C, dx, fs, ex, ea, hC, l, q⟩ := got
  subst ex
  obtain rfl : u = Value.ref a := rx
  obtain ⟨f, fd, ps, cl, me, F, b⟩ := c.ex C hC
  refine getmeth_ok I1 ea cl me l ?_
  refine PySem.W.callWith_K (first := [.ref a]) (h₀ := X.base) I1.ok.mod.kin me.kp (thn (ha.run pos pins s1 σ H1 _ I1 q) fun us s2 got2 => ?_) hst hpl
  obtain ⟨vs, H2, I2, r, q2⟩ := got2
  exact ⟨I2.kIn, run_fnS (us := .ref a :: us) (vs := .ref a :: vs) F (hr.mono hk) b (hx σ) I2 (.cons rfl r) q2⟩
theorem pe_mt0F {pl : Sem Bool} (c : MetF X.prog X.w X.K X.mg X.base CX k S m sp) (hr : Room j X.A) (hk : k ≤ j) (hx : ∀ σ, PassesAt CX X σ (E σ)) (ho : PE X o ta)
    (form : eval (.Call (.Attribute o m apos) [] [] pos) X.env = (do
      let obj ← eval o X.env
      standAt apos.atName
      let (fn, firsts) ← holding [obj] (getMethod obj m pl)
      callWith pos fn firsts (backTo pos (starEach [] X.env)) (backToKw pos (keywordEach [] X.env))) := by rfl) :
    PE X (.Call (.Attribute o m apos) [] [] pos) (tMethF S m sp E ta tNil) := by
  refine ⟨fun pins s σ H Q I h => PySem.W.methodCall_KW (pl := pl) (thn (ho.run pins s σ H _ I h) fun u s1 got => ?_) form⟩
  obtain ⟨x, H1, I1, rx, a, C, dx, fs, ex, ea, hC, l, q⟩ := got
  subst ex
  obtain rfl : u = Value.ref a := rx
  obtain ⟨f, fd, ps, cl, me, F, b⟩ := c.ex C hC
  refine getmeth_ok I1 ea cl me l ?_
  exact PySem.W.callWith_K0 (first := [.ref a]) I1.kIn me.kp (run_fnS (us := [.ref a]) (vs := [.ref a]) F (hr.mono hk) b (hx σ) I1 (.cons rfl .nil) q)
structure MetKF (P : Program) (w : World) (K : PySem.W.Frag) (mg : Str → Option Value) (base : Heap) (CX : CXT) (k : Nat) (S : Addr → Prop) (m : Str) (ks : List Str) (gV : List V → List V → List V) (sp : Addr → Sp) : Prop where
  ex : ∀ C, S C → ∃ (f : Addr) (fd : FuncData) (ps : List Str) (g : List Value → List Value → List Value), Cls K C ∧ Meth K C m f ∧ FnOk P w K mg base CX k f fd ps (sp C) ∧ KBinds K fd ps ks g gV
def tMethKF (S : Addr → Prop) (m : Str) (sp : Addr → Sp) (gV : List V → List V → List V) (E : L2.St → XK) (ta : TE) (tk : TA) : TE := fun σ H Q => ta σ H fun x H1 => ∃ a C dx fs, x = .ref a ∧ H1 a = some (.ins C dx fs) ∧ S C ∧ fs.lookup m = none ∧ tk σ H1 fun zs H2 => sp C (gV [.ref a] zs) H2 Q (E σ)
theorem pe_mtKF {ks : List Str} {gV : List V → List V → List V} {kws : List Keyword} {tk : TA} {pl : Sem Bool} (c : MetKF X.prog X.w X.K X.mg X.base CX k S m ks gV sp) (hr : Room j X.A) (hk : k ≤ j) (hx : ∀ σ, PassesAt CX X σ (E σ)) (ho : PE X o ta) (hkw : PK X kws tk)
    (hall : (backToKw pos (keywordEach kws X.env)).all (·.1.isSome) = true := by rfl) (hks : (backToKw pos (keywordEach kws X.env)).filterMap (·.1) = ks := by rfl)
    (hpl : ((backTo pos (starEach [] X.env)).any (·.1) || (backToKw pos (keywordEach kws X.env)).any (·.1.isNone)) = false := by rfl)
    (form : eval (.Call (.Attribute o m apos) [] kws pos) X.env = (do
      let obj ← eval o X.env
      standAt apos.atName
      let (fn, firsts) ← holding [obj] (getMethod obj m pl)
      callWith pos fn firsts (backTo pos (starEach [] X.env)) (backToKw pos (keywordEach kws X.env))) := by rfl) :
    PE X (.Call (.Attribute o m apos) [] kws pos) (tMethKF S m sp gV E ta tk) := by
  refine ⟨fun pins s σ H Q I h => PySem.W.methodCall_KW (pl := pl) (thn (ho.run pins s σ H _ I h) fun u s1 got => ?_) form⟩
  obtain ⟨x, H1, I1, rx, a, C, dx, fs, ex, ea, hC, l, q⟩ := got
  subst ex
  obtain rfl : u = Value.ref a := rx
  obtain ⟨f, fd, ps, g, cl, me, F, kb⟩ := c.ex C hC
  refine getmeth_ok I1 ea cl me l ?_
  refine PySem.W.callWith_KW0 (h₀ := X.base) I1.ok.mod.kin me.kp hall (thn (hkw.run pos pins s1 σ H1 _ I1 q) fun ws s2 got2 => ?_) hpl
  obtain ⟨zs, H2, I2, rz, q2⟩ := got2
  refine ⟨I2.kIn, ?_⟩
  rw [hks]
  exact run_fnkS (us := [.ref a]) (vs := [.ref a]) F (hr.mono hk) kb (hx σ) I2 (.cons rfl .nil) rz q2
structure PropF (P : Program) (w : World) (K : PySem.W.Frag) (mg : Str → Option Value) (base : Heap) (k : Nat) (S : Addr → Prop) (f : Str) (sp : Addr → Sp) : Prop where
  ex : ∀ C, S C → PropR P w K mg base k C f (sp C)
def tPropF (S : Addr → Prop) (sp : Addr → Sp) (ta : TE) : TE := fun σ H Q => ta σ H fun x H1 => ∃ a C dx fs, x = .ref a ∧ H1 a = some (.ins C dx fs) ∧ S C ∧ sp C [.ref a] H1 Q (fun _ _ _ => False)
theorem pe_prF {f : Str} (c : PropF X.prog X.w X.K X.mg X.base k S f sp) (hr : Room j X.A) (hk : k + 1 ≤ j) (he : PE X e ta) (hab : attributeBase e f X.env (eval e X.env) = eval e X.env := by rfl) : PE X (.Attribute e f pos) (tPropF S sp ta) := by
  refine ⟨fun pins s σ H Q I h => ?_⟩
  refine attr_of hab (thn (he.run pins s σ H _ I h) fun u s1 got => ?_)
  obtain ⟨x, H1, I1, rx, a, C, dx, fs, ex, ea, hC, q⟩ := got
  subst ex
  obtain rfl : u = Value.ref a := rx
  obtain ⟨p, g, fd, ps, cl, pr, F, b⟩ := (c.ex C hC).ex
  exact getprop_ok I1 ea cl pr F (hr.mono hk) b .nil pass0 q
def rOwnF (S : Addr → Prop) (sp : Addr → Sp) (neg : Bool) : R2 := fun y x H Q => ∃ a C dx fs, x = .ref a ∧ H a = some (.ins C dx fs) ∧ S C ∧ sp C [.ref a, y] H (fun r H' => ∃ b, r = .bl b ∧ Q (.bl (if neg = true then !b else b)) H') (fun _ _ _ => False)
theorem op_ownInF (c : MetF X.prog X.w X.K X.mg X.base CX0 k S "__contains__" sp) (hr : Room j X.A) (hk : k ≤ j) : OpR X (compareOp .In) (rOwnF S sp false) := fun pins s σ H y x v u Q I ry rx h => by
  obtain ⟨a, C, dx, fs, e, ha, hC, q⟩ := h
  obtain ⟨f, fd, ps, cl, me, F, b⟩ := c.ex C hC
  exact op_ownIn (k := k) (C := C) (sp := sp C) ⟨f, fd, ps, [], cl, me, F, b, .nil⟩ hr hk pins s σ H y x v u Q I ry rx ⟨a, dx, fs, e, ha, q⟩
theorem op_ownNotInF (c : MetF X.prog X.w X.K X.mg X.base CX0 k S "__contains__" sp) (hr : Room j X.A) (hk : k ≤ j) : OpR X (compareOp .NotIn) (rOwnF S sp true) := fun pins s σ H y x v u Q I ry rx h => by
  obtain ⟨a, C, dx, fs, e, ha, hC, q⟩ := h
  obtain ⟨f, fd, ps, cl, me, F, b⟩ := c.ex C hC
  exact op_ownNotIn (k := k) (C := C) (sp := sp C) ⟨f, fd, ps, [], cl, me, F, b, .nil⟩ hr hk pins s σ H y x v u Q I ry rx ⟨a, dx, fs, e, ha, q⟩
/-- an own class of errors that may be raised with a text -/
structure OwnE (K : PySem.W.Frag) (mg : Str → Option Value) (x : Str) (C : Addr) : Prop where
  named : mg x = some (.ref C)
  shape : PySem.W.excIn K C [.type "ValueError", .type "Exception", .type "BaseException", .type "object"] "ValueError.__new__" = true
  kept : PySem.W.keepIn K (.ref C) = true
  under : PySem.W.subIn K (.ref C) (.type "BaseException") = some true
  typed : PySem.W.typeIn K (.ref C) = some (.type "type")
def tOwn (C : Addr) (W : WX) : TS := fun _ σ H => W (.ref C) none σ H
theorem ps_own {x : Str} {m : Str} {j : Nat} {p p2 pos pos2 : Pos} {C : Addr} {W : WX} (B : OwnE X.K X.mg x C) (hc : X.calm = true) (tk : Takes X W) (hg : Gl X x) (hdb : (x == ("__debug__" : Str)) = false := by decide) :
    PS X (.Raise (some (.Call (.Name x p) [.Constant (.str m) j p2] [] pos)) none pos2) (tOwn C W) :=
  ps_raise hc tk (pmk_own PySem.F.excBase_ValueError B.shape B.named B.kept (raises_own B.under B.typed) hg hdb)
end
section
variable {σ : L2.St} {H : Hp} {Q : VK} {S : Addr → Prop} {m : Str} {sp : Addr → Sp} {ta : TE} {t : TA} {a C dx : Addr} {fs : List (Str × V)} {E : L2.St → XK}
def MethFQ (S : Addr → Prop) (m : Str) (sp : Addr → Sp) (E : L2.St → XK) (t : TA) (σ : L2.St) (x : V) (H : Hp) (Q : VK) : Prop := ∃ a C dx fs, x = .ref a ∧ H a = some (.ins C dx fs) ∧ S C ∧ fs.lookup m = none ∧ t σ H fun vs H2 => sp C (.ref a :: vs) H2 Q (E σ)
theorem g_tmethF (q : ta σ H fun x H1 => MethFQ S m sp E t σ x H1 Q) : tMethF S m sp E ta t σ H Q := q
theorem g_methF (h : H a = some (.ins C dx fs)) (hC : S C) (l : fs.lookup m = none) (q : t σ H fun vs H2 => sp C (.ref a :: vs) H2 Q (E σ)) : MethFQ S m sp E t σ (.ref a) H Q := ⟨a, C, dx, fs, rfl, h, hC, l, q⟩
def MethKFQ (S : Addr → Prop) (m : Str) (sp : Addr → Sp) (gV : List V → List V → List V) (E : L2.St → XK) (t : TA) (σ : L2.St) (x : V) (H : Hp) (Q : VK) : Prop := ∃ a C dx fs, x = .ref a ∧ H a = some (.ins C dx fs) ∧ S C ∧ fs.lookup m = none ∧ t σ H fun zs H2 => sp C (gV [.ref a] zs) H2 Q (E σ)
theorem g_tmethKF {gV : List V → List V → List V} (q : ta σ H fun x H1 => MethKFQ S m sp gV E t σ x H1 Q) : tMethKF S m sp gV E ta t σ H Q := q
theorem g_methKF {gV : List V → List V → List V} (h : H a = some (.ins C dx fs)) (hC : S C) (l : fs.lookup m = none) (q : t σ H fun zs H2 => sp C (gV [.ref a] zs) H2 Q (E σ)) : MethKFQ S m sp gV E t σ (.ref a) H Q := ⟨a, C, dx, fs, rfl, h, hC, l, q⟩
def PropFQ (S : Addr → Prop) (sp : Addr → Sp) (x : V) (H : Hp) (Q : VK) : Prop := ∃ a C dx fs, x = .ref a ∧ H a = some (.ins C dx fs) ∧ S C ∧ sp C [.ref a] H Q (fun _ _ _ => False)
theorem g_tpropF (q : ta σ H fun x H1 => PropFQ S sp x H1 Q) : tPropF S sp ta σ H Q := q
theorem g_propF (h : H a = some (.ins C dx fs)) (hC : S C) (q : sp C [.ref a] H Q (fun _ _ _ => False)) : PropFQ S sp (.ref a) H Q := ⟨a, C, dx, fs, rfl, h, hC, q⟩
theorem g_ownF {y : V} (h : H a = some (.ins C dx fs)) (hC : S C) (q : sp C [.ref a, y] H (fun r H' => ∃ b, r = .bl b ∧ Q (.bl (if false = true then !b else b)) H') (fun _ _ _ => False)) : rOwnF S sp false y (.ref a) H Q := ⟨a, C, dx, fs, rfl, h, hC, q⟩
theorem g_ownE {C : Addr} {W : WX} {D : Ends} (q : W (.ref C) none σ H) : tOwn C W D σ H := q
end
end Gx

/-! What an object is to a line: a point of its kind or not; lines in the heap; what a range meets -/
namespace Gx
open PySem L2 PySem.Spec PyProof.Rows
theorem g_iteNF {c : Prop} [Decidable c] {A B : Prop} (h : c) (q : B) : if (!decide c) = true then A else B := g_ifF (by rw [decide_eq_true h]; rfl) q
theorem g_iteNT {c : Prop} [Decidable c] {A B : Prop} (h : ¬ c) (q : A) : if (!decide c) = true then A else B := g_ifT (by rw [decide_eq_false h]; rfl) q
section
variable {K : PySem.W.Frag} {H H' : Hp}
theorem tyO_same {x : V} {t : Value} (s : Same H H') (h : TyOf K H x t) : TyOf K H' x t := by
  cases h with
  | non => exact .non
  | bl b => exact .bl b
  | int i => exact .int i
  | str a => exact .str a
  | flt a => exact .flt a
  | lst e => exact .lst (s _ _ e)
  | frz e => exact .frz (s _ _ e)
  | tup e => exact .tup (s _ _ e)
  | dK e => exact .dK (s _ _ e)
  | dT e => exact .dT (s _ _ e)
  | ins e c a b d m => exact .ins (s _ _ e) c a b d m
theorem tyX_same {x : V} {t : Value} (s : Same H H') (h : TyX K H x t) : TyX K H' x t := by
  cases h with
  | base h => exact .base (tyO_same s h)
  | byt b => exact .byt b
  | set e => exact .set (s _ _ e)
  | kList e c => exact .kList e c
  | kTuple e c => exact .kTuple e c
  | kDict e c => exact .kDict e c
  | fTuple e => exact .fTuple (s _ _ e)
  | fDict e => exact .fDict (s _ _ e)
theorem whole_same {x : V} {b : Bool} (s : Same H H') (h : WholeV K H x b) : WholeV K H' x b := by
  cases h with
  | int i => exact .int i
  | bl c => exact .bl c
  | other ty no => exact .other (tyX_same s ty) no
theorem sqT_ty {a : Addr} {xs : List V} (h : SqT K H a xs) : TyX K H (.ref a) (.type "tuple") := by
  rcases h with h | ⟨o, its, n, e, c, _⟩
  · rcases h with h | ⟨o, h⟩
    · exact .base (.tup h)
    · exact .fTuple h
  · exact .kTuple e c
/-- is it a tuple of two whole numbers -/
inductive PairV (K : PySem.W.Frag) (H : Hp) : V → Bool → Prop
  | other {x : V} {t : Value} (ty : TyX K H x t) (no : PySem.W.kitOne K t (.type "tuple") = some false) : PairV K H x false
  | tup {r : Addr} {xs : List V} {bs : List Bool} (e : SqT K H r xs) (l : xs.length = bs.length) (w : ∀ (i : Nat) x b, xs[i]? = some x → bs[i]? = some b → WholeV K H x b) : PairV K H (.ref r) (decide (xs.length = 2) && bs.all id)
theorem pair_same {x : V} {b : Bool} (s : Same H H') (h : PairV K H x b) : PairV K H' x b := by
  cases h with
  | other ty no => exact .other (tyX_same s ty) no
  | tup e l w => exact .tup (same_sqT s e) l fun i x b h1 h2 => whole_same s (w i x b h1 h2)
end
/-- a kind of points, as lines know it -/
class Ln (α : Type) extends Kd α where
  pv : PySem.W.Frag → Hp → V → Bool → Prop
  pv_same : ∀ {K H H' x b}, Same H H' → pv K H x b → pv K H' x b
  pv_ok : ∀ {K H x} {a : α}, Dp K H x (D a) → pv K H x true
  ahead : α → Int → Bool
  beyond : α → Int → Bool
  gap : Option α → Option α → Int → Int → Bool
def gapV (l r : Option Pr) (lo hi : Int) : Bool := match l, r with
  | some a, some b => if a.1 = b.1 then decide (lo ≤ a.1 ∧ a.1 ≤ hi) && decide (1 < b.2 - a.2) else decide (a.1 ≤ hi) && decide (lo ≤ b.1)
  | none, some b => decide (lo ≤ b.1)
  | some a, none => decide (a.1 ≤ hi)
  | none, none => true
instance : Ln Int where
  pv := WholeV
  pv_same := whole_same
  pv_ok h := by
    cases h
    exact .int _
  ahead a lo := decide (a < lo)
  beyond a hi := decide (hi < a)
  gap := gapIn
instance : Ln Pr where
  pv := PairV
  pv_same := pair_same
  pv_ok h := by
    obtain ⟨r, rfl, e⟩ := pr_at h
    exact .tup (bs := [true, true]) e rfl fun i x b h1 h2 => by
      match i, h1, h2 with
      | 0, h1, h2 => cases (Option.some.inj h1); cases (Option.some.inj h2); exact .int _
      | 1, h1, h2 => cases (Option.some.inj h1); cases (Option.some.inj h2); exact .int _
      | n + 2, h1, h2 => simp at h1
  ahead a lo := decide (a.1 < lo)
  beyond a hi := decide (hi < a.1)
  gap := gapV
section
variable {α : Type} [Ln α] {K : PySem.W.Frag} {H H' : Hp}
open Kd
/-- a line of the class at C with these points -/
def LnAt (K : PySem.W.Frag) (C : Addr) (H : Hp) (p : Addr) (as : List α) : Prop := ∃ dx q, H p = some (.ins C dx (lf q)) ∧ PtsL K H q as
theorem LnAt.same {C p : Addr} {as : List α} (h : LnAt K C H p as) (s : Same H H') : LnAt K C H' p as := by
  obtain ⟨dx, q, e, l⟩ := h
  exact ⟨dx, q, s _ _ e, l.same s⟩
/-- .. of one of some classes -/
def LnS (K : PySem.W.Frag) (S : Addr → Prop) (H : Hp) (p : Addr) (as : List α) : Prop := ∃ C, S C ∧ LnAt K C H p as
theorem LnS.same {S : Addr → Prop} {p : Addr} {as : List α} (h : LnS K S H p as) (s : Same H H') : LnS K S H' p as := by
  obtain ⟨C, hC, l⟩ := h
  exact ⟨C, hC, l.same s⟩
/-- None or a point -/
def oK : Option α → PyData
  | none => .none
  | some a => D a
theorem nol_o (o : Option α) : noLst (oK o) = true := by
  cases o with
  | none => simp [oK, noLst]
  | some a => exact nol a
def gapK (l r : Option α) : PyData := .tuple [.str "gap", oK l, oK r]
def pointK (y : α) : PyData := .tuple [.str "point", D y]
def inK (y : α) (lo hi : Int) : Bool := !Ln.ahead y lo && !Ln.beyond y hi
def ptStepK (lo hi : Int) : Option α → List PyData
  | none => []
  | some y => if inK y lo hi = true then [pointK y] else []
def stepK (lo hi : Int) (l r : Option α) : List PyData := (if Ln.gap l r lo hi = true then [gapK l r] else []) ++ ptStepK lo hi r
def foldK (lo hi : Int) (s : Option α × List PyData) (r : Option α) : Option α × List PyData := (r, s.2 ++ stepK lo hi s.1 r)
def rightsK (as : List α) : List (Option α) := as.map some ++ [none]
def cellsK (as : List α) (lo hi : Int) : List PyData := ((rightsK as).foldl (foldK lo hi) (none, [])).2
theorem rightsK_len (as : List α) : (rightsK as).length = as.length + 1 := by simp [rightsK]
theorem nol_gapK (l r : Option α) : noLst (gapK l r) = true := by
  simp [gapK, noLst, noLstAll, nol_o]
theorem nol_pointK (y : α) : noLst (pointK y) = true := by
  simp [pointK, noLst, noLstAll, nol]
theorem stepK_len (lo hi : Int) (l r : Option α) : (stepK lo hi l r).length ≤ 2 := by
  unfold stepK
  rw [List.length_append]
  have h1 : (if Ln.gap l r lo hi = true then [gapK l r] else []).length ≤ 1 := by
    split
    · exact Nat.le_refl 1
    · exact Nat.zero_le 1
  have h2 : (ptStepK lo hi r).length ≤ 1 := by
    cases r with
    | none => exact Nat.zero_le 1
    | some y =>
      show (if inK y lo hi = true then [pointK y] else []).length ≤ 1
      split
      · exact Nat.le_refl 1
      · exact Nat.zero_le 1
  omega
theorem stepK_all (P : PyData → Prop) (lo hi : Int) (l r : Option α) (h1 : P (gapK l r)) (h2 : ∀ y, r = some y → P (pointK y)) : ∀ d ∈ stepK lo hi l r, P d := by
  intro d hd
  unfold stepK at hd
  rcases List.mem_append.mp hd with h | h
  · by_cases c : Ln.gap l r lo hi = true
    · rw [if_pos c] at h
      rw [List.mem_singleton.mp h]
      exact h1
    · rw [if_neg c] at h
      cases h
  · cases r with
    | none => cases h
    | some y =>
      have h : d ∈ (if inK y lo hi = true then [pointK y] else []) := h
      by_cases c : inK y lo hi = true
      · rw [if_pos c] at h
        rw [List.mem_singleton.mp h]
        exact h2 y rfl
      · rw [if_neg c] at h
        cases h
theorem cellsK_keep (P : PyData → Prop) (lo hi : Int) : ∀ (rs : List (Option α)) (s : Option α × List PyData), (∀ (l r : Option α), ∀ d ∈ stepK lo hi l r, P d) → (∀ d ∈ s.2, P d) → ∀ d ∈ (rs.foldl (foldK lo hi) s).2, P d
  | [], s, _, h2 => h2
  | r :: rs, s, h1, h2 => cellsK_keep P lo hi rs (foldK lo hi s r) h1 fun d hd => by
    rcases List.mem_append.mp hd with h | h
    · exact h2 d h
    · exact h1 _ _ d h
theorem nol_cellsK (lo hi : Int) (rs : List (Option α)) : noLstAll (rs.foldl (foldK lo hi) (none, [])).2 = true :=
  noLstAll_iff.mpr (cellsK_keep (fun d => noLst d = true) lo hi rs _ (fun l r => stepK_all _ lo hi l r (nol_gapK l r) fun y _ => nol_pointK y) (by intro d hd; cases hd))
/-- the values of such options in the heap -/
theorem dpO_at {rs : List (Option α)} {xs : List V} {i : Nat} {x : V} (d : DpAll K H xs (rs.map oK)) (h : xs[i]? = some x) : ∃ r, rs[i]? = some r ∧ Dp K H x (oK r) := by
  obtain ⟨d', h1, h2⟩ := dpAll_get d h
  rw [List.getElem?_map] at h1
  cases e : rs[i]? with
  | none => rw [e] at h1; cases h1
  | some a =>
    rw [e] at h1
    have : oK a = d' := Option.some.inj h1
    rw [← this] at h2
    exact ⟨a, rfl, h2⟩
theorem dpO_rights {xs : List V} {as : List α} (d : DpAll K H xs (as.map D)) : DpAll K H (xs ++ [V.non]) ((rightsK as).map oK) := by
  have e : (rightsK as).map oK = as.map D ++ [PyData.none] := by
    unfold rightsK
    rw [List.map_append, List.map_map]
    rfl
  rw [e]
  exact dpAll_append d (.cons .non .nil)
theorem dp_non {x : V} {o : Option α} (h : Dp K H x (oK o)) : decide (x = V.non) = o.isNone := by
  cases o with
  | none =>
    have h : Dp K H x .none := h
    cases h
    rfl
  | some a =>
    have h : Dp K H x (D a) := h
    refine decide_eq_false fun z => ?_
    subst z
    have b := nn a
    generalize D a = d at h b
    cases h
    exact b rfl
end
section
variable {K : PySem.W.Frag} {H H' : Hp}
/-- an object that is no list and no tuple is changed: data stays -/
def Odd (o : HO) : Prop := (∀ xs, o ≠ .lst xs) ∧ (∀ xs, o ≠ .tup xs) ∧ ∀ ob u, o ≠ .frz ob u
theorem odd_ins {C dx : Addr} {fs : List (Str × V)} : Odd (.ins C dx fs) := ⟨(by intro xs z; cases z), (by intro xs z; cases z), (by intro ob u z; cases z)⟩
theorem sqL_odd {p a : Addr} {o : HO} {xs : List V} (hp : H p = some o) (no : Odd o) (b : But p H H') (h : SqL K H a xs) : SqL K H' a xs := by
  rcases h with (h | ⟨ob, h⟩) | h
  · exact .inl (.inl (b a _ (ne_of h hp (fun z => no.1 _ z.symm)) h))
  · exact .inl (.inr ⟨ob, b a _ (ne_of h hp (fun z => no.2.2 _ _ z.symm)) h⟩)
  · exact .inr h
theorem sqT_odd {p a : Addr} {o : HO} {xs : List V} (hp : H p = some o) (no : Odd o) (b : But p H H') (h : SqT K H a xs) : SqT K H' a xs := by
  rcases h with (h | ⟨ob, h⟩) | h
  · exact .inl (.inl (b a _ (ne_of h hp (fun z => no.2.1 _ z.symm)) h))
  · exact .inl (.inr ⟨ob, b a _ (ne_of h hp (fun z => no.2.2 _ _ z.symm)) h⟩)
  · exact .inr h
mutual
theorem dp_odd {p : Addr} {o : HO} (hp : H p = some o) (no : Odd o) (b : But p H H') : ∀ (d : PyData) (v : V), Dp K H v d → Dp K H' v d
  | .none, _, h => by cases h; exact .non
  | .bool c, _, h => by cases h; exact .bl c
  | .int i, _, h => by cases h; exact .int i
  | .str x, _, h => by cases h; exact .str x
  | .list ds, _, h => by
    cases h with
    | lst a c => exact .lst (sqL_odd hp no b a) (dp_oddAll hp no b ds _ c)
  | .dict _, _, h => by cases h
  | .tuple ds, _, h => by
    cases h with
    | tup a c => exact .tup (sqT_odd hp no b a) (dp_oddAll hp no b ds _ c)
theorem dp_oddAll {p : Addr} {o : HO} (hp : H p = some o) (no : Odd o) (b : But p H H') : ∀ (ds : List PyData) (vs : List V), DpAll K H vs ds → DpAll K H' vs ds
  | [], _, h => by cases h; exact .nil
  | d :: ds, _, h => by
    cases h with
    | cons a c => exact .cons (dp_odd hp no b d _ a) (dp_oddAll hp no b ds _ c)
end
end
end Gx

namespace Gk
open PySem L2 Gx
open C8 (Cal Met Mak pe_c pe_mt pe_mt0 pe_mk pe_gc)
local macro_rules | `(tactic| walk_at "g") => `(tactic| (first
  | with_reducible refine g_seq ?_ | with_reducible refine g_asg ?_ | ((with_reducible show tVar _ _ _ _); refine g_var rfl ?_) | with_reducible refine g_c ?_ | with_reducible refine g_name ?_ | with_reducible refine g_op ?_ | with_reducible refine g_I0 ?_
  | with_reducible refine g_cons ?_ | with_reducible refine g_nil ?_ | with_reducible refine g_exbl ?_ | with_reducible refine g_exint ?_ | with_reducible refine g_test ?_ | with_reducible refine g_B ?_ | with_reducible refine g_ifS ?_ | with_reducible refine g_ret ?_ | with_reducible refine g_retN ?_ | with_reducible refine g_next ?_
  | with_reducible refine g_CB ?_ | with_reducible refine g_sub ?_ | with_reducible refine g_drop ?_ | with_reducible refine g_not ?_ | with_reducible refine g_and ?_ | with_reducible refine g_or ?_ | with_reducible refine g_andV ?_ | with_reducible refine g_orV ?_ | with_reducible refine g_notV ?_ | with_reducible refine g_ifE ?_ | with_reducible refine g_isN ?_
  | with_reducible refine g_par ?_ | with_reducible refine g_expar ?_ | with_reducible refine g_chain ?_ | with_reducible refine g_un ?_ | with_reducible refine g_U ?_ | with_reducible refine g_bits ?_ | ((with_reducible show rEq _ _ _ _); refine g_eq rfl ?_) | ((with_reducible show rNe _ _ _ _); refine g_ne rfl ?_)
  | with_reducible refine g_for ?_ | with_reducible refine g_iRng1 ?_ | with_reducible refine g_iRng2 ?_ | with_reducible refine g_iList ?_ | with_reducible refine g_iTup ?_
  | ((with_reducible refine g_Imul ?hc ?_); (case hc => (first | (refine Or.inl ⟨?_, ?_⟩ <;> first | decide | omega) | (refine Or.inr ⟨?_, ?_⟩ <;> first | decide | omega))))
  | ((with_reducible refine g_Idiv ?hc ?_); (case hc => (first | (exact ⟨by decide, by decide⟩) | assumption)))
  | ((with_reducible refine g_Imod ?hc ?_); (case hc => (first | assumption | omega | decide)))
  | ((with_reducible refine g_exR1 ?hlo ?hhi ?_); (case hlo => omega); (case hhi => omega))
  | ((with_reducible refine g_exR2 ?hb ?_); (case hb => omega))
  | with_reducible refine g_lst ?_ | with_reducible refine g_tup ?_ | with_reducible refine g_call ?_ | with_reducible refine g_BM ?_ | with_reducible refine g_BM0 ?_
  | with_reducible refine g_intB ?_ | with_reducible refine g_lc ?_ | with_reducible refine g_yes ?_ | with_reducible refine g_iZip ?_ | with_reducible refine g_sl ?_ | with_reducible refine g_noP ?_ | with_reducible refine g_part ?_ | with_reducible refine g_gcons ?_ | with_reducible refine g_gnil ?_
  | with_reducible refine g_tfld ?_ | with_reducible refine g_tmeth ?_ | with_reducible refine g_tmake ?_ | with_reducible refine g_sfld ?_ | with_reducible refine g_tprop ?_ | with_reducible refine g_tstar ?_ | with_reducible refine g_tmethK ?_ | with_reducible refine g_isN1 ?_ | with_reducible refine g_notN1 ?_))
local macro_rules | `(tactic| walk_at "gs1") => `(tactic| (first
  | with_reducible refine g_seq ?_ | with_reducible refine g_asg ?_ | ((with_reducible show tVar _ _ _ _); refine g_var rfl ?_) | with_reducible refine g_c ?_ | with_reducible refine g_name ?_ | with_reducible refine g_op ?_ | with_reducible refine g_I0 ?_
  | with_reducible refine g_cons ?_ | with_reducible refine g_nil ?_ | with_reducible refine g_exbl ?_ | with_reducible refine g_exint ?_ | with_reducible refine g_test ?_ | with_reducible refine g_B ?_ | with_reducible refine g_ifS ?_ | with_reducible refine g_retN ?_ | with_reducible refine g_next ?_
  | with_reducible refine g_CB ?_ | with_reducible refine g_sub ?_ | with_reducible refine g_drop ?_ | with_reducible refine g_not ?_ | with_reducible refine g_and ?_ | with_reducible refine g_or ?_ | with_reducible refine g_andV ?_ | with_reducible refine g_orV ?_ | with_reducible refine g_notV ?_ | with_reducible refine g_ifE ?_ | with_reducible refine g_isN ?_
  | with_reducible refine g_par ?_ | with_reducible refine g_expar ?_ | with_reducible refine g_chain ?_ | with_reducible refine g_un ?_ | with_reducible refine g_U ?_ | with_reducible refine g_bits ?_ | ((with_reducible show rEq _ _ _ _); refine g_eq rfl ?_) | ((with_reducible show rNe _ _ _ _); refine g_ne rfl ?_)
  | with_reducible refine g_for ?_ | with_reducible refine g_iRng1 ?_ | with_reducible refine g_iRng2 ?_ | with_reducible refine g_iList ?_ | with_reducible refine g_iTup ?_
  | ((with_reducible refine g_Imul ?hc ?_); (case hc => (first | (refine Or.inl ⟨?_, ?_⟩ <;> first | decide | omega) | (refine Or.inr ⟨?_, ?_⟩ <;> first | decide | omega))))
  | ((with_reducible refine g_Idiv ?hc ?_); (case hc => (first | (exact ⟨by decide, by decide⟩) | assumption)))
  | ((with_reducible refine g_Imod ?hc ?_); (case hc => (first | assumption | omega | decide)))
  | ((with_reducible refine g_exR1 ?hlo ?hhi ?_); (case hlo => omega); (case hhi => omega))
  | ((with_reducible refine g_exR2 ?hb ?_); (case hb => omega))
  | with_reducible refine g_lst ?_ | with_reducible refine g_tup ?_ | with_reducible refine g_call ?_ | with_reducible refine g_BM ?_ | with_reducible refine g_BM0 ?_
  | with_reducible refine g_intB ?_ | with_reducible refine g_lc ?_ | with_reducible refine g_yes ?_ | with_reducible refine g_iZip ?_ | with_reducible refine g_sl ?_ | with_reducible refine g_noP ?_ | with_reducible refine g_part ?_ | with_reducible refine g_gcons ?_ | with_reducible refine g_gnil ?_
  | with_reducible refine g_tfld ?_ | with_reducible refine g_tmeth ?_ | with_reducible refine g_tmake ?_ | with_reducible refine g_sfld ?_ | with_reducible refine g_tprop ?_ | with_reducible refine g_tstar ?_ | with_reducible refine g_tmethK ?_ | with_reducible refine g_isN1 ?_ | with_reducible refine g_notN1 ?_))
local macro_rules | `(tactic| walk_at "gx1") => `(tactic| (first
  | with_reducible refine g_seq ?_ | with_reducible refine g_asg ?_ | ((with_reducible show tVar _ _ _ _); refine g_var rfl ?_) | with_reducible refine g_c ?_ | with_reducible refine g_name ?_ | with_reducible refine g_op ?_ | with_reducible refine g_I0 ?_
  | with_reducible refine g_cons ?_ | with_reducible refine g_nil ?_ | with_reducible refine g_exbl ?_ | with_reducible refine g_exint ?_ | with_reducible refine g_test ?_ | with_reducible refine g_B ?_ | with_reducible refine g_ifS ?_ | with_reducible refine g_retN ?_ | with_reducible refine g_next ?_
  | with_reducible refine g_CB ?_ | with_reducible refine g_sub ?_ | with_reducible refine g_drop ?_ | with_reducible refine g_not ?_ | with_reducible refine g_and ?_ | with_reducible refine g_or ?_ | with_reducible refine g_andV ?_ | with_reducible refine g_orV ?_ | with_reducible refine g_notV ?_ | with_reducible refine g_ret ?_ | with_reducible refine g_isN ?_
  | with_reducible refine g_par ?_ | with_reducible refine g_expar ?_ | with_reducible refine g_chain ?_ | with_reducible refine g_un ?_ | with_reducible refine g_U ?_ | with_reducible refine g_bits ?_ | ((with_reducible show rEq _ _ _ _); refine g_eq rfl ?_) | ((with_reducible show rNe _ _ _ _); refine g_ne rfl ?_)
  | with_reducible refine g_for ?_ | with_reducible refine g_iRng1 ?_ | with_reducible refine g_iRng2 ?_ | with_reducible refine g_iList ?_ | with_reducible refine g_iTup ?_
  | ((with_reducible refine g_Imul ?hc ?_); (case hc => (first | (refine Or.inl ⟨?_, ?_⟩ <;> first | decide | omega) | (refine Or.inr ⟨?_, ?_⟩ <;> first | decide | omega))))
  | ((with_reducible refine g_Idiv ?hc ?_); (case hc => (first | (exact ⟨by decide, by decide⟩) | assumption)))
  | ((with_reducible refine g_Imod ?hc ?_); (case hc => (first | assumption | omega | decide)))
  | ((with_reducible refine g_exR1 ?hlo ?hhi ?_); (case hlo => omega); (case hhi => omega))
  | ((with_reducible refine g_exR2 ?hb ?_); (case hb => omega))
  | with_reducible refine g_lst ?_ | with_reducible refine g_tup ?_ | with_reducible refine g_call ?_ | with_reducible refine g_BM ?_ | with_reducible refine g_BM0 ?_
  | with_reducible refine g_intB ?_ | with_reducible refine g_lc ?_ | with_reducible refine g_yes ?_ | with_reducible refine g_iZip ?_ | with_reducible refine g_sl ?_ | with_reducible refine g_noP ?_ | with_reducible refine g_part ?_ | with_reducible refine g_gcons ?_ | with_reducible refine g_gnil ?_
  | with_reducible refine g_tfld ?_ | with_reducible refine g_tmeth ?_ | with_reducible refine g_tmake ?_ | with_reducible refine g_sfld ?_ | with_reducible refine g_tprop ?_ | with_reducible refine g_tstar ?_ | with_reducible refine g_tmethK ?_ | with_reducible refine g_isN1 ?_ | with_reducible refine g_notN1 ?_))
local macro_rules | `(tactic| walk_at "hp") => `(tactic| (first | assumption | exact upd_same | (refine same_get (by assumption) ?_; walk_at "hp")))
local macro_rules | `(tactic| walk_at "sm") => `(tactic| (first | assumption | exact Same.refl _ | (refine Same.trans ?ha (by assumption); walk_at "sm")))
local macro_rules | `(tactic| walk_at "nn") => `(tactic| (first | assumption | (refine same_free (by assumption) ?_; walk_at "nn")))
local macro_rules | `(tactic| walk_at "sb") => `(tactic| (first | decide | (refine small_bits ?_ ?_ <;> omega)))
local macro_rules | `(tactic| walk_at "ln") => `(tactic| (simp only [List.length_cons, List.length_nil]; omega))
local macro_rules | `(tactic| walk_at "gg") => `(tactic| (repeat walk_at "g"))
local macro_rules | `(tactic| walk_at "gs") => `(tactic| (repeat walk_at "gs1"))
local macro_rules | `(tactic| walk_at "gx") => `(tactic| (repeat walk_at "gx1"))

def top (i : Nat) : Stmt := PySem.Challenge.pw_gapreach_k01_lines_recognized.main.body.getD i (.Pass ⟨0, 0, 0, 0⟩)
section
variable {P : Program} {w : World} {K : PySem.W.Frag} {mg : Str → Option Value} {base : Heap} {X : Cx}
abbrev s_dip : Stmt := top 13
abbrev N_dip : List Str := ["_law_flow_here", "_law_many", "_law_digit", "_law_found", "_law_turn", "_law_mixed"]
theorem sc_dip : FnScope N_dip ["_law_flow_here", "_law_many"] (defScope s_dip) := ⟨rfl, rfl, rfl, by decide +kernel, rfl, by decide +kernel, by decide +kernel⟩

theorem ok_dip {f : Addr} {fd : FuncData} (D : Dn K mg "_law_dip" s_dip ["_law_flow_here", "_law_many"] f fd) (T : Bt mg) : Cal P w K mg base 1 "_law_dip" spDip [] := by
  refine cal_of D (dip_view (D.fn.ok sc_dip (fun vs H Q E h => ?_) (fun cdv A outer s H vs Q E hr h => ?_)))
  · obtain ⟨f, x, y, z, m, rfl, _⟩ := h
    rfl
  · obtain ⟨f, x, y, z, m, rfl, hf, hx, hm, hb, k⟩ := h
    refine ⟨_, (pss_cons (ps_if (pt_cmpR op_gt (pe_ix ix_list (pv 0) pe_int (fun _ _ => rfl)) pe_int (nomark _)) (pss_cons (ps_set (i := 2) sc_dip.nd rfl (Or.inl rfl) (pe_op op_mod (pe_ix ix_list (pv 0) pe_int (fun _ _ => rfl)) (pv 1)))
    (pss_cons (ps_asg (pe_op op_fdivW (pe_ix ix_list (pv 0) pe_int (fun _ _ => rfl)) (pv 1)) (pg_sub (pv 0) pe_int set_list))
    (pss_one (ps_ret (pv 2))))) pss_nil)
    (pss_cons (ps_set (i := 3) sc_dip.nd rfl (Or.inl rfl) pe_int)
    (pss_cons (ps_for PassesOwn.never rfl (pi_range1 (by rfl) T.n_range (pa_cons (pe_op op_add pe_int (pe_op op_fdivW (pe_bits (pv 1)) pe_int)) pa_nil)) (pg_name (i := 4) sc_dip.nd rfl (Or.inl rfl)) (pss_cons (ps_asg (pe_op op_add (pe_ix ix_list (pv 0) pe_int (fun _ _ => rfl)) pe_int) (pg_sub (pv 0) pe_int set_list))
    (pss_cons (ps_set (i := 5) sc_dip.nd rfl (Or.inl rfl) (pe_op op_mod (pe_op op_add (pe_ix ix_list (pv 0) pe_int (fun _ _ => rfl)) (pe_op op_mul pe_int (pe_ix ix_list (pv 0) pe_int (fun _ _ => rfl)))) pe_int))
    (pss_cons (ps_set (i := 5) sc_dip.nd rfl (Or.inl rfl) (pe_op op_mod (pe_op op_add (pe_op op_add (pe_op op_mul (pv 5) (pv 5)) (pe_op op_mul (pe_op op_mul pe_int (pe_ix ix_list (pv 0) pe_int (fun _ _ => rfl))) (pv 5))) pe_int) pe_int))
    (pss_cons (ps_set (i := 5) sc_dip.nd rfl (Or.inl rfl) (pe_op op_mod (pe_op op_add (pe_op op_add (pe_op op_pow (pv 5) pe_int) (pe_ix ix_list (pv 0) pe_int (fun _ _ => rfl))) (pe_op op_mul pe_int (pe_ix ix_list (pv 0) pe_int (fun _ _ => rfl)))) pe_int))
    (pss_one (ps_set (i := 3) sc_dip.nd rfl (Or.inl rfl) (pe_op op_add (pe_op op_mul (pv 3) (pe_op op_pow pe_int pe_int)) (pe_op op_fdivW (pv 5) pe_int)))))))))
    (pss_one (ps_ret (pe_op op_mod (pv 3) (pv 1))))))), ?_⟩
    have p1 : (0 : Int) < 2305843009213693951 := by decide
    repeat walk_at "g"
    refine g_ixL (SqL.of hf) rfl ?_
    repeat walk_at "g"
    refine g_ite (fun c => ?_) (fun c => ?_)
    · repeat walk_at "g"
      refine g_ixL (SqL.of hf) rfl ?_
      repeat walk_at "g"
      refine g_ixL (SqL.of hf) rfl ?_
      repeat walk_at "g"
      refine g_Idiv (wide_div hm hb (by decide) (by decide)) ?_
      repeat walk_at "g"
      refine g_setL hf rfl ?_
      repeat walk_at "g"
      exact k _ _ _ _ (Int.emod_nonneg _ (by omega)) (Int.emod_lt_of_pos _ hm) (Int.ediv_nonneg hx (by omega))
    · repeat walk_at "g"
      have hbits := PyProof.Rows.intBits_le hb
      repeat walk_at "g"
      refine fw_range (fun i σ H' => ∃ (fo a b c : Int) (v4 v5 : Option V), σ = [some (.ref f), some (.int m), none, some (.int fo), v4, v5] ∧ H' = upd H f (three a b c) ∧ 0 ≤ a)
        ⟨0, x, y, z, none, none, rfl, ?_, hx⟩ ?_ ?_
      · funext b
        unfold upd
        split
        · rename_i e
          rw [e, hf]
        · rfl
      · rintro i σ H' hi ⟨fo, a, b, c, v4, v5, rfl, rfl, ha⟩
        repeat (first | (refine g_mod p1 fun r hr0 hr1 => ?_) | (refine g_pow3 ⟨by decide, by decide, by omega⟩ ?_) | walk_at "g" | refine g_ixL (SqL.of upd_same) rfl ?_ | refine g_setL upd_same rfl ?_)
        exact ⟨_, _, _, _, _, _, rfl, upd_upd, ha⟩
      · rintro σ H' ⟨fo, a, b, c, v4, v5, rfl, rfl, ha⟩
        repeat walk_at "g"
        exact k _ _ _ _ (Int.emod_nonneg _ (by omega)) (Int.emod_lt_of_pos _ hm) ha
end
end Gk

namespace Gk
open PySem L2 Gx
open C8 (Cal Met Mak pe_c pe_mt pe_mt0 pe_mk pe_gc)
local macro_rules | `(tactic| walk_at "g") => `(tactic| (first
  | with_reducible refine g_seq ?_ | with_reducible refine g_asg ?_ | ((with_reducible show tVar _ _ _ _); refine g_var rfl ?_) | with_reducible refine g_c ?_ | with_reducible refine g_name ?_ | with_reducible refine g_op ?_ | with_reducible refine g_I0 ?_
  | with_reducible refine g_cons ?_ | with_reducible refine g_nil ?_ | with_reducible refine g_exbl ?_ | with_reducible refine g_exint ?_ | with_reducible refine g_test ?_ | with_reducible refine g_B ?_ | with_reducible refine g_ifS ?_ | with_reducible refine g_ret ?_ | with_reducible refine g_retN ?_ | with_reducible refine g_next ?_
  | with_reducible refine g_CB ?_ | with_reducible refine g_sub ?_ | with_reducible refine g_drop ?_ | with_reducible refine g_not ?_ | with_reducible refine g_and ?_ | with_reducible refine g_or ?_ | with_reducible refine g_andV ?_ | with_reducible refine g_orV ?_ | with_reducible refine g_notV ?_ | with_reducible refine g_ifE ?_ | with_reducible refine g_isN ?_
  | with_reducible refine g_par ?_ | with_reducible refine g_expar ?_ | with_reducible refine g_chain ?_ | with_reducible refine g_un ?_ | with_reducible refine g_U ?_ | with_reducible refine g_bits ?_ | ((with_reducible show rEq _ _ _ _); refine g_eq rfl ?_) | ((with_reducible show rNe _ _ _ _); refine g_ne rfl ?_)
  | with_reducible refine g_for ?_ | with_reducible refine g_iRng1 ?_ | with_reducible refine g_iRng2 ?_ | with_reducible refine g_iList ?_ | with_reducible refine g_iTup ?_
  | ((with_reducible refine g_Imul ?hc ?_); (case hc => (first | (refine Or.inl ⟨?_, ?_⟩ <;> first | decide | omega) | (refine Or.inr ⟨?_, ?_⟩ <;> first | decide | omega))))
  | ((with_reducible refine g_Idiv ?hc ?_); (case hc => (first | (exact ⟨by decide, by decide⟩) | assumption)))
  | ((with_reducible refine g_Imod ?hc ?_); (case hc => (first | assumption | omega | decide)))
  | ((with_reducible refine g_exR1 ?hlo ?hhi ?_); (case hlo => omega); (case hhi => omega))
  | ((with_reducible refine g_exR2 ?hb ?_); (case hb => omega))
  | with_reducible refine g_lst ?_ | with_reducible refine g_tup ?_ | with_reducible refine g_call ?_ | with_reducible refine g_BM ?_ | with_reducible refine g_BM0 ?_
  | with_reducible refine g_intB ?_ | with_reducible refine g_lc ?_ | with_reducible refine g_yes ?_ | with_reducible refine g_iZip ?_ | with_reducible refine g_sl ?_ | with_reducible refine g_noP ?_ | with_reducible refine g_part ?_ | with_reducible refine g_gcons ?_ | with_reducible refine g_gnil ?_
  | with_reducible refine g_tfld ?_ | with_reducible refine g_tmeth ?_ | with_reducible refine g_tmake ?_ | with_reducible refine g_sfld ?_ | with_reducible refine g_tprop ?_ | with_reducible refine g_tstar ?_ | with_reducible refine g_tmethK ?_ | with_reducible refine g_isN1 ?_ | with_reducible refine g_notN1 ?_))
local macro_rules | `(tactic| walk_at "gs1") => `(tactic| (first
  | with_reducible refine g_seq ?_ | with_reducible refine g_asg ?_ | ((with_reducible show tVar _ _ _ _); refine g_var rfl ?_) | with_reducible refine g_c ?_ | with_reducible refine g_name ?_ | with_reducible refine g_op ?_ | with_reducible refine g_I0 ?_
  | with_reducible refine g_cons ?_ | with_reducible refine g_nil ?_ | with_reducible refine g_exbl ?_ | with_reducible refine g_exint ?_ | with_reducible refine g_test ?_ | with_reducible refine g_B ?_ | with_reducible refine g_ifS ?_ | with_reducible refine g_retN ?_ | with_reducible refine g_next ?_
  | with_reducible refine g_CB ?_ | with_reducible refine g_sub ?_ | with_reducible refine g_drop ?_ | with_reducible refine g_not ?_ | with_reducible refine g_and ?_ | with_reducible refine g_or ?_ | with_reducible refine g_andV ?_ | with_reducible refine g_orV ?_ | with_reducible refine g_notV ?_ | with_reducible refine g_ifE ?_ | with_reducible refine g_isN ?_
  | with_reducible refine g_par ?_ | with_reducible refine g_expar ?_ | with_reducible refine g_chain ?_ | with_reducible refine g_un ?_ | with_reducible refine g_U ?_ | with_reducible refine g_bits ?_ | ((with_reducible show rEq _ _ _ _); refine g_eq rfl ?_) | ((with_reducible show rNe _ _ _ _); refine g_ne rfl ?_)
  | with_reducible refine g_for ?_ | with_reducible refine g_iRng1 ?_ | with_reducible refine g_iRng2 ?_ | with_reducible refine g_iList ?_ | with_reducible refine g_iTup ?_
  | ((with_reducible refine g_Imul ?hc ?_); (case hc => (first | (refine Or.inl ⟨?_, ?_⟩ <;> first | decide | omega) | (refine Or.inr ⟨?_, ?_⟩ <;> first | decide | omega))))
  | ((with_reducible refine g_Idiv ?hc ?_); (case hc => (first | (exact ⟨by decide, by decide⟩) | assumption)))
  | ((with_reducible refine g_Imod ?hc ?_); (case hc => (first | assumption | omega | decide)))
  | ((with_reducible refine g_exR1 ?hlo ?hhi ?_); (case hlo => omega); (case hhi => omega))
  | ((with_reducible refine g_exR2 ?hb ?_); (case hb => omega))
  | with_reducible refine g_lst ?_ | with_reducible refine g_tup ?_ | with_reducible refine g_call ?_ | with_reducible refine g_BM ?_ | with_reducible refine g_BM0 ?_
  | with_reducible refine g_intB ?_ | with_reducible refine g_lc ?_ | with_reducible refine g_yes ?_ | with_reducible refine g_iZip ?_ | with_reducible refine g_sl ?_ | with_reducible refine g_noP ?_ | with_reducible refine g_part ?_ | with_reducible refine g_gcons ?_ | with_reducible refine g_gnil ?_
  | with_reducible refine g_tfld ?_ | with_reducible refine g_tmeth ?_ | with_reducible refine g_tmake ?_ | with_reducible refine g_sfld ?_ | with_reducible refine g_tprop ?_ | with_reducible refine g_tstar ?_ | with_reducible refine g_tmethK ?_ | with_reducible refine g_isN1 ?_ | with_reducible refine g_notN1 ?_))
local macro_rules | `(tactic| walk_at "gx1") => `(tactic| (first
  | with_reducible refine g_seq ?_ | with_reducible refine g_asg ?_ | ((with_reducible show tVar _ _ _ _); refine g_var rfl ?_) | with_reducible refine g_c ?_ | with_reducible refine g_name ?_ | with_reducible refine g_op ?_ | with_reducible refine g_I0 ?_
  | with_reducible refine g_cons ?_ | with_reducible refine g_nil ?_ | with_reducible refine g_exbl ?_ | with_reducible refine g_exint ?_ | with_reducible refine g_test ?_ | with_reducible refine g_B ?_ | with_reducible refine g_ifS ?_ | with_reducible refine g_retN ?_ | with_reducible refine g_next ?_
  | with_reducible refine g_CB ?_ | with_reducible refine g_sub ?_ | with_reducible refine g_drop ?_ | with_reducible refine g_not ?_ | with_reducible refine g_and ?_ | with_reducible refine g_or ?_ | with_reducible refine g_andV ?_ | with_reducible refine g_orV ?_ | with_reducible refine g_notV ?_ | with_reducible refine g_ret ?_ | with_reducible refine g_isN ?_
  | with_reducible refine g_par ?_ | with_reducible refine g_expar ?_ | with_reducible refine g_chain ?_ | with_reducible refine g_un ?_ | with_reducible refine g_U ?_ | with_reducible refine g_bits ?_ | ((with_reducible show rEq _ _ _ _); refine g_eq rfl ?_) | ((with_reducible show rNe _ _ _ _); refine g_ne rfl ?_)
  | with_reducible refine g_for ?_ | with_reducible refine g_iRng1 ?_ | with_reducible refine g_iRng2 ?_ | with_reducible refine g_iList ?_ | with_reducible refine g_iTup ?_
  | ((with_reducible refine g_Imul ?hc ?_); (case hc => (first | (refine Or.inl ⟨?_, ?_⟩ <;> first | decide | omega) | (refine Or.inr ⟨?_, ?_⟩ <;> first | decide | omega))))
  | ((with_reducible refine g_Idiv ?hc ?_); (case hc => (first | (exact ⟨by decide, by decide⟩) | assumption)))
  | ((with_reducible refine g_Imod ?hc ?_); (case hc => (first | assumption | omega | decide)))
  | ((with_reducible refine g_exR1 ?hlo ?hhi ?_); (case hlo => omega); (case hhi => omega))
  | ((with_reducible refine g_exR2 ?hb ?_); (case hb => omega))
  | with_reducible refine g_lst ?_ | with_reducible refine g_tup ?_ | with_reducible refine g_call ?_ | with_reducible refine g_BM ?_ | with_reducible refine g_BM0 ?_
  | with_reducible refine g_intB ?_ | with_reducible refine g_lc ?_ | with_reducible refine g_yes ?_ | with_reducible refine g_iZip ?_ | with_reducible refine g_sl ?_ | with_reducible refine g_noP ?_ | with_reducible refine g_part ?_ | with_reducible refine g_gcons ?_ | with_reducible refine g_gnil ?_
  | with_reducible refine g_tfld ?_ | with_reducible refine g_tmeth ?_ | with_reducible refine g_tmake ?_ | with_reducible refine g_sfld ?_ | with_reducible refine g_tprop ?_ | with_reducible refine g_tstar ?_ | with_reducible refine g_tmethK ?_ | with_reducible refine g_isN1 ?_ | with_reducible refine g_notN1 ?_))
local macro_rules | `(tactic| walk_at "hp") => `(tactic| (first | assumption | exact upd_same | (refine same_get (by assumption) ?_; walk_at "hp")))
local macro_rules | `(tactic| walk_at "sm") => `(tactic| (first | assumption | exact Same.refl _ | (refine Same.trans ?ha (by assumption); walk_at "sm")))
local macro_rules | `(tactic| walk_at "nn") => `(tactic| (first | assumption | (refine same_free (by assumption) ?_; walk_at "nn")))
local macro_rules | `(tactic| walk_at "sb") => `(tactic| (first | decide | (refine small_bits ?_ ?_ <;> omega)))
local macro_rules | `(tactic| walk_at "ln") => `(tactic| (simp only [List.length_cons, List.length_nil]; omega))
local macro_rules | `(tactic| walk_at "gg") => `(tactic| (repeat walk_at "g"))
local macro_rules | `(tactic| walk_at "gs") => `(tactic| (repeat walk_at "gs1"))
local macro_rules | `(tactic| walk_at "gx") => `(tactic| (repeat walk_at "gx1"))

local macro_rules | `(tactic| walk_at "g") => `(tactic| (first | with_reducible refine g_tpropF ?_ | with_reducible refine g_tmethF ?_ | with_reducible refine g_tmethKF ?_ | with_reducible refine g_ownE ?_))
section
variable {P : Program} {w : World} {K : PySem.W.Frag} {mg : Str → Option Value} {base : Heap} {X : Cx}
abbrev s_is_whole_number : Stmt := top 6
abbrev N_is_whole_number : List Str := ["thing"]
theorem sc_is_whole_number : FnScope N_is_whole_number ["thing"] (defScope s_is_whole_number) := ⟨rfl, rfl, rfl, by decide +kernel, rfl, by decide +kernel, by decide +kernel⟩

theorem ok_whole {f : Addr} {fd : FuncData} (D : Dn K mg "is_whole_number" s_is_whole_number ["thing"] f fd) (T : Bt mg) : Cal P w K mg base 1 "is_whole_number" (spWhole K) [] := by
  refine cal_of D (D.fn.ok sc_is_whole_number (fun vs H Q E h => ?_) (fun cdv A outer s H vs Q E hr h => ?_))
  · obtain ⟨x, b, rfl, _⟩ := h
    rfl
  · obtain ⟨x, b, rfl, hv, k⟩ := h
    refine ⟨_, (pss_one (ps_ret (pe_and (pe_callB call_isi (by rfl) T.n_isinstance bt_isinstance (pa_cons (pv 0) (pa_cons (pe_bltn (v := .ty "int") (by rfl) T.n_int bt_int rfl) pa_nil))) (pe_one (pe_not (pe_callB call_isi (by rfl) T.n_isinstance bt_isinstance (pa_cons (pv 0) (pa_cons (pe_bltn (v := .ty "bool") (by rfl) T.n_bool bt_bool rfl) pa_nil)))))))), ?_⟩
    walk_at "gg"
    cases hv with
    | int i =>
      refine g_isi (.ty "int") (.base (.int i)) (b := true) (kit_ty (by decide +kernel)) ?_
      walk_at "gg"
      refine g_ifT rfl ?_
      walk_at "gg"
      refine g_isi (.ty "bool") (.base (.int i)) (b := false) (kit_ty (by decide +kernel)) ?_
      walk_at "gg"
      exact k
    | bl c =>
      refine g_isi (.ty "int") (.base (.bl c)) (b := true) (kit_ty (by decide +kernel)) ?_
      walk_at "gg"
      refine g_ifT rfl ?_
      walk_at "gg"
      refine g_isi (.ty "bool") (.base (.bl c)) (b := true) (kit_ty (by decide +kernel)) ?_
      walk_at "gg"
      exact k
    | other ty no =>
      refine g_isi (.ty "int") ty no ?_
      walk_at "gg"
      refine g_ifF rfl ?_
      exact k
def spPt (α : Type) [Ln α] (K : PySem.W.Frag) : Sp := fun vs H Q _ => ∃ p x b, vs = [.ref p, x] ∧ Ln.pv α K H x b ∧ ∀ H', Same H H' → Q (.bl b) H'
def spAheadK (α : Type) [Ln α] (K : PySem.W.Frag) : Sp := fun vs H Q _ => ∃ (p : Addr) (x : V) (a : α) (lo : Int), vs = [.ref p, x, .int lo] ∧ Dp K H x (Kd.D a) ∧ Q (.bl (Ln.ahead a lo)) H
def spBeyondK (α : Type) [Ln α] (K : PySem.W.Frag) : Sp := fun vs H Q _ => ∃ (p : Addr) (x : V) (a : α) (hi : Int), vs = [.ref p, x, .int hi] ∧ Dp K H x (Kd.D a) ∧ Q (.bl (Ln.beyond a hi)) H
def spBetweenK (α : Type) [Ln α] (K : PySem.W.Frag) : Sp := fun vs H Q _ => ∃ (p : Addr) (x y : V) (l r : Option α) (lo hi : Int), vs = [.ref p, x, y, .int lo, .int hi] ∧ Dp K H x (oK l) ∧ Dp K H y (oK r) ∧ Q (.bl (Ln.gap l r lo hi)) H
abbrev s_Line_is_point : Stmt := inClass (top 8) 3
abbrev N_Line_is_point : List Str := ["self", "thing"]
theorem sc_Line_is_point : FnScope N_Line_is_point ["self", "thing"] (defScope s_Line_is_point) := ⟨rfl, rfl, rfl, by decide +kernel, rfl, by decide +kernel, by decide +kernel⟩

theorem ok_ptI {f : Addr} {fd : FuncData} (F : Fun K "is_point" "Line.is_point" s_Line_is_point f fd) (c_is_whole_number : Cal P w K mg base 1 "is_whole_number" (spWhole K) []) : FnOk P w K mg base L2.CX0 2 f fd ["self", "thing"] (spPt Int K) := by
  refine F.ok sc_Line_is_point (fun vs H Q E h => ?_) (fun cdv A outer s H vs Q E hr h => ?_)
  · obtain ⟨p, x, b, rfl, _⟩ := h
    rfl
  · obtain ⟨p, x, b, rfl, hv, k⟩ := h
    refine ⟨_, (pss_one (ps_ret (pe_c c_is_whole_number hr (by decide) (by rfl) (pa_cons (pv 1) pa_nil)))), ?_⟩
    walk_at "gg"
    exact ⟨x, b, rfl, hv, k _ (Same.refl _)⟩
abbrev s_ValueLine_is_point : Stmt := inClass (top 10) 1
abbrev N_ValueLine_is_point : List Str := ["self", "thing", "part"]
theorem sc_ValueLine_is_point : FnScope N_ValueLine_is_point ["self", "thing"] (defScope s_ValueLine_is_point) := ⟨rfl, rfl, rfl, by decide +kernel, rfl, by decide +kernel, by decide +kernel⟩

theorem ok_ptP {f : Addr} {fd : FuncData} (F : Fun K "is_point" "ValueLine.is_point" s_ValueLine_is_point f fd) (T : Bt mg) (c_is_whole_number : Cal P w K mg base 1 "is_whole_number" (spWhole K) []) : FnOk P w K mg base L2.CX0 2 f fd ["self", "thing"] (spPt Pr K) := by
  refine F.ok sc_ValueLine_is_point (fun vs H Q E h => ?_) (fun cdv A outer s H vs Q E hr h => ?_)
  · obtain ⟨p, x, b, rfl, _⟩ := h
    rfl
  · obtain ⟨p, x, b, rfl, hv, k⟩ := h
    refine ⟨_, (pss_one (ps_ret (pe_and (pe_callB call_isi (by rfl) T.n_isinstance bt_isinstance (pa_cons (pv 1) (pa_cons (pe_bltn (v := .ty "tuple") (by rfl) T.n_tuple bt_tuple rfl) pa_nil))) (pe_and (pe_cmpR op_eq (pe_callB cr_lenQ (by rfl) T.n_len bt_len (pa_cons (pv 1) pa_nil)) pe_int (nomark _)) (pe_one (pe_callB (cr_all rfl) (by rfl) T.n_all bt_all (pa_cons (pe_lc (own := [("part", 2)]) (g := gName 2) (tt := tYes) rfl sc_ValueLine_is_point.nd (pi_tup (pv 1)) (blkOk_by (own := [("part", 2)]) (N := N_ValueLine_is_point) (sc := defScope s_ValueLine_is_point) (by decide +kernel)) (fun _ _ _ _ _ => pg_name (i := 2) sc_ValueLine_is_point.nd rfl (Or.inl rfl)) (fun _ _ _ _ _ => pts_nil) (fun _ _ _ _ _ => (pe_c c_is_whole_number hr (by decide) (by rfl) (pa_cons (pv 2) pa_nil)))) pa_nil))))))), ?_⟩
    walk_at "gg"
    have hv : PairV K H x b := hv
    cases hv with
    | other ty no =>
      refine g_isi (.ty "tuple") ty no ?_
      walk_at "gg"
      refine g_ifF rfl ?_
      exact k _ (Same.refl _)
    | @tup r xs bs e l hw =>
      refine g_isi (.ty "tuple") (sqT_ty e) (b := true) (kit_ty (by decide +kernel)) ?_
      walk_at "gg"
      refine g_ifT rfl ?_
      walk_at "gg"
      refine g_lenT e ?_
      walk_at "gg"
      by_cases c : xs.length = 2
      · refine g_ifT (decide_eq_true (by rw [c]; rfl)) ?_
        walk_at "gg"
        refine g_exT e ?_
        refine lc_map (src_tup e) (by omega) (fun i y => ∃ b, bs[i]? = some b ∧ y = V.bl b) (fun i x H' Nx hi S it kx => ?_) fun D1 acc H1 n1 S1 e1 hl1 hacc => ?_
        · walk_at "gg"
          refine ⟨rfl, ?_⟩
          walk_at "gg"
          have lb : i < bs.length := by omega
          exact ⟨x, bs[i], rfl, whole_same S (hw i x _ it (List.getElem?_eq_getElem lb)), kx _ _ (Same.refl _) ⟨_, List.getElem?_eq_getElem lb, rfl⟩⟩
        have ea : acc = bs.map V.bl := by
          apply List.ext_getElem?
          intro i
          rw [List.getElem?_map]
          rcases Nat.lt_or_ge i acc.length with lt | ge
          · obtain ⟨b, hb, hy⟩ := hacc i _ (List.getElem?_eq_getElem lt)
            rw [List.getElem?_eq_getElem lt, hb, hy]
            rfl
          · rw [List.getElem?_eq_none ge, List.getElem?_eq_none (by omega)]
            rfl
        rw [ea] at e1
        walk_at "gg"
        refine g_all (SqL.of e1) ?_
        have z : (decide (xs.length = 2) && bs.all id) = bs.all id := by rw [decide_eq_true c]; rfl
        rw [z] at k
        exact k _ S1
      · refine g_ifF (decide_eq_false fun z => c ?_) ?_
        · have z : V.int ((xs.length : Nat) : Int) = V.int 2 := z
          injection z with z
          omega
        · rw [decide_eq_false c] at k
          exact k _ (Same.refl _)
end
end Gk

namespace Gk
open PySem L2 Gx
open C8 (Cal Met Mak pe_c pe_mt pe_mt0 pe_mk pe_gc)
local macro_rules | `(tactic| walk_at "g") => `(tactic| (first
  | with_reducible refine g_seq ?_ | with_reducible refine g_asg ?_ | ((with_reducible show tVar _ _ _ _); refine g_var rfl ?_) | with_reducible refine g_c ?_ | with_reducible refine g_name ?_ | with_reducible refine g_op ?_ | with_reducible refine g_I0 ?_
  | with_reducible refine g_cons ?_ | with_reducible refine g_nil ?_ | with_reducible refine g_exbl ?_ | with_reducible refine g_exint ?_ | with_reducible refine g_test ?_ | with_reducible refine g_B ?_ | with_reducible refine g_ifS ?_ | with_reducible refine g_ret ?_ | with_reducible refine g_retN ?_ | with_reducible refine g_next ?_
  | with_reducible refine g_CB ?_ | with_reducible refine g_sub ?_ | with_reducible refine g_drop ?_ | with_reducible refine g_not ?_ | with_reducible refine g_and ?_ | with_reducible refine g_or ?_ | with_reducible refine g_andV ?_ | with_reducible refine g_orV ?_ | with_reducible refine g_notV ?_ | with_reducible refine g_ifE ?_ | with_reducible refine g_isN ?_
  | with_reducible refine g_par ?_ | with_reducible refine g_expar ?_ | with_reducible refine g_chain ?_ | with_reducible refine g_un ?_ | with_reducible refine g_U ?_ | with_reducible refine g_bits ?_ | ((with_reducible show rEq _ _ _ _); refine g_eq rfl ?_) | ((with_reducible show rNe _ _ _ _); refine g_ne rfl ?_)
  | with_reducible refine g_for ?_ | with_reducible refine g_iRng1 ?_ | with_reducible refine g_iRng2 ?_ | with_reducible refine g_iList ?_ | with_reducible refine g_iTup ?_
  | ((with_reducible refine g_Imul ?hc ?_); (case hc => (first | (refine Or.inl ⟨?_, ?_⟩ <;> first | decide | omega) | (refine Or.inr ⟨?_, ?_⟩ <;> first | decide | omega))))
  | ((with_reducible refine g_Idiv ?hc ?_); (case hc => (first | (exact ⟨by decide, by decide⟩) | assumption)))
  | ((with_reducible refine g_Imod ?hc ?_); (case hc => (first | assumption | omega | decide)))
  | ((with_reducible refine g_exR1 ?hlo ?hhi ?_); (case hlo => omega); (case hhi => omega))
  | ((with_reducible refine g_exR2 ?hb ?_); (case hb => omega))
  | with_reducible refine g_lst ?_ | with_reducible refine g_tup ?_ | with_reducible refine g_call ?_ | with_reducible refine g_BM ?_ | with_reducible refine g_BM0 ?_
  | with_reducible refine g_intB ?_ | with_reducible refine g_lc ?_ | with_reducible refine g_yes ?_ | with_reducible refine g_iZip ?_ | with_reducible refine g_sl ?_ | with_reducible refine g_noP ?_ | with_reducible refine g_part ?_ | with_reducible refine g_gcons ?_ | with_reducible refine g_gnil ?_
  | with_reducible refine g_tfld ?_ | with_reducible refine g_tmeth ?_ | with_reducible refine g_tmake ?_ | with_reducible refine g_sfld ?_ | with_reducible refine g_tprop ?_ | with_reducible refine g_tstar ?_ | with_reducible refine g_tmethK ?_ | with_reducible refine g_isN1 ?_ | with_reducible refine g_notN1 ?_))
local macro_rules | `(tactic| walk_at "gs1") => `(tactic| (first
  | with_reducible refine g_seq ?_ | with_reducible refine g_asg ?_ | ((with_reducible show tVar _ _ _ _); refine g_var rfl ?_) | with_reducible refine g_c ?_ | with_reducible refine g_name ?_ | with_reducible refine g_op ?_ | with_reducible refine g_I0 ?_
  | with_reducible refine g_cons ?_ | with_reducible refine g_nil ?_ | with_reducible refine g_exbl ?_ | with_reducible refine g_exint ?_ | with_reducible refine g_test ?_ | with_reducible refine g_B ?_ | with_reducible refine g_ifS ?_ | with_reducible refine g_retN ?_ | with_reducible refine g_next ?_
  | with_reducible refine g_CB ?_ | with_reducible refine g_sub ?_ | with_reducible refine g_drop ?_ | with_reducible refine g_not ?_ | with_reducible refine g_and ?_ | with_reducible refine g_or ?_ | with_reducible refine g_andV ?_ | with_reducible refine g_orV ?_ | with_reducible refine g_notV ?_ | with_reducible refine g_ifE ?_ | with_reducible refine g_isN ?_
  | with_reducible refine g_par ?_ | with_reducible refine g_expar ?_ | with_reducible refine g_chain ?_ | with_reducible refine g_un ?_ | with_reducible refine g_U ?_ | with_reducible refine g_bits ?_ | ((with_reducible show rEq _ _ _ _); refine g_eq rfl ?_) | ((with_reducible show rNe _ _ _ _); refine g_ne rfl ?_)
  | with_reducible refine g_for ?_ | with_reducible refine g_iRng1 ?_ | with_reducible refine g_iRng2 ?_ | with_reducible refine g_iList ?_ | with_reducible refine g_iTup ?_
  | ((with_reducible refine g_Imul ?hc ?_); (case hc => (first | (refine Or.inl ⟨?_, ?_⟩ <;> first | decide | omega) | (refine Or.inr ⟨?_, ?_⟩ <;> first | decide | omega))))
  | ((with_reducible refine g_Idiv ?hc ?_); (case hc => (first | (exact ⟨by decide, by decide⟩) | assumption)))
  | ((with_reducible refine g_Imod ?hc ?_); (case hc => (first | assumption | omega | decide)))
  | ((with_reducible refine g_exR1 ?hlo ?hhi ?_); (case hlo => omega); (case hhi => omega))
  | ((with_reducible refine g_exR2 ?hb ?_); (case hb => omega))
  | with_reducible refine g_lst ?_ | with_reducible refine g_tup ?_ | with_reducible refine g_call ?_ | with_reducible refine g_BM ?_ | with_reducible refine g_BM0 ?_
  | with_reducible refine g_intB ?_ | with_reducible refine g_lc ?_ | with_reducible refine g_yes ?_ | with_reducible refine g_iZip ?_ | with_reducible refine g_sl ?_ | with_reducible refine g_noP ?_ | with_reducible refine g_part ?_ | with_reducible refine g_gcons ?_ | with_reducible refine g_gnil ?_
  | with_reducible refine g_tfld ?_ | with_reducible refine g_tmeth ?_ | with_reducible refine g_tmake ?_ | with_reducible refine g_sfld ?_ | with_reducible refine g_tprop ?_ | with_reducible refine g_tstar ?_ | with_reducible refine g_tmethK ?_ | with_reducible refine g_isN1 ?_ | with_reducible refine g_notN1 ?_))
local macro_rules | `(tactic| walk_at "gx1") => `(tactic| (first
  | with_reducible refine g_seq ?_ | with_reducible refine g_asg ?_ | ((with_reducible show tVar _ _ _ _); refine g_var rfl ?_) | with_reducible refine g_c ?_ | with_reducible refine g_name ?_ | with_reducible refine g_op ?_ | with_reducible refine g_I0 ?_
  | with_reducible refine g_cons ?_ | with_reducible refine g_nil ?_ | with_reducible refine g_exbl ?_ | with_reducible refine g_exint ?_ | with_reducible refine g_test ?_ | with_reducible refine g_B ?_ | with_reducible refine g_ifS ?_ | with_reducible refine g_retN ?_ | with_reducible refine g_next ?_
  | with_reducible refine g_CB ?_ | with_reducible refine g_sub ?_ | with_reducible refine g_drop ?_ | with_reducible refine g_not ?_ | with_reducible refine g_and ?_ | with_reducible refine g_or ?_ | with_reducible refine g_andV ?_ | with_reducible refine g_orV ?_ | with_reducible refine g_notV ?_ | with_reducible refine g_ret ?_ | with_reducible refine g_isN ?_
  | with_reducible refine g_par ?_ | with_reducible refine g_expar ?_ | with_reducible refine g_chain ?_ | with_reducible refine g_un ?_ | with_reducible refine g_U ?_ | with_reducible refine g_bits ?_ | ((with_reducible show rEq _ _ _ _); refine g_eq rfl ?_) | ((with_reducible show rNe _ _ _ _); refine g_ne rfl ?_)
  | with_reducible refine g_for ?_ | with_reducible refine g_iRng1 ?_ | with_reducible refine g_iRng2 ?_ | with_reducible refine g_iList ?_ | with_reducible refine g_iTup ?_
  | ((with_reducible refine g_Imul ?hc ?_); (case hc => (first | (refine Or.inl ⟨?_, ?_⟩ <;> first | decide | omega) | (refine Or.inr ⟨?_, ?_⟩ <;> first | decide | omega))))
  | ((with_reducible refine g_Idiv ?hc ?_); (case hc => (first | (exact ⟨by decide, by decide⟩) | assumption)))
  | ((with_reducible refine g_Imod ?hc ?_); (case hc => (first | assumption | omega | decide)))
  | ((with_reducible refine g_exR1 ?hlo ?hhi ?_); (case hlo => omega); (case hhi => omega))
  | ((with_reducible refine g_exR2 ?hb ?_); (case hb => omega))
  | with_reducible refine g_lst ?_ | with_reducible refine g_tup ?_ | with_reducible refine g_call ?_ | with_reducible refine g_BM ?_ | with_reducible refine g_BM0 ?_
  | with_reducible refine g_intB ?_ | with_reducible refine g_lc ?_ | with_reducible refine g_yes ?_ | with_reducible refine g_iZip ?_ | with_reducible refine g_sl ?_ | with_reducible refine g_noP ?_ | with_reducible refine g_part ?_ | with_reducible refine g_gcons ?_ | with_reducible refine g_gnil ?_
  | with_reducible refine g_tfld ?_ | with_reducible refine g_tmeth ?_ | with_reducible refine g_tmake ?_ | with_reducible refine g_sfld ?_ | with_reducible refine g_tprop ?_ | with_reducible refine g_tstar ?_ | with_reducible refine g_tmethK ?_ | with_reducible refine g_isN1 ?_ | with_reducible refine g_notN1 ?_))
local macro_rules | `(tactic| walk_at "hp") => `(tactic| (first | assumption | exact upd_same | (refine same_get (by assumption) ?_; walk_at "hp")))
local macro_rules | `(tactic| walk_at "sm") => `(tactic| (first | assumption | exact Same.refl _ | (refine Same.trans ?ha (by assumption); walk_at "sm")))
local macro_rules | `(tactic| walk_at "nn") => `(tactic| (first | assumption | (refine same_free (by assumption) ?_; walk_at "nn")))
local macro_rules | `(tactic| walk_at "sb") => `(tactic| (first | decide | (refine small_bits ?_ ?_ <;> omega)))
local macro_rules | `(tactic| walk_at "ln") => `(tactic| (simp only [List.length_cons, List.length_nil]; omega))
local macro_rules | `(tactic| walk_at "gg") => `(tactic| (repeat walk_at "g"))
local macro_rules | `(tactic| walk_at "gs") => `(tactic| (repeat walk_at "gs1"))
local macro_rules | `(tactic| walk_at "gx") => `(tactic| (repeat walk_at "gx1"))

local macro_rules | `(tactic| walk_at "g") => `(tactic| (first | with_reducible refine g_tpropF ?_ | with_reducible refine g_tmethF ?_ | with_reducible refine g_tmethKF ?_ | with_reducible refine g_ownE ?_))
section
variable {P : Program} {w : World} {K : PySem.W.Frag} {mg : Str → Option Value} {base : Heap} {X : Cx}
end
end Gk

set_option maxHeartbeats 2000000
/-! Within an except suite: the ends of lists and tuples that are gone through, tuples taken apart, list comprehensions -/
namespace HotX
open PySem PySem.Spec PyProof.Rows Builtin
section
variable {prog : Program} {w : World} {A : Around} {E : Value → Shared → Prop} {s : Shared}
/-- an iterator of two fields is not the handled exception -/
theorem HotAt.ne_it {x1 it : Addr} {h : Heap} {o : Obj} {u v : Value} (hot : HotAt A x1 h) (ho : h.get? it = some o) (hd : o.data = .fields #[u, v]) : x1 ≠ it := by
  rintro rfl
  obtain ⟨_, o1, vs1, h1, d1, c1⟩ := hot
  rw [ho] at h1
  cases h1
  rw [hd] at d1
  cases d1
  simp at c1
theorem pyNext_list_end_hot {it l x1 : Addr} {i : Nat} {items : Array Value} {Q : Option Value → Shared → Prop} (hot : HotAt A x1 s.heap) (hit : s.heap.IsListIter it l i) (hl : s.heap.IsList l items) (hx : items[i]? = none)
    (hQ : ∀ h', Heap.ExtBut it s.heap h' → Q none { s with heap := h' }) : wpAny (model prog w) A (pyNext (.ref it)) Q E s := by
  obtain ⟨o, ho, hc, hd⟩ := id hit
  obtain ⟨ol, hol, _, nl, hdl⟩ := hl
  have ne := hot.ne_it ho hd
  obtain ⟨hh, o1, vs1, h1, d1, c1⟩ := hot
  unfold pyNext
  refine wpAny_bind (wpAny_attempt (wpAny_callSpecial?_slot (name := Str.ofString "__next__") hit.typeIs slot_listiter_next
    (wpAny_call_entry slot_listiter_next hit.typeIs entry_listiter_next ?_ (args_listiter_next _))))
  show wpAny _ _ (field (.ref it) 0 >>= _) _ _ s
  refine wpAny_bind (wpAny_field ho hd (x := .ref l) rfl ?_)
  show wpAny _ _ (if (Value.ref l == Value.none) = true then _ else _) _ _ s
  rw [if_neg (show ¬ ((Value.ref l == Value.none) = true) from Bool.false_ne_true)]
  show wpAny _ _ (field (.ref it) 1 >>= _) _ _ s
  refine wpAny_bind (wpAny_field ho hd (x := .int i 0) rfl ?_)
  show wpAny _ _ (seqItems? (.ref l) >>= _) _ _ s
  refine wpAny_bind (wpAny_seqItems hol hdl ?_)
  simp only [Int.toNat_natCast, hx]
  refine wpAny_bind (wpAny_rule (wpAny_bind (wpAny_setField ho hd (by simp) ?_)))
  show wpAny _ _ (newExc (.type "StopIteration") [] >>= _) _ _ _
  refine wpAny_bind ?_
  simp only [newExc, newTuple]
  refine wpAny_bind (wpAny_newObj_type ?_ (by size_fits))
  refine wpAny_bind (m := firstArgMember _ _) (wpAny_of_eq (a := Value.none) (by first | rfl | (simp only [firstArgMember]; rfl)) ?_)
  refine wpAny_newObj_type ?_ (by size_fits)
  refine raiseNew_hot ⟨hh, o1, vs1, Heap.get?_push_of_some _ (Heap.get?_push_of_some _ ((Heap.get?_update_other _ _ (Ne.symm ne)).trans h1)), d1, c1⟩ (Nat.ne_of_lt (Heap.lt_size (Heap.get?_push_of_some _ ((Heap.get?_update_other _ _ (Ne.symm ne)).trans h1)))) (Heap.get?_push_size _ rfl) rfl (by first | (simp; done) | (simp; omega) | (simp only [Array.size_append]; simp; omega)) ?_
  refine wpAny_bind (wpAny_isInstance (T := "StopIteration") (b := true) ⟨_, Heap.get?_update_self _ (Heap.get?_push_size _ rfl) rfl, rfl⟩ isSubtype_stop ?_)
  refine wpAny_pure (hQ _ fun b o' hb e => ?_)
  rw [Heap.get?_update_other _ _ (Nat.ne_of_gt (Heap.lt_size (Heap.get?_push_of_some _ ((Heap.get?_update_other _ _ (Ne.symm hb)).trans e))))]
  exact Heap.get?_push_of_some _ (Heap.get?_push_of_some _ ((Heap.get?_update_other _ _ (Ne.symm hb)).trans e))
theorem next_tuple_end_hot {it l x1 : Addr} {i : Nat} {items : Array Value} {Q : Option Value → Shared → Prop} (hot : HotAt A x1 s.heap) (hit : IsTupIter s.heap it l i) (hl : IsTup s.heap l items) (hx : items[i]? = none)
    (hQ : ∀ h', Heap.ExtBut it s.heap h' → Q none { s with heap := h' }) : wpAny (model prog w) A (pyNext (.ref it)) Q E s := by
  obtain ⟨o, ho, hc, hd⟩ := id hit
  obtain ⟨ol, hol, _, nl, hdl⟩ := hl
  have ne := hot.ne_it ho hd
  obtain ⟨hh, o1, vs1, h1, d1, c1⟩ := hot
  unfold pyNext
  refine wpAny_bind (wpAny_attempt (wpAny_callSpecial?_slot (name := Str.ofString "__next__") hit.typeIs slot_tupleiter_next
    (wpAny_call_entry slot_tupleiter_next hit.typeIs entry_tupleiter_next ?_ (args_tupleiter_next _))))
  show wpAny _ _ (field (.ref it) 0 >>= _) _ _ s
  refine wpAny_bind (wpAny_field ho hd (x := .ref l) rfl ?_)
  show wpAny _ _ (if (Value.ref l == Value.none) = true then _ else _) _ _ s
  rw [if_neg (show ¬ ((Value.ref l == Value.none) = true) from Bool.false_ne_true)]
  show wpAny _ _ (field (.ref it) 1 >>= _) _ _ s
  refine wpAny_bind (wpAny_field ho hd (x := .int i 0) rfl ?_)
  show wpAny _ _ (seqItems? (.ref l) >>= _) _ _ s
  refine wpAny_bind (wpAny_seqItems hol hdl ?_)
  simp only [Int.toNat_natCast, hx]
  refine wpAny_bind (wpAny_rule (wpAny_bind (wpAny_setField ho hd (by simp) ?_)))
  show wpAny _ _ (newExc (.type "StopIteration") [] >>= _) _ _ _
  refine wpAny_bind ?_
  simp only [newExc, newTuple]
  refine wpAny_bind (wpAny_newObj_type ?_ (by size_fits))
  refine wpAny_bind (m := firstArgMember _ _) (wpAny_of_eq (a := Value.none) (by first | rfl | (simp only [firstArgMember]; rfl)) ?_)
  refine wpAny_newObj_type ?_ (by size_fits)
  refine raiseNew_hot ⟨hh, o1, vs1, Heap.get?_push_of_some _ (Heap.get?_push_of_some _ ((Heap.get?_update_other _ _ (Ne.symm ne)).trans h1)), d1, c1⟩ (Nat.ne_of_lt (Heap.lt_size (Heap.get?_push_of_some _ ((Heap.get?_update_other _ _ (Ne.symm ne)).trans h1)))) (Heap.get?_push_size _ rfl) rfl (by first | (simp; done) | (simp; omega) | (simp only [Array.size_append]; simp; omega)) ?_
  refine wpAny_bind (wpAny_isInstance (T := "StopIteration") (b := true) ⟨_, Heap.get?_update_self _ (Heap.get?_push_size _ rfl) rfl, rfl⟩ isSubtype_stop ?_)
  refine wpAny_pure (hQ _ fun b o' hb e => ?_)
  rw [Heap.get?_update_other _ _ (Nat.ne_of_gt (Heap.lt_size (Heap.get?_push_of_some _ ((Heap.get?_update_other _ _ (Ne.symm hb)).trans e))))]
  exact Heap.get?_push_of_some _ (Heap.get?_push_of_some _ ((Heap.get?_update_other _ _ (Ne.symm hb)).trans e))
theorem unpackItems_tuple_hot {t x1 : Addr} {items : Array Value} {Q : List Value → Shared → Prop} (hot : HotAt A x1 s.heap) (ht : IsTup s.heap t items)
    (hQ : ∀ h', Heap.ExtBut s.heap.objs.size s.heap h' → Q items.toList { s with heap := h' }) : wpAny (model prog w) A (unpackItems (.ref t) items.size none) Q E s := by
  have hlt : t ≠ s.heap.objs.size := by obtain ⟨o, ho, _⟩ := ht; exact Nat.ne_of_lt (Heap.lt_size ho)
  unfold unpackItems
  refine wpAny_bind ?_
  · unfold notIterableAtAll
    refine wpAny_bind (wpAny_specialOf ht.typeIs slot_tuple_iter.lookup ?_)
    refine wpAny_pure ?_
    simp only [Bool.false_eq_true, if_false]
    refine wpAny_bind (wpAny_holding (iter_tuple ht ?_))
    refine wpAny_bind (wpAny_holding (draw_tuple hlt items.size 0 _ _ ⟨_, Heap.get?_push_size _ rfl, rfl, rfl⟩ (ht.push _) (by omega) fun h₁ hit₁ hs₁ => ?_))
    have hall : List.take items.size (List.drop 0 items.toList) = items.toList := by
      rw [List.drop_zero]; exact List.take_of_length_le (by simp)
    rw [hall]
    rw [if_neg (by simp)]
    have ht₁ : IsTup h₁ t items := (ht.push _).extBut hs₁.extBut hlt
    have hot1 : HotAt A x1 h₁ := by
      obtain ⟨hh, o1, vs1, h1, d1, c1⟩ := hot
      exact ⟨hh, o1, vs1, hs₁.extBut x1 o1 (Nat.ne_of_lt (Heap.lt_size h1)) (Heap.get?_push_of_some _ h1), d1, c1⟩
    refine wpAny_bind (wpAny_holding (next_tuple_end_hot hot1 hit₁ ht₁ (by simp) fun h₂ he₂ => ?_))
    simp only [Option.isSome_none, Bool.false_eq_true, if_false]
    refine wpAny_pure (hQ h₂ fun b o hb e => he₂ b o hb (hs₁.extBut b o hb (Heap.get?_push_of_some _ e)))
theorem assign_Tuple_hot {env : Env} {elts : List Expr} {k} {pos : Pos} {t x1 : Addr} {items : Array Value} {Q : Unit → Shared → Prop} (hot : HotAt A x1 s.heap) (ht : IsTup s.heap t items)
    (hn : (assignEach elts env).length = items.size) (hstar : (assignEach elts env).findIdx? (·.1) = none)
    (h : ∀ h', Heap.ExtBut s.heap.objs.size s.heap h' → wpAny (model prog w) A (assignInOrder ((assignEach elts env).map (·.2)) items.toList) Q E { s with heap := h' }) :
    wpAny (model prog w) A (assign (.Tuple elts k pos) env (.ref t)) Q E s := by
  rw [assign_Tuple]
  refine wpAny_bind (wpAny_standAt ?_)
  unfold unpack
  rw [hn, hstar]
  exact wpAny_bind (wpAny_holding (unpackItems_tuple_hot hot ht h))
end
end HotX

set_option maxHeartbeats 4000000
/-! List comprehensions over a list, the target a tuple of names, while a fault is handled -/
namespace HotX
open PySem PySem.Spec PyProof.Rows L2 L2H
/-- the handled exception stands in the state -/
theorem hot_of {X : Cx} {p : Addr × Obj} {pins : List (Addr × Obj)} {σ : L2.St} {H : Hp} {s : Shared} (hot : Hot1 X.A p) (hp : p ∈ X.pn ++ pins) (I : Inv X pins σ H s) : HotAt X.A p.1 s.heap := by
  obtain ⟨hh, v1, e1, c1⟩ := hot
  exact ⟨hh, p.2, v1, (I.pin p hp).1, e1, c1⟩
theorem list_itemX {X : Cx} {tg : Expr} {a it : Addr} {i : Nat} {pins : List (Addr × Obj)} {s : Shared} {σ : L2.St} {H : Hp} {E : Value → Shared → Prop} (I : Inv X pins σ H s) (hf : FpOk X pins H it) (st : s.heap.IsListIter it a i) (hg : (Itl X.K a).go i H) :
    wpAny (model X.prog X.w) X.A (pyNext (.ref it)) (fun r s1 => ∃ u, r = some u ∧
      wpAny (model X.prog X.w) X.A (letOwnedTupleGo tg (.ref it) u) (fun _ s2 => ∃ x H', Inv X pins σ H' s2 ∧ RelV x u ∧ (Itl X.K a).yld i H x H' ∧ s2.heap.IsListIter it a (i + 1) ∧ H' it = none) E s1) E s := by
  obtain ⟨xs, x, hq, hx⟩ := hg
  obtain ⟨its, rv, p, hz⟩ := I.list hq
  obtain ⟨u, hu, ru⟩ := rv.get hx
  obtain ⟨f0, f1, f2, f3, f4, f5⟩ := hf
  refine wpAny_pyNext_list_item st p.isList (x := u) (by simpa using hu) fun h' st' sb => ?_
  have I1 : Inv X pins σ H { s with heap := h' } := I.turned (t' := s.toks) (fun b o hb e => (sb.2 b hb).trans e) f0 f1 f3 f4 f5
  obtain ⟨o, e, c, d⟩ := id st'
  exact ⟨u, rfl, go_of (s := { s with heap := h' }) e c d (by decide) ⟨x, H, I1, ru, ⟨rfl, fun ys hy => by rw [I.list_inj hy hq]; exact hx⟩, st', f0⟩⟩
theorem list_doneX {X : Cx} {a it x1 : Addr} {i : Nat} {pins : List (Addr × Obj)} {s : Shared} {σ : L2.St} {H : Hp} {E : Value → Shared → Prop} (hot : HotAt X.A x1 s.heap) (I : Inv X pins σ H s) (hf : FpOk X pins H it) (st : s.heap.IsListIter it a i) (hg : (Itl X.K a).stop i H) :
    wpAny (model X.prog X.w) X.A (pyNext (.ref it)) (fun r s1 => r = none ∧ Inv X pins σ H s1) E s := by
  obtain ⟨xs, hq, hx⟩ := hg
  obtain ⟨its, rv, p, hz⟩ := I.list hq
  obtain ⟨f0, f1, f2, f3, f4, f5⟩ := hf
  have hl := rv.length
  exact pyNext_list_end_hot hot st p.isList (by simp; omega) fun h' eb => ⟨rfl, I.turned (t' := s.toks) (fun b o hb e => eb b o hb e) f0 f1 f3 f4 f5⟩
/-- a target that is given something while p is handled -/
def PGX (p : Addr × Obj) (X : Cx) (tg : Expr) (t : TG) : Prop := ∀ (pins : List (Addr × Obj)) (s : Shared) (σ : L2.St) (H : Hp) (v : V) (u : Value) (Q : L2.St → Hp → Prop), p ∈ X.pn ++ pins → Inv X pins σ H s → RelV v u → t v σ H Q →
    wpAny (model X.prog X.w) X.A (assign tg X.env u) (fun _ s' => ∃ σ' H', Inv X pins σ' H' s' ∧ Q σ' H') X.xe s
theorem pg_tupX {X : Cx} {p : Addr × Obj} {es : List Expr} {k : Nat} {pos : Pos} {t : TGs} {n : Nat} (hot : Hot1 X.A p) (h : PGs X es t)
    (hn : (assignEach es X.env).length = n := by rfl) (hst : (assignEach es X.env).findIdx? (·.1) = none := by rfl) : PGX p X (.Tuple es k pos) (gTup X.K n t) := by
  intro pins s σ H v u Q hp I r hw
  obtain ⟨a, xs, e1, hq, hl, hw⟩ := hw
  subst e1
  cases r
  obtain ⟨its, rv, ht, hz⟩ := I.tuple hq
  refine assign_Tuple_hot (hot_of hot hp I) ht (by simp [hn, ← hl, rv.length]) hst fun h' hx => ?_
  have I1 : Inv X pins σ H { s with heap := h' } := I.kept (t' := s.toks) fun b o e => hx b o (Nat.ne_of_lt (Heap.lt_size e)) e
  exact h.run pins _ σ H xs _ Q I1 (by simpa using rv) hw
/-- [elt for target in a list if ..] -/
abbrev tLcX (K : PySem.W.Frag) (tl : TE) (g : TG) (tt : TT) (te : TE) (vs : List Nat) : TE := tLc (iList K tl) g tt te vs
section
variable {X : Cx} {p : Addr × Obj} {elt tg iter : Expr} {ifs : List Expr} {scope : Scope} {own : List (Str × Nat)} {pos pos' : Pos} {tl : TE} {g : TG} {tt : TT} {te : TE}
theorem lc_coreX {pins : List (Addr × Obj)} {s : Shared} {σ : L2.St} {H : Hp} {Q : VK} {use : Option (Value → Sem Unit)} {Qf : Value → Shared → Prop} (hot : Hot1 X.A p) (hpn : p ∈ X.pn) (hN : X.N.Nodup) (I : Inv X pins σ H s) (hi : PE X iter tl) (ok : BlkOk X.N X.env.scope scope own)
    (hg : ∀ (s : Shared) (H : Hp) (C : Addr) (cl : List (Str × Addr)) (fp : List Addr), PGX p (X.blk s H scope (compEnvC scope cl C X.env) fp) tg g) (ht : ∀ (s : Shared) (H : Hp) (C : Addr) (cl : List (Str × Addr)) (fp : List Addr), PTs (X.blk s H scope (compEnvC scope cl C X.env) fp) ifs tt)
    (he : ∀ (s : Shared) (H : Hp) (C : Addr) (cl : List (Str × Addr)) (fp : List Addr), PE (X.blk s H scope (compEnvC scope cl C X.env) fp) elt te) (hs : ∀ x, foldedSetIterable iter X.env x = pure x)
    (h : tLcX X.K tl g tt te (own.map (·.2)) σ H Q)
    (hRR : ∀ D C s' m H', Inv X pins σ H' s' → Q (.ref D) H' → s'.heap.Ns C m → FpOk X pins H' C → compPost (model X.prog X.w) X.A X.xe use Qf (.ref D) C (.ok .next) s') :
    wpAny (model X.prog X.w) X.A (comprehension (.ListComp elt [⟨tg, iter, ifs, 0⟩] scope pos) scope X.env pos' (newList []) false (eval iter X.env) use) Qf X.xe s := by
  have hfree : ∀ y ∈ scope.names, y.2 = .free → ∃ c, X.env.cells.lookup y.1 = some c := fun y hy e => by
    rcases ok.free y hy e with k | k
    · exact I.ok.has _ (.inl k)
    · exact I.ok.has _ (.inr k)
  refine wpAny_comprehension_free (use := use) rfl hs (closure_ok hfree) ok.kind (fun y hy e => by rw [ok.uniq y hy, e])
    (thn (hi.run pins s σ H _ I h) fun xv s1 ⟨xl, H1, I1, rx, q1⟩ => ?_)
  obtain ⟨a, e, ⟨xs0, hq0⟩, q⟩ := q1
  subst e
  cases rx
  obtain ⟨its0, rv0, pl0, hz0⟩ := I1.list hq0
  refine wpAny_pyIter_list pl0.isList ?_
  generalize hit : s1.heap.objs.size = it
  generalize hs2 : ({ s1 with heap := _ } : Shared) = s2
  have I2 : Inv X pins σ H1 s2 := by
    rw [← hs2]
    exact I1.kept (t' := s1.toks) fun b o e => Heap.get?_push_of_some _ e
  have st2 : s2.heap.IsListIter it a 0 := by
    rw [← hs2, ← hit]
    exact ⟨_, Heap.get?_push_size _ rfl, rfl, rfl⟩
  have f2 : FpOk X pins H1 it := I1.fpOk (Nat.le_of_eq hit) (I1.hok.fresh (Nat.le_of_eq hit))
  refine wpAny_newObj_type (newEnv_comp ?_) (by show 0 ≤ sizeLine; decide)
  generalize hD : s2.heap.objs.size = D
  have hDn : H1 D = none := I2.hok.fresh (Nat.le_of_eq hD)
  obtain ⟨W, ⟨m0, w0⟩, turn⟩ := q D hDn
  -- the new list
  generalize hs3 : ({ s2 with heap := s2.heap.push { cls := .type "list", data := .seq ([] : List Value).toArray } } : Shared) = s3
  have I3 : Inv X pins σ (upd H1 D (.lst [])) s3 := by
    rw [← hs3]
    refine I2.laid (t' := s2.toks) (fun b o e => Heap.get?_push_of_some _ e) (Nat.le_of_eq hD) ⟨Nat.zero_le _, [], 0, .nil, ?_⟩
    rw [← hD]
    exact Heap.get?_push_size _ rfl
  have h3 : s3.heap = s2.heap.push { cls := .type "list", data := .seq ([] : List Value).toArray } := by rw [← hs3]
  have sz : it < s2.heap.objs.size := by
    obtain ⟨o, e, _⟩ := st2
    exact Heap.lt_size e
  have f3 : ∀ b ∈ [it], FpOk X pins (upd H1 D (.lst [])) b ∧ b < s3.heap.objs.size := fun b hb => by
    have e : b = it := by simpa using hb
    subst e
    refine ⟨⟨?_, f2.2⟩, by rw [h3, Heap.size_push]; exact Nat.lt_succ_of_lt sz⟩
    rw [upd_ne (by rw [← hD]; exact Nat.ne_of_lt sz)]
    exact f2.1
  have keepIt : ∀ {h h' : Heap} {i : Nat}, h.IsListIter it a i → (∀ o, h.get? it = some o → h'.get? it = some o) → h'.IsListIter it a i := fun {h h' i} st k => st.at k
  have st3 : s3.heap.IsListIter it a 0 := keepIt st2 fun o e => by rw [h3]; exact Heap.get?_push_of_some _ e
  have I4 := block_start I3 ok hN f3
  have P3 := I3.pin p (List.mem_append_left _ hpn)
  have pg := hg s3 (upd H1 D (.lst [])) s3.heap.objs.size (cellsFrom (s3.heap.objs.size + 1) scope.names (cloFrom X.env.cells scope.names [])) [it]
  have pt := ht s3 (upd H1 D (.lst [])) s3.heap.objs.size (cellsFrom (s3.heap.objs.size + 1) scope.names (cloFrom X.env.cells scope.names [])) [it]
  have pe := he s3 (upd H1 D (.lst [])) s3.heap.objs.size (cellsFrom (s3.heap.objs.size + 1) scope.names (cloFrom X.env.cells scope.names [])) [it]
  show codeAny _ _ (.compStart (.ListComp elt [⟨tg, iter, ifs, 0⟩] scope pos) 0 (.ref it) (.ref D) (compEnvC scope (cellsFrom (s3.heap.objs.size + 1) scope.names (cloFrom X.env.cells scope.names [])) s3.heap.objs.size X.env)) (compPost (model X.prog X.w) X.A X.xe use Qf (.ref D) s3.heap.objs.size) { s3 with heap := pushCells (s3.heap.push { cls := .type "dict", data := .dict #[] }) scope.names }
  generalize hce : compEnvC scope (cellsFrom (s3.heap.objs.size + 1) scope.names (cloFrom X.env.cells scope.names [])) s3.heap.objs.size X.env = ce at I4 pg pt pe ⊢
  have cL : ce.locals = s3.heap.objs.size := by subst hce; rfl
  have nfp : (upd H1 D (.lst [])) it = none := (f3 it (by simp)).1.1
  generalize hH3 : upd H1 D (.lst []) = H3 at I3 I4 pg pt pe w0 nfp f3 P3
  have pne : p.1 ≠ it := f2.2.2.2.2.2 p (List.mem_append_left _ hpn)
  have I4p : Inv (X.blk s3 H3 scope ce [it]) [p] (wipe σ (own.map (·.2))) H3 { s3 with heap := pushCells (s3.heap.push { cls := .type "dict", data := .dict #[] }) scope.names } :=
    { I4 with
      pin := fun q hq => by
        have e : q = p := by simpa using (show q ∈ ([] : List (Addr × Obj)) ++ [p] from hq)
        rw [e]
        refine ⟨pushCells_keeps _ _ _ _ (Heap.get?_push_of_some _ P3.1), P3.2.1, ?_, fun hm => ?_, P3.2.2.2.2⟩
        · show p.1 ≠ ce.locals
          rw [cL]
          exact Nat.ne_of_lt (Heap.lt_size P3.1)
        · exact (List.mem_cons.mp (I3.stkSub p.1 hm)).elim P3.2.2.1 P3.2.2.2.1 }
  generalize hs4 : ({ s3 with heap := pushCells (s3.heap.push { cls := .type "dict", data := .dict #[] }) scope.names } : Shared) = s4 at I4p ⊢
  have st4 : s4.heap.IsListIter it a 0 := keepIt st3 fun o e => by rw [← hs4]; exact pushCells_keeps _ _ _ _ (Heap.get?_push_of_some _ e)
  have stat : ∀ {σ' : L2.St} {H' : Hp} {s' : Shared}, Inv (X.blk s3 H3 scope ce [it]) [p] σ' H' s' → H' it = none → FpOk (X.blk s3 H3 scope ce [it]) [p] H' it := fun {σ' H' s'} I' hn =>
    ⟨hn, (I'.ok.exf it (by simp)).1, I'.ok.exfs it (by simp), .inl (by simp), fun x c e => (I'.ok.exf it (by simp)).2 x c e, fun q hq => by
      have e : q = p := by simpa using (show q ∈ ([] : List (Addr × Obj)) ++ [p] from hq)
      rw [e]; exact pne⟩
  have mp : p ∈ (X.blk s3 H3 scope ce [it]).pn ++ [p] := by simp
  have loop : codeAny (model X.prog X.w) X.A (.compLoop (.ListComp elt [⟨tg, iter, ifs, 0⟩] scope pos) 0 (.ref it) (.ref D) ce) (compPost (model X.prog X.w) X.A X.xe use Qf (.ref D) s3.heap.objs.size) s4 := by
    refine compLoop_any (fun n s' => ∃ i H', Inv (X.blk s3 H3 scope ce [it]) [p] (wipe σ (own.map (·.2))) H' s' ∧ s'.heap.IsListIter it a i ∧ H' it = none ∧ W i n H') ?_ m0 ⟨0, H3, I4p, st4, nfp, w0⟩
    rintro n s5 ⟨i, H5, I5, st5, n5, w5⟩
    rcases turn i n H5 w5 with ⟨stop, qq⟩ | ⟨go, Nx, hNx, step⟩
    · have td := list_doneX (E := fun _ _ => False) (hot_of (X := X.blk s3 H3 scope ce [it]) hot mp I5) I5 (stat I5 n5) st5 stop
      refine thnF td fun r s6 ⟨hr, I6⟩ => ?_
      subst hr
      -- back in the def's context
      have I7 : Inv X pins σ H5 s6 := I3.call' (ch := [it]) I6.os I6.base I6.hok I6.bare fun b hb => ⟨(f3 b hb).1.2.2.2.1, (f3 b hb).1.2.1, (f3 b hb).1.2.2.2.2.1, (f3 b hb).1.2.2.2.2.2⟩
      have nC : H5 s3.heap.objs.size = none := by
        have z : H5 ce.locals = none := I6.free
        rw [cL] at z
        exact z
      obtain ⟨m, hn, _⟩ := I6.loc
      have hn : s6.heap.Ns ce.locals m := hn
      rw [cL] at hn
      exact hRR D s3.heap.objs.size s6 m H5 I7 qq hn (I3.fpOk (Nat.le_refl _) nC)
    · have ti := list_itemX (X := X.blk s3 H3 scope ce [it]) (tg := tg) (E := fun _ _ => False) I5 (stat I5 n5) st5 go
      refine thnF ti fun r s6 ⟨u, hr, h6⟩ => ?_
      subst hr
      refine thnF h6 fun _ s7 ⟨x, H7, I7, r7, y7, st7, n7⟩ => ?_
      have ob7 : ∀ b ∈ [it], ∃ o, s7.heap.get? b = some o ∧ ∀ v, o.data ≠ .cell v := fun b hb => by
        have e : b = it := by simpa using hb
        subst e
        obtain ⟨o, e, c, d⟩ := st7
        exact ⟨o, e, fun v z => by rw [d] at z; cases z⟩
      have I7' := I7.pinned (fp := [it]) (fun b hb => by
        have e : b = it := by simpa using hb
        subst e
        exact stat I7 n7) ob7
      refine thnF (pg _ s7 _ H7 x u _ (by simp) I7' r7 (step x H7 y7)) fun _ s8 ⟨σ8, H8, I8, hw8, q8⟩ => ?_
      refine thnF (pt.run _ s8 σ8 H8 _ I8 q8) fun b s9 ⟨H9, I9, q9⟩ => ?_
      -- the turn's end
      have fin : ∀ {s' : Shared} {H' : Hp}, Inv (X.blk s3 H3 scope ce [it]) ([p] ++ pinsAt [it] s7.heap) σ8 H' s' → Nx H' → ∃ m, m < n ∧ ∃ i H', Inv (X.blk s3 H3 scope ce [it]) [p] (wipe σ (own.map (·.2))) H' s' ∧ s'.heap.IsListIter it a i ∧ H' it = none ∧ W i m H' := fun {s' H'} I' nx => by
        obtain ⟨m', hm, w'⟩ := hNx H' nx
        have pin' : ∀ o, s7.heap.get? it = some o → s'.heap.get? it = some o ∧ H' it = none := fun o e =>
          let z := I'.pin (it, o) (List.mem_append_right _ (List.mem_append_right _ (mem_pinsAt (by simp) e)))
          ⟨z.1, z.2.1⟩
        have hl : (wipe σ (own.map (·.2))).length = σ8.length := by rw [← hw8, wipe_length]
        refine ⟨m', hm, i + 1, H', (I'.unpinned (pins := [p])).weak hl (fun j v e => ?_), keepIt st7 fun o e => (pin' o e).1, ?_, w'⟩
        · rw [← hw8] at e
          exact (wipe_some e).1
        · obtain ⟨o, e, _⟩ := ob7 it (by simp)
          exact (pin' o e).2
      cases b with
      | false =>
        simp only [Bool.false_eq_true, if_false] at q9 ⊢
        exact fin I9 q9
      | true =>
        simp only [if_true] at q9 ⊢
        refine thnF (pe.run _ s9 σ8 H9 _ I9 q9) fun z s10 ⟨yv, H10, I10, r10, acc, hD10, hz10, nx⟩ => ?_
        exact app_ok (X := X.blk s3 H3 scope ce [it]) I10 hD10 hz10 r10 fun s11 I11 => fin I11 nx
  exact codeAny_compStart_list loop (wpAny_pyIter_listiter st4 loop)
theorem pe_lcX (hot : Hot1 X.A p) (hpn : p ∈ X.pn) (hN : X.N.Nodup) (hi : PE X iter tl) (ok : BlkOk X.N X.env.scope scope own)
    (hg : ∀ (s : Shared) (H : Hp) (C : Addr) (cl : List (Str × Addr)) (fp : List Addr), PGX p (X.blk s H scope (compEnvC scope cl C X.env) fp) tg g) (ht : ∀ (s : Shared) (H : Hp) (C : Addr) (cl : List (Str × Addr)) (fp : List Addr), PTs (X.blk s H scope (compEnvC scope cl C X.env) fp) ifs tt)
    (he : ∀ (s : Shared) (H : Hp) (C : Addr) (cl : List (Str × Addr)) (fp : List Addr), PE (X.blk s H scope (compEnvC scope cl C X.env) fp) elt te) (hs : ∀ x, foldedSetIterable iter X.env x = pure x := by intro _; rfl) :
    PE X (.ListComp elt [⟨tg, iter, ifs, 0⟩] scope pos) (tLcX X.K tl g tt te (own.map (·.2))) := by
  refine ⟨fun pins s σ H Q I h => ?_⟩
  rw [eval_ListComp]
  refine lc_coreX hot hpn hN I hi ok hg ht he hs h fun D C s' m H' I' q hn f => ⟨m, hn, fun h'' sb => ?_⟩
  obtain ⟨f0, f1, f2, f3, f4, f5⟩ := f
  exact ⟨.ref D, H', I'.turned (t' := s'.toks) (fun b o hb e => (sb.2 b hb).trans e) f0 f1 f3 f4 f5, rfl, q⟩
/-- name = [..] on one line, the name a local -/
theorem ps_setLcX {i : Nat} {y : Str} {py spos : Pos} (hot : Hot1 X.A p) (hpn : p ∈ X.pn) (hN : X.N.Nodup) (hy : X.N[i]? = some y) (hyl : X.env.scope.names.lookup y = some .local)
    (hsw : swapsWith (.ListComp elt [⟨tg, iter, ifs, 0⟩] scope pos) (some (.Name y py)) spos.line X.env = pure true) (hi : PE X iter tl) (ok : BlkOk X.N X.env.scope scope own)
    (hg : ∀ (s : Shared) (H : Hp) (C : Addr) (cl : List (Str × Addr)) (fp : List Addr), PGX p (X.blk s H scope (compEnvC scope cl C X.env) fp) tg g) (ht : ∀ (s : Shared) (H : Hp) (C : Addr) (cl : List (Str × Addr)) (fp : List Addr), PTs (X.blk s H scope (compEnvC scope cl C X.env) fp) ifs tt)
    (he : ∀ (s : Shared) (H : Hp) (C : Addr) (cl : List (Str × Addr)) (fp : List Addr), PE (X.blk s H scope (compEnvC scope cl C X.env) fp) elt te) (hs : ∀ x, foldedSetIterable iter X.env x = pure x := by intro _; rfl) :
    PS X (.Assign [.Name y py] (.ListComp elt [⟨tg, iter, ifs, 0⟩] scope pos) spos) (tAsg (tLcX X.K tl g tt te (own.map (·.2))) (gName i)) := by
  refine ⟨fun pins s σ H D I h => ?_⟩
  rw [exec_Assign_Name_used _ _ _ _ hsw]
  refine wpAny_bind (wpAny_standAt (wpAny_bind ?_))
  show wpAny _ X.A (do let _ ← comprehension (.ListComp elt [⟨tg, iter, ifs, 0⟩] scope pos) scope X.env (firstIterPos [⟨tg, iter, ifs, 0⟩] pos) (newList []) false (eval iter X.env) (some (assign (.Name y py) X.env))) _ _ s
  have h : tLcX X.K tl g tt te (own.map (·.2)) σ H (fun x H1 => gName i x σ H1 D.nx) := h
  refine wpAny_bind (thn (lc_coreX (Qf := fun _ s' => SP X pins D .next s') hot hpn hN I hi ok hg ht he hs h fun L C s' m H' I' q hn f => ?_) fun _ s' hq => wpAny_pure (wpAny_pure hq))
  show wpAny _ _ (assign (.Name y py) X.env (.ref L)) _ _ _
  refine wpAny_assign_Name (store_ok2 (v := V.ref L) I' hN hy (.inl hyl) rfl (fun s2 I2 ⟨a, sb, ha⟩ => ?_) (.inr hyl))
  obtain ⟨f0, f1, f2, f3, f4, f5⟩ := f
  have haC : C ≠ a := by
    rcases ha with z | z
    · rw [z]; exact f1
    · exact fun e => f4 y a z e.symm
  refine ⟨m, hn.sameBut sb haC, fun h3 sb3 => ?_⟩
  exact ⟨_, H', I2.turned (t' := s2.toks) (fun b o hb e => (sb3.2 b hb).trans e) f0 f1 f3 f4 f5, q⟩
end
end HotX

/-! Defs that raise errors whose context is None; a def that a suite calls with the caught error: its promise, its body, isinstance there -/
namespace Gx
open PySem L2 PySem.Spec PyProof.Rows
open L2H (RoomH Hot1 PinOk HotC cxH inv_startH roomH_of)
/-! ### raising -/
theorem passLN {X : Cx} : Passes (L2N.CX X.prog X.w) X E0 := fun _ _ _ _ _ _ _ h => by
  obtain ⟨_, _, _, _, _, _, _, _, _, _, _, _, z⟩ := h
  exact z.elim
theorem passNN {X : Cx} : ∀ σ, PassesAt (L2N.CX X.prog X.w) X σ (fun _ _ _ => False) := fun σ pins H s e s' I h => passLN pins σ H s e s' I h
theorem takes0N {X : Cx} : L2N.Takes X (fun _ _ _ _ => False) := fun _ _ x => by
  obtain ⟨_, _, _, _, _, _, _, _, _, _, _, _, _, _, _, _, z⟩ := x
  exact z.elim
section
variable {P : Program} {w : World} {K : PySem.W.Frag} {mg : Str → Option Value} {base : Heap}
theorem okXN {x qual : Str} {st : Stmt} {f : Addr} {fd : FuncData} {N ps : List Str} {k : Nat} {sp : Sp} (F : Fun K x qual st f fd) (S : FnScope N ps (defScope st)) (len : ∀ vs H Q E, sp vs H Q E → vs.length = ps.length)
    (hbody : ∀ (cdv : Value) (A : Around) (outer : List Env) (s : Shared) (H : Hp) (vs : List V) (Q : VK) (E : XK), Room k (A.deeper (PyProof.Rows.envOfC qual (defScope st) s.heap.objs.size f cdv)) → sp vs H Q E →
      ∃ t, PSs (cxOf (L2N.CX P w) P w K mg base N qual (defScope st) f cdv A outer s H E) (defBody st) t ∧ t { nx := fun _ H' => Q .non H', rt := Q } (L2.start N vs) H) : FnOk P w K mg base (L2N.CX P w) (k + 1) f fd ps sp := by
  obtain ⟨oc, od, kV, doc, pm, an, cdv, ct, osl, rfl, lk, hcd⟩ := F.ex
  exact fn_of lk hcd S len fun A outer s H vs Q E hr hsp => hbody cdv A outer s H vs Q E hr hsp
end
theorem ps_ownN {X : Cx} {x : Str} {m : Str} {j : Nat} {p p2 pos pos2 : Pos} {C : Addr} {W : WX} (B : OwnE X.K X.mg x C) (hc : X.calm = true) (tk : L2N.Takes X W) (hg : Gl X x) (hdb : (x == ("__debug__" : Str)) = false := by decide) :
    PS X (.Raise (some (.Call (.Name x p) [.Constant (.str m) j p2] [] pos)) none pos2) (tOwn C W) :=
  L2N.ps_raise hc tk (L2N.pmk_own PySem.F.excBase_ValueError B.shape B.named B.kept (raises_own B.under B.typed) hg hdb)
section
variable {X : Cx} {e : Expr} {es : List Expr} {x : Str} {ta : TA} {p pos : Pos}
/-- a def that may raise, called by its name -/
structure CalXN (P : Program) (w : World) (K : PySem.W.Frag) (mg : Str → Option Value) (base : Heap) (k : Nat) (x : Str) (sp : Sp) : Prop where
  ex : ∃ (f : Addr) (fd : FuncData) (ps : List Str), FnOk P w K mg base (L2N.CX P w) k f fd ps sp ∧ mg x = some (.ref f) ∧ PySem.W.keepIn K (.ref f) = true ∧ Binds K fd ps []
theorem pe_cXN {k j : Nat} {sp : Sp} {E : L2.St → XK} (c : CalXN X.prog X.w X.K X.mg X.base k x sp) (hr : Room j X.A) (hk : k ≤ j) (hg : Gl X x) (hx : ∀ σ, PassesAt (L2N.CX X.prog X.w) X σ (E σ)) (ha : PA X (e :: es) ta)
    (hdb : (x == ("__debug__" : Str)) = false := by decide) (he : starEach (e :: es) X.env = (false, eval e X.env) :: starEach es X.env := by rfl) (hpl : (backTo pos (starEach es X.env)).any (·.1) = false := by rfl) : PE X (.Call (.Name x p) (e :: es) [] pos) (tCallS sp E ta) := by
  obtain ⟨f, fd, ps, F, named, kept, b⟩ := c.ex
  exact pe_callS F (hr.mono hk) hg named kept b hx ha hdb he hpl
/-- .. with keywords alone -/
structure CalKXN (P : Program) (w : World) (K : PySem.W.Frag) (mg : Str → Option Value) (base : Heap) (k : Nat) (x : Str) (ks : List Str) (gV : List V → List V → List V) (sp : Sp) : Prop where
  ex : ∃ (f : Addr) (fd : FuncData) (ps : List Str) (g : List Value → List Value → List Value), FnOk P w K mg base (L2N.CX P w) k f fd ps sp ∧ mg x = some (.ref f) ∧ PySem.W.keepIn K (.ref f) = true ∧ KBinds K fd ps ks g gV
theorem pe_cKXN {k j : Nat} {ks : List Str} {gV : List V → List V → List V} {sp : Sp} {kws : List Keyword} {tk : TA} {E : L2.St → XK} (c : CalKXN X.prog X.w X.K X.mg X.base k x ks gV sp) (hr : Room j X.A) (hk : k ≤ j) (hg : Gl X x) (hx : ∀ σ, PassesAt (L2N.CX X.prog X.w) X σ (E σ)) (hkw : PK X kws tk)
    (hdb : (x == ("__debug__" : Str)) = false := by decide) (hall : (backToKw pos (keywordEach kws X.env)).all (·.1.isSome) = true := by rfl) (hks : (backToKw pos (keywordEach kws X.env)).filterMap (·.1) = ks := by rfl)
    (hpl : ((backTo pos (starEach [] X.env)).any (·.1) || (backToKw pos (keywordEach kws X.env)).any (·.1.isNone)) = false := by rfl) : PE X (.Call (.Name x p) [] kws pos) (tCallKX sp gV E tk) := by
  obtain ⟨f, fd, ps, g, F, named, kept, kb⟩ := c.ex
  refine ⟨fun pins s σ H Q I h => wpAny_Call_Name_kw (ld_glob I hg named ?_ hdb)⟩
  refine PySem.W.callWith_KW0 (h₀ := X.base) I.ok.mod.kin kept hall (thn (hkw.run pos pins s σ H _ I h) fun ws s2 got => ?_) hpl
  obtain ⟨zs, H2, I2, rz, q2⟩ := got
  refine ⟨I2.kIn, ?_⟩
  rw [hks]
  exact run_fnkS (us := []) (vs := []) F (hr.mono hk) kb (hx σ) I2 .nil rz q2
end
theorem calXN_of {P : Program} {w : World} {K : PySem.W.Frag} {mg : Str → Option Value} {base : Heap} {x : Str} {st : Stmt} {ps : List Str} {f : Addr} {fd : FuncData} {k : Nat} {sp : Sp} (D : Dn K mg x st ps f fd) (F : FnOk P w K mg base (L2N.CX P w) k f fd ps sp) : CalXN P w K mg base k x sp := ⟨f, fd, ps, F, D.mgf, D.fn.kp, D.bd⟩
/-! ### a def called with the caught error -/
/-- what it promises: sp by the error's class, where the error has no dict of its own -/
structure FnO (P : Program) (w : World) (K : PySem.W.Frag) (mg : Str → Option Value) (base : Heap) (k : Nat) (f : Addr) (fd : FuncData) (y : Str) (sp : Value → Hp → VK → Prop) : Prop where
  run : ∀ (A : Around) (outer : List Env) (s : Shared) (H : Hp) (args : Args) (Q : VK) (p : Addr × Obj) (cls : Value), RoomH k A → Hot1 A p → Zc cls none p.2 → PinOk outer H s p → Env0 P w K mg base A outer s H → BindsTo s fd args [(y, .ref p.1)] → sp cls H Q →
    codeAny (model P w) A (.call (.ref f) args) (CR CX0 outer P w H s Q (fun _ _ _ => False)) s
theorem fn_ofO {P : Program} {w : World} {K : PySem.W.Frag} {mg : Str → Option Value} {base : Heap} {k : Nat} {x qual : Str} {st : Stmt} {f : Addr} {fd : FuncData} {N : List Str} {y : Str} {sp : Value → Hp → VK → Prop} (F : Fun K x qual st f fd) (S : FnScope N [y] (defScope st))
    (hbody : ∀ (cdv : Value) (A : Around) (outer : List Env) (s : Shared) (H : Hp) (Q : VK) (p : Addr × Obj) (cls : Value), Hot1 A p → Zc cls none p.2 → RoomH k (A.deeper (PyProof.Rows.envOfC qual (defScope st) s.heap.objs.size f cdv)) → sp cls H Q →
      ∃ t, PSs (cxH CX0 P w K mg base N qual (defScope st) f cdv A outer s H (fun _ _ _ => False) p) (defBody st) t ∧ t { nx := fun _ H' => Q .non H', rt := Q } (L2.start N [.ref p.1]) H) :
    FnO P w K mg base (k + 1) f fd y sp := by
  obtain ⟨oc, od, kV, doc, pm, an, cdv, ct, osl, rfl, lk, hcd⟩ := F.ex
  refine ⟨fun A outer s H args Q p cls hr hot hz hpin e0 hb hsp => ?_⟩
  have r : Vals [V.ref p.1] [Value.ref p.1] := .cons rfl .nil
  have KX : K.In s.heap := e0.mod.kin.keeps fun b o e => (e0.bs b o e).1
  have lim : s.heap.NoLimit := e0.mod.nolimit.keeps fun b o e => (e0.bs b o e).1
  have hb : BindsTo s _ args ([y].zip [Value.ref p.1]) := hb
  have hkind : ∀ z ∈ [y].zip [Value.ref p.1], (defScope st).names.lookup z.1 = some .local ∨ ((defScope st).names.lookup z.1 = some .cell ∧ ((cellsFrom (s.heap.objs.size + 1) (defScope st).names []).lookup z.1).isSome = true) := fun ⟨n, v⟩ hy => by
    rcases S.par n (List.of_mem_zip hy).1 with q | q
    · exact .inl q
    · exact .inr ⟨q, PySem.W.cellsFrom_some _ _ _ (.inl q)⟩
  refine codeAny_call_function hr.depth (KX _ _ lk) rfl S.co S.gen rfl (PySem.W.codeRec_of KX hcd) (hb _ _ _ _ ?_)
  refine wpAny_newFunctionEnv_cells S.kind hkind fun env he s1 x => ?_
  subst he
  refine ⟨lim.keeps x.toInCall.keep, codeAny_func ?_⟩
  obtain ⟨t, ht, hq⟩ := hbody cdv A outer s H Q p cls hot hz (hr.deeper _) hsp
  have I : Inv (cxH CX0 P w K mg base N qual (defScope st) f cdv A outer s H (fun _ _ _ => False) p) [] (L2.start N [.ref p.1]) H s1 := inv_startH S hpin e0 rfl r x
  refine wpAny_mono (ht.run [] s1 (L2.start N [.ref p.1]) H _ I hq) (fun fl s' hs => ?_) fun e s' hs => hs
  have fin : ∀ {σ' : L2.St} {H' : Hp} {v : V} {u : Value}, Inv (cxH CX0 P w K mg base N qual (defScope st) f cdv A outer s H (fun _ _ _ => False) p) [] σ' H' s' → RelV v u → Q v H' → CE outer P w H s Q u s' :=
    fun {σ' H' v u} J rv q => ⟨v, H', J.os, J.bare, J.base, J.hok, rv, q⟩
  cases fl with
  | ret u =>
    obtain ⟨v, σ', H', J, rv, q⟩ := hs
    exact fin J rv q
  | next =>
    obtain ⟨σ', H', J, q⟩ := hs
    exact fin (v := V.non) (u := Value.none) J rfl q
  | brk =>
    obtain ⟨_, _, _, q⟩ := hs
    exact False.elim q
  | cont =>
    obtain ⟨_, _, _, q⟩ := hs
    exact False.elim q
/-- called by its name -/
structure CalO (P : Program) (w : World) (K : PySem.W.Frag) (mg : Str → Option Value) (base : Heap) (k : Nat) (x : Str) (sp : Value → Hp → VK → Prop) : Prop where
  ex : ∃ (f : Addr) (fd : FuncData) (y : Str), FnO P w K mg base k f fd y sp ∧ mg x = some (.ref f) ∧ PySem.W.keepIn K (.ref f) = true ∧ Binds K fd [y] []
def tCallO (a : Addr) (cls : Value) (d : Option Addr) (sp : Value → Hp → VK → Prop) (te : TE) : TE := fun σ H Q => te σ H fun x H1 => x = .ref a ∧ d = none ∧ sp cls H1 Q
theorem pe_callO {X : Cx} {k j : Nat} {x : Str} {a : Addr} {oe : Obj} {cls : Value} {d : Option Addr} {pn : List (Addr × Obj)} {e : Expr} {te : TE} {sp : Value → Hp → VK → Prop} {q pos : Pos} (c : CalO X.prog X.w X.K X.mg X.base k x sp) (hr : Room j X.A) (hk : k ≤ j)
    (hg : Gl X x) (hz : L2N.Zn cls d oe) (hf : ∃ vs, oe.data = .fields vs) (he : PE (X.suite a ((a, oe) :: pn)) e te)
    (hdb : (x == ("__debug__" : Str)) = false := by decide) (hst : starEach [e] X.env = (false, eval e X.env) :: starEach [] X.env := by rfl) (hpl : (backTo pos (starEach [] X.env)).any (·.1) = false := by rfl) :
    PE (X.suite a ((a, oe) :: pn)) (.Call (.Name x q) [e] [] pos) (tCallO a cls d sp te) := by
  obtain ⟨f, fd, y, F, named, kept, b⟩ := c.ex
  refine ⟨fun pins s σ H Q I h => ?_⟩
  refine wpAny_Call_Name_kw (ld_glob I hg named ?_ hdb)
  have ha : PA (X.suite a ((a, oe) :: pn)) [e] (tCons te tNil) := pa_cons he pa_nil hst
  refine PySem.W.callWith_K (h₀ := X.base) I.ok.mod.kin kept (thn (ha.run pos pins s σ H (fun vs H1 => match vs with | [v] => v = .ref a ∧ d = none ∧ sp cls H1 Q | _ => False) I h) fun us s1 ⟨vs, H1, I1, r, q⟩ => ⟨I1.kIn, ?_⟩) hst hpl
  match vs, r, q with
  | [v], r, ⟨ev, ed, q2⟩ =>
    subst ev
    subst ed
    obtain ⟨u, rfl, ru⟩ := vals1 r
    cases (show u = Value.ref a from ru)
    have b := b s1 [.ref a] I1.kIn rfl
    rw [List.append_nil] at b
    obtain ⟨vs, hv⟩ := hf
    have P1 := I1.pin (a, oe) (List.mem_append_left _ List.mem_cons_self)
    have hpin : PinOk (X.suite a ((a, oe) :: pn)).stack H1 s1 (a, oe) := ⟨P1.1, P1.2.1, fun hm => (List.mem_cons.mp (I1.stkSub a hm)).elim P1.2.2.1 P1.2.2.2.1, P1.2.2.2.2⟩
    have hot : Hot1 (X.suite a ((a, oe) :: pn)).A (a, oe) := ⟨rfl, vs, hv, hz.2.2 vs hv⟩
    have hr' : RoomH k (X.suite a ((a, oe) :: pn)).A := by have z := roomH_of (hr.mono hk); exact ⟨z.dp, z.un⟩
    refine wpAny_call (codeAny_mono (F.run (X.suite a ((a, oe) :: pn)).A (X.suite a ((a, oe) :: pn)).stack s1 H1 ⟨[.ref a], []⟩ Q (a, oe) cls hr' hot hz.zc hpin I1.env0 b q2) fun r s' hq => ?_)
    cases r with
    | error e => exact hq.elim
    | ok fl =>
      cases fl with
      | ret u => exact I1.after hq
      | next => exact False.elim hq
      | brk => exact False.elim hq
      | cont => exact False.elim hq
end Gx
namespace Gx
open PySem L2 PySem.Spec PyProof.Rows
open L2H (RoomH Hot1 PinOk HotC cxH inv_startH roomH_of)
/-- isinstance(e, c) and isinstance(e, (c, ..)), e a caught error without a dict, in a def it was passed to -/
def rIsO (K : PySem.W.Frag) (a : Addr) (cls : Value) : List V → Hp → VK → Prop := fun xs H Q => ∃ (D : Addr) (c : V) (b : Bool), xs = [.ref a, c] ∧ cls = .ref D ∧ L2.ExcC K D ∧
  ((∃ u, ClsV c u ∧ PySem.W.kitOne K (.ref D) u = some b) ∨ ∃ tp cs us, c = .ref tp ∧ H tp = some (.tup cs) ∧ Paired ClsV cs us ∧ PySem.W.kitAny K (.ref D) us = some b) ∧ Q (.bl b) H
theorem call_isO {X : Cx} {p : Addr × Obj} {cls : Value} (hp : p ∈ X.pn) (hz : Zc cls none p.2) (hf : ∃ vs, p.2.data = .fields vs) : CallR X (.builtin "isinstance") (rIsO X.K p.1 cls) := by
  intro pins s σ H xs us Q I r h
  obtain ⟨D, c, b, rfl, rfl, C, hc, q⟩ := h
  obtain ⟨u1, u2, rfl, r1, r2⟩ := vals2 r
  cases (show u1 = Value.ref p.1 from r1)
  obtain ⟨hget, _⟩ := I.pin p (List.mem_append.mpr (.inl hp))
  obtain ⟨vs, hv⟩ := hf
  have J : PySem.W.InstAt s.heap p.1 p.2 D none := by
    obtain ⟨a, oc, od, oda, osl⟩ := p
    obtain ⟨h1, h2⟩ := hz
    dsimp only at h1 h2 hv hget ⊢
    subst h1 h2 hv
    exact ⟨hget, rfl, rfl, trivial⟩
  have Z := PySem.W.handS_kitx_exc (x := p.1) (ox := p.2) C.hg C.hk C.hs C.hd C.ha C.hn C.ht C.hm
  rcases hc with ⟨u, k, e⟩ | ⟨tp, cs, ws, rfl, hT, k, e⟩
  · have e2 := k.eq r2
    subst e2
    exact PySem.W.kia_one Z I.kIn J e (fun z => nomatch z) fun tk => ⟨.bl b, H, I.tok tk, rfl, q⟩
  · cases (show u2 = Value.ref tp from r2)
    obtain ⟨_, its, rv, o, h1, h2, n, h3⟩ := (show ObjOk X.prog X.w H s.heap tp (.tup cs) from I.hok tp _ hT)
    have e3 := ClsV.all k rv
    subst e3
    obtain ⟨oc, od', dt, sl⟩ := o
    simp only at h2 h3
    subst h2 h3
    exact PySem.W.kia_tup Z I.kIn J h1 e (fun z => nomatch z) fun tk => ⟨.bl b, H, I.tok tk, rfl, q⟩
section
variable {σ : L2.St} {H : Hp} {Q : VK} {K : PySem.W.Frag} {te : TE} {a : Addr} {cls : Value}
theorem g_callO {d : Option Addr} {sp : Value → Hp → VK → Prop} (q : te σ H fun x H1 => x = .ref a ∧ d = none ∧ sp cls H1 Q) : tCallO a cls d sp te σ H Q := q
theorem g_isO1 {D : Addr} {c : V} {u : Value} {b : Bool} (hc : cls = .ref D) (C : L2.ExcC K D) (k : ClsV c u) (e : PySem.W.kitOne K (.ref D) u = some b) (q : Q (.bl b) H) : rIsO K a cls [.ref a, c] H Q := ⟨D, c, b, rfl, hc, C, .inl ⟨u, k, e⟩, q⟩
theorem g_isOn {D tp : Addr} {cs : List V} {us : List Value} {b : Bool} (hc : cls = .ref D) (C : L2.ExcC K D) (hT : H tp = some (.tup cs)) (k : Paired ClsV cs us) (e : PySem.W.kitAny K (.ref D) us = some b) (q : Q (.bl b) H) : rIsO K a cls [.ref a, .ref tp] H Q :=
  ⟨D, _, b, rfl, hc, C, .inr ⟨tp, cs, us, rfl, hT, k, e⟩, q⟩
end
end Gx

/-! set(xs), xs a list: what is true of the set behind each item, by any word J -/
namespace Gx
open PySem L2 PySem.Spec PyProof.Rows
section
variable {P : Program} {w : World} {A : Around} {E : Value → Shared → Prop} {s : Shared}
/-- one add: from J i to J (i + 1), only the set and the tokens change -/
def Adds (P : Program) (w : World) (S : Addr) (h0 : Heap) (J : Nat → Heap → Prop) (i : Nat) (v : Value) : Prop :=
  ∀ (B : Around) (F : Value → Shared → Prop) (s : Shared) (Q : Bool → Shared → Prop), B.units < cLine → J i s.heap → (∀ b o, h0.get? b = some o → s.heap.get? b = some o) →
    (∀ r h' tk, Heap.SameBut S s.heap h' → J (i + 1) h' → s.toks ≤ tk → Q r { s with heap := h', toks := tk }) → wpAny (model P w) B (setAdd S v) Q F s
/-- what J leans on: the set's object and what stood before -/
def Leans (S : Addr) (h0 : Heap) (J : Nat → Heap → Prop) : Prop :=
  ∀ i h h', J i h → (∀ o, h.get? S = some o → h'.get? S = some o) → (∀ b o, h0.get? b = some o → h'.get? b = some o) → J i h'
theorem set_turns {I : Addr} {fp wr : List Addr} {G : Array GenState → Array GenState → Prop} {n : Nat} {Pv : Nat → Value → Prop} {St : Nat → Shared → Prop} {R : Result → Shared → Prop}
    (W : WalksS P w A.in1 I fp wr G n Pv St) {S : Addr} (apart : S ∉ fp) {h0 : Heap} (S0 : h0.get? S = none) (w0 : ∀ b ∈ wr, h0.get? b = none) (hu : A.in1.units < cLine)
    {J : Nat → Heap → Prop} (lean : Leans S h0 J) (adds : ∀ i v, i < n → Pv i v → Adds P w S h0 J i v) :
    ∀ (k i : Nat) (s : Shared), n - i = k → i ≤ n → St i s → (∀ b o, h0.get? b = some o → s.heap.get? b = some o) → J i s.heap →
      (∀ s', Moved (S :: wr) G s s' → J n s'.heap → (∀ b o, h0.get? b = some o → s'.heap.get? b = some o) → R (.ok (.ret .none)) s') →
      codeAny (model P w) A (.builtin "set.update.loop" ⟨[.ref S, .ref I], []⟩) R s := by
  have nwr : S ∉ wr := fun h => apart (W.sub _ h)
  have more : ∀ b ∈ wr, b ∈ S :: wr := fun b hb => List.mem_cons_of_mem _ hb
  have stays : ∀ {s s' : Shared}, Moved wr G s s' → (∀ b o, h0.get? b = some o → s.heap.get? b = some o) → ∀ b o, h0.get? b = some o → s'.heap.get? b = some o := fun mv st b o e =>
    mv.heap b o (fun hb => by rw [w0 b hb] at e; cases e) (st b o e)
  intro k
  induction k with
  | zero =>
    intro i s hk hi st old ji fin
    obtain rfl : i = n := by omega
    refine codeAny_builtin F.entry_set_update_loop ?_
    rw [Around.under_plainId F.plain_set_update_loop _]
    refine wpAny_bind (W.done s _ _ st fun s' mv => ?_)
    exact wpAny_pure (fin s' (mv.mono more) (lean i _ _ ji (fun o e => mv.heap S o nwr e) (stays mv old)) (stays mv old))
  | succ k ih =>
    intro i s hk hi st old ji fin
    have lt : i < n := by omega
    refine codeAny_builtin F.entry_set_update_loop ?_
    rw [Around.under_plainId F.plain_set_update_loop _]
    refine wpAny_bind (W.item i s _ _ lt st fun v s' pv st' mv => ?_)
    have old' := stays mv old
    refine wpAny_bind (wpAny_holding (adds i v lt pv A.in1 _ s' _ hu (lean i _ _ ji (fun o e => mv.heap S o nwr e) old') old' fun r h' tk sb ji' le => ?_))
    have old2 : ∀ b o, h0.get? b = some o → h'.get? b = some o := fun b o e => (sb.2 b (fun z => by rw [z, S0] at e; cases e)).trans (old' b o e)
    refine wpAny_pure ⟨plainId_quiet F.plain_set_update_loop _, ih (i + 1) _ (by omega) lt (W.frame _ s' _ _ st' le fun b hb o e => (sb.2 b (fun z => apart (by rw [← z]; exact hb))).trans e) old2 ji' fun s2 mv2 jn old3 => ?_⟩
    exact fin s2 (Moved.trans W.gtrans ((mv.mono more).then_heap le fun b o hb e => (sb.2 b (fun z => hb (by rw [z]; exact List.mem_cons_self))).trans e) mv2) jn old3
set_option maxHeartbeats 4000000 in
theorem set_of_list {l : Addr} {items : Array Value} {Q : Value → Shared → Prop} (J : Nat → Heap → Prop) (calm : A.handled = none) (hl : s.heap.IsList l items) (hu : A.units + 8 < cLine)
    (lean : Leans s.heap.objs.size s.heap J) (adds : ∀ (i : Nat) v, items[i]? = some v → Adds P w s.heap.objs.size s.heap J i v)
    (start : ∀ h', h'.get? s.heap.objs.size = some { cls := .type "set", dict := none, data := .set #[] 0 (.fresh 0 0 (!w.params.followText "set-order")) } → (∀ b o, s.heap.get? b = some o → h'.get? b = some o) → J 0 h')
    (fin : ∀ h' tk, J items.size h' → (∀ b o, s.heap.get? b = some o → h'.get? b = some o) → Q (.ref s.heap.objs.size) { s with heap := h', toks := tk }) :
    wpAny (model P w) A (call (.type "set") [.ref l]) Q E s := by
  obtain ⟨c, tl, inMro⟩ := F.called_set.mro
  have isMade := F.called_set.made
  have isSub := F.called_set.sub
  refine wpAny_call (codeAny_of_tree ?_)
  show wpAny _ _ (callAny (.type "set") _) _ _ _
  refine wpAny_pure ⟨Code.quiet_builtin _ (by decide +kernel), codeAny_builtin F.entry_type_call ?_⟩
  rw [Around.under_plain (weight_type_call_type "set" [.ref l] []) rfl]
  have noType := F.called_set.notType
  have canMake := F.called_set.canCreate
  have checked := F.typeCall_set_1 (.ref l)
  repeat (any_goals (first | assumption | wp_step))
  generalize ef : (Obj.mk (.type "set") none (.set #[] 0 (.fresh 0 0 (!w.params.followText "set-order"))) #[]) = fresh
  refine codeAny_mono (code_set_led1 (.ref l) (E := E) (Q₁ := fun v s1 => v = .ref s.heap.objs.size ∧ s1 = { s with heap := s.heap.push fresh }) (by subst ef; exact ⟨rfl, rfl⟩)) fun r s1 got => ?_
  cases r with
  | error e => exact got
  | ok fl =>
    cases fl with
    | ret v =>
      obtain ⟨rfl, rfl⟩ := got
      have at_S : (s.heap.push fresh).get? s.heap.objs.size = some fresh := by subst ef; exact Heap.get?_push_size _ rfl
      have isSet : Shared.TypeIs { s with heap := s.heap.push fresh } (.ref s.heap.objs.size) "set" := ⟨_, at_S, by subst ef; rfl⟩
      have look := F.called_set.init.lookup
      have bound := F.called_set.init.bind (.ref s.heap.objs.size)
      repeat (any_goals (first | assumption | wp_step))
      refine codeAny_mono (codeAny_call_builtin (R := wants (fun r s2 => r = .none ∧ ∃ h' tk, s2 = { s with heap := h', toks := tk } ∧ J items.size h' ∧ (∀ b o, s.heap.get? b = some o → h'.get? b = some o)) E)
        F.called_set.init.plain F.entry_set_init (check_set_init_1 isSet ?_)) fun r2 s2 got2 => ?_
      · subst ef
        obtain ⟨ol, hol, hcl, nl, hdl⟩ := hl
        obtain ⟨ocls, odict, odata, oslots⟩ := ol
        simp only at hcl hdl
        subst hcl; subst hdl
        have there : (s.heap.push ⟨.type "set", none, .set #[] 0 (.fresh 0 0 (!w.params.followText "set-order")), #[]⟩).get? l = some { cls := .type "list", dict := odict, data := .seq items nl, slots := oslots } := Heap.get?_push_of_some _ hol
        have s1 := F.sub_list_set
        have s2 := F.sub_list_frozenset
        have ne : (Value.type "list" == Value.type "dict") = false := by decide
        have isL : (s.heap.push ⟨.type "set", none, .set #[] 0 (.fresh 0 0 (!w.params.followText "set-order")), #[]⟩).IsList l items := ⟨_, there, rfl, nl, rfl⟩
        unfold Builtin.«set.__init__» noKeywords Builtin.Frozenset.updateFrom
        generalize ePI : pyIter = PI
        wp_walk
        subst ePI
        refine wpAny_pyIter_list isL ?_
        refine wpAny_bind ?_
        refine wpAny_runValue ?_
        have calm3 : A.in1.in1.in1.handled = none := by simp [calm]
        have sz : (s.heap.push ⟨.type "set", none, .set #[] 0 (.fresh 0 0 (!w.params.followText "set-order")), #[]⟩).objs.size = s.heap.objs.size + 1 := Heap.size_push ..
        have lS := Heap.lt_size hol
        have nl1 : l ≠ (s.heap.push ⟨.type "set", none, .set #[] 0 (.fresh 0 0 (!w.params.followText "set-order")), #[]⟩).objs.size := by rw [sz]; exact Nat.ne_of_lt (Nat.lt_succ_of_lt lS)
        have free : ∀ b, s.heap.objs.size ≤ b → s.heap.get? b = none := fun b hb => by
          cases q : s.heap.get? b with
          | none => rfl
          | some o => exact absurd (Nat.lt_of_lt_of_le (Heap.lt_size q) hb) (Nat.lt_irrefl _)
        have apart : s.heap.objs.size ∉ [(s.heap.push ⟨.type "set", none, .set #[] 0 (.fresh 0 0 (!w.params.followText "set-order")), #[]⟩).objs.size, l] := by
          rw [sz]
          simp only [List.mem_cons, List.not_mem_nil, or_false, not_or]
          exact ⟨Nat.ne_of_lt (Nat.lt_succ_self _), Nat.ne_of_gt lS⟩
        have old1 : ∀ b o, s.heap.get? b = some o → ((s.heap.push ⟨.type "set", none, .set #[] 0 (.fresh 0 0 (!w.params.followText "set-order")), #[]⟩).push { cls := .type "list_iterator", data := .fields #[.ref l, .int 0 0] }).get? b = some o := fun b o e => Heap.get?_push_of_some _ (Heap.get?_push_of_some _ e)
        refine set_turns ((Walks.list calm3 _ l nl1 items).toS) apart (h0 := s.heap) (free _ (Nat.le_refl _)) (fun b hb => free b (by rw [List.mem_singleton.mp hb, sz]; exact Nat.le_succ _)) (by show A.units + 1 + 1 + 1 < cLine; omega) lean
          (fun i v _ pv => adds i v pv) (items.size - 0) 0 _ (by omega) (Nat.zero_le _) ⟨⟨_, Heap.get?_push_size _ rfl, rfl, rfl⟩, (isL.push _)⟩ old1 (start _ (Heap.get?_push_of_some _ at_S) old1) fun s3 mv jn old => ?_
        obtain ⟨h', g2, d', tk', os'⟩ := s3
        obtain rfl : g2 = s.gens := mv.gens
        obtain rfl : d' = s.drawn := mv.drawn
        obtain rfl : os' = s.os := mv.os
        show wpAny _ _ _ _ _ _
        refine wpAny_pure ?_
        show wpAny _ _ (ret Value.none) _ _ _
        exact wpAny_pure ⟨rfl, h', tk', rfl, jn, old⟩
      · cases r2 with
        | error e => exact got2
        | ok fl2 =>
          cases fl2 with
          | ret r =>
            obtain ⟨rfl, h', tk, rfl, jn, old⟩ := got2
            repeat (any_goals (first | assumption | wp_step))
            exact fin h' tk jn old
          | _ => exact got2.elim
    | _ => exact got.elim
end
end Gx

/-! set(xs), xs a list of ints -/
namespace Gx
open PySem L2 PySem.Spec PyProof.Rows
section
variable {P : Program} {w : World}
def JI (w : World) (S : Addr) (ns : List Int) (i : Nat) (h : Heap) : Prop := ∃ M n, SetR w h S M n ∧ (∀ k, M k = true ↔ k ∈ ns.take i) ∧ n ≤ i
theorem ji_lean {S : Addr} {h0 : Heap} {ns : List Int} : Leans S h0 (JI w S ns) := fun i h h' ⟨M, n, R, m, l⟩ k _ => ⟨M, n, R.at k, m, l⟩
theorem ji_adds {S : Addr} {h0 : Heap} {ns : List Int} {i : Nat} {k : Int} {t : Tok} (hk : ns[i]? = some k) (few : ns.length + 1 < scanBound) : Adds P w S h0 (JI w S ns) i (.int k t) := by
  intro B F s Q hu ji old fin
  obtain ⟨M, n, R, m, l⟩ := ji
  have hi := (List.getElem?_eq_some_iff.mp hk).1
  unfold setAdd
  refine wpAny_holding ?_
  refine wpAny_bind ((intKind P w).pyHash (k := k) (intKind_is _ _ _ _) ?_)
  have R1 : SetR w ({ s with toks := s.toks + 1 } : Shared).heap S M n := R
  refine setR_add_hashed (P := P) R1 (by omega) fun h' sb R2 => ?_
  refine fin _ h' (s.toks + 1) sb ⟨_, _, R2, fun j => ?_, ?_⟩ (Nat.le_succ _)
  · rw [List.take_succ, hk, Bool.or_eq_true, decide_eq_true_eq, List.mem_append, m j]
    simp
  · split <;> omega
theorem ji_start {S : Addr} {ns : List Int} {h : Heap} (e : h.get? S = some { cls := .type "set", dict := none, data := .set #[] 0 (.fresh 0 0 (!w.params.followText "set-order")) }) : JI w S ns 0 h := by
  refine ⟨fun _ => false, 0, ⟨_, #[], 0, _, e, ⟨rfl, rfl, rfl⟩, rfl, fun e h => (by cases h), List.nodup_nil, fun k => by simp, by decide, by rfl, rfl, by simp [SetTable.fresh, Ris], ?_⟩, fun k => by simp, Nat.le_refl 0⟩
  cases w.params.followText "set-order" with
  | true => exact .inl rfl
  | false => exact .inr rfl
end
section
variable {X : Cx}
def rSetOfI (K : PySem.W.Frag) (w : World) : List V → Hp → VK → Prop := fun xs H Q => ∃ (l : Addr) (ns : List Int), xs = [V.ref l] ∧ SqL K H l (ns.map V.int) ∧ ns.length < 4000 ∧
  ∀ (a : Addr) (M : Int → Bool) (n : Nat), H a = none → (∀ k, M k = true ↔ k ∈ ns) → n ≤ ns.length → Q (.ref a) (upd H a (SetO w a M n))
theorem cr_setOfI {j : Nat} (hc : X.calm = true) (hr : Room j X.A) : CallR X (.type "set") (rSetOfI X.K X.w) := by
  intro pins s σ H xs us Q I rel h
  obtain ⟨l, ns, rfl, sq, few, k⟩ := h
  rw [Vals.ref1 rel]
  obtain ⟨its, rv, pl, sz⟩ := I.list sq
  have len : its.toArray.size = ns.length := by rw [List.size_toArray, ← rv.length, List.length_map]
  have few' : ns.length + 1 < scanBound := by have : scanBound = 4096 := rfl; omega
  refine set_of_list (JI X.w s.heap.objs.size ns) (I.ok.hd hc) pl.isList (by have := hr.units; omega) ji_lean (fun i v hv => ?_) (fun h' e _ => ji_start e) fun h' tk jn old => ?_
  · rw [List.getElem?_toArray] at hv
    have hlt : i < ns.length := by
      have := (List.getElem?_eq_some_iff.mp hv).1
      rw [← rv.length, List.length_map] at this
      exact this
    obtain ⟨u, e1, r1⟩ := rv.get (i := i) (x := V.int ns[i]) (by rw [List.getElem?_map, List.getElem?_eq_getElem hlt] <;> rfl)
    rw [hv] at e1
    obtain rfl := Option.some.inj e1
    obtain ⟨t, rfl⟩ := r1
    exact ji_adds (List.getElem?_eq_getElem hlt) few'
  · obtain ⟨M, n, R, m, ln⟩ := jn
    rw [len, List.take_length] at m
    rw [len] at ln
    have new : H s.heap.objs.size = none := I.hok.fresh (Nat.le_refl _)
    exact ⟨.ref s.heap.objs.size, upd H s.heap.objs.size (SetO X.w s.heap.objs.size M n), I.laid (t' := tk) old (Nat.le_refl _) (setO_new R), rfl, k _ M n new m ln⟩
theorem g_setI {K : PySem.W.Frag} {w : World} {l : Addr} {ns : List Int} {H : Hp} {Q : VK} (h : SqL K H l (ns.map V.int)) (few : ns.length < 4000)
    (k : ∀ (a : Addr) (M : Int → Bool) (n : Nat) (H' : Hp), H a = none → Same H H' → H' a = some (SetO w a M n) → (∀ k, M k = true ↔ k ∈ ns) → n ≤ ns.length → Q (.ref a) H') : rSetOfI K w [V.ref l] H Q :=
  ⟨l, ns, rfl, h, few, fun a M n ha m ln => k a M n _ ha (same_new ha) upd_same m ln⟩
theorem g_sortedSet {w : World} {a : Addr} {M : Int → Bool} {n : Nat} {H : Hp} {Q : VK} (h : H a = some (SetO w a M n)) (few : n < 64)
    (k : ∀ (ns : List Int) (p : Addr) (H' : Hp), ns.Pairwise (· < ·) → (∀ k : Int, k ∈ ns ↔ M k = true) → ns.length = n → H p = none → Same H H' → H' p = some (.lst (ns.map V.int)) → Q (.ref p) H') : rSortedSet w [V.ref a] H Q :=
  ⟨a, M, n, rfl, h, few, fun ns p h1 h2 h3 h4 => k ns p _ h1 h2 h3 h4 (same_new h4) upd_same⟩
end
end Gx

/-! The slots of a set's table of any size: all of them are met; putting in, laying anew -/
namespace Gx
open PySem L2 PySem.Spec PyProof.Rows
/-! ### the sums 1 + 5 + 25 + .. meet every remainder by a power of two -/
def geo : Nat → Nat
  | 0 => 0
  | n + 1 => geo n * 5 + 1
theorem geo_add (a : Nat) : ∀ b, geo (a + b) = geo a * 5 ^ b + geo b
  | 0 => by simp [geo]
  | b + 1 => by
    show geo (a + b) * 5 + 1 = geo a * 5 ^ (b + 1) + (geo b * 5 + 1)
    rw [geo_add a b, Nat.pow_succ, ← Nat.mul_assoc]
    omega
theorem lcg_geo (m : Nat) : ∀ b, lcgN m b = geo b % (m + 1)
  | 0 => (Nat.zero_mod _).symm
  | b + 1 => by
    show (lcgN m b * 5 + 1) % (m + 1) = (geo b * 5 + 1) % (m + 1)
    rw [lcg_geo m b]
    simp [Nat.add_mod, Nat.mul_mod]
theorem five_odd : ∀ n, ∃ r, 5 ^ n = 2 * (2 * r) + 1
  | 0 => ⟨0, rfl⟩
  | n + 1 => by
    obtain ⟨r, e⟩ := five_odd n
    exact ⟨5 * r + 1, by rw [Nat.pow_succ, e]; omega⟩
theorem geo_pow : ∀ k, ∃ q, geo (2 ^ k) = 2 ^ k * (2 * q + 1)
  | 0 => ⟨0, rfl⟩
  | k + 1 => by
    obtain ⟨q, e⟩ := geo_pow k
    obtain ⟨r, f⟩ := five_odd (2 ^ k)
    refine ⟨q * (2 * r + 1) + r, ?_⟩
    have e2 : 2 ^ (k + 1) = 2 ^ k + 2 ^ k := by rw [Nat.pow_succ]; omega
    have e3 : geo (2 ^ (k + 1)) = geo (2 ^ k) * (2 * (2 * r + 1)) := by
      rw [e2, geo_add, f]
      have : geo (2 ^ k) * (2 * (2 * r + 1)) = geo (2 ^ k) * (2 * (2 * r) + 1) + geo (2 ^ k) := by
        rw [← Nat.mul_succ]
        congr 1
      exact this.symm
    rw [e3, e, Nat.pow_succ]
    have e4 : 2 * (q * (2 * r + 1) + r) + 1 = (2 * q + 1) * (2 * r + 1) := by
      rw [Nat.add_mul (2 * q), Nat.mul_add 2, Nat.mul_assoc 2 q]
      omega
    rw [e4]
    simp only [Nat.mul_assoc, Nat.mul_left_comm]
theorem geo_step (k b : Nat) : ∃ v, geo (2 ^ k + b) = 2 ^ k * (2 * v + 1) + geo b := by
  obtain ⟨q, e⟩ := geo_pow k
  obtain ⟨r, f⟩ := five_odd b
  refine ⟨q * (2 * (2 * r) + 1) + 2 * r, ?_⟩
  rw [geo_add, e, f, Nat.mul_assoc]
  congr 1
  congr 1
  rw [Nat.add_mul (2 * q), Nat.mul_add 2, Nat.mul_assoc 2 q]
  omega
theorem geo_meets : ∀ k j : Nat, j < 2 ^ k → ∃ b, b < 2 ^ k ∧ geo b % 2 ^ k = j
  | 0, j, h => ⟨0, by decide, by
    have : j = 0 := by simpa using h
    rw [this]
    rfl⟩
  | k + 1, j, h => by
    have pos : 0 < 2 ^ k := Nat.pow_pos (by decide)
    obtain ⟨b, hb, e⟩ := geo_meets k (j % 2 ^ k) (Nat.mod_lt _ pos)
    have two : 2 ^ (k + 1) = 2 ^ k * 2 := Nat.pow_succ ..
    have ej : j = j % 2 ^ k + 2 ^ k * (j / 2 ^ k % 2) := by
      have q := Nat.mod_mul (x := j) (a := 2 ^ k) (b := 2)
      rw [← two, Nat.mod_eq_of_lt h] at q
      exact q
    by_cases c : geo b / 2 ^ k % 2 = j / 2 ^ k % 2
    · refine ⟨b, by omega, ?_⟩
      rw [two, Nat.mod_mul, e, c]
      exact ej.symm
    · obtain ⟨v, ev⟩ := geo_step k b
      refine ⟨2 ^ k + b, by omega, ?_⟩
      rw [two, Nat.mod_mul, ev, Nat.mul_add_mod, e, Nat.mul_add_div pos]
      have e5 : (2 * v + 1 + geo b / 2 ^ k) % 2 = j / 2 ^ k % 2 := by omega
      rw [e5]
      exact ej.symm
theorem geo_round (k b : Nat) : geo (2 ^ k + b) % 2 ^ k = geo b % 2 ^ k := by
  obtain ⟨v, e⟩ := geo_step k b
  rw [e, Nat.mul_add_mod]
/-- from any slot on each slot is come to within one round -/
theorem round_all {m k : Nat} (hm : m + 1 = 2 ^ k) {i j : Nat} (hi : i ≤ m) (hj : j ≤ m) : ∃ c, c ≤ m ∧ lcgI m i c = j := by
  obtain ⟨a, ha, ea⟩ := geo_meets k i (by omega)
  obtain ⟨b, hb, eb⟩ := geo_meets k j (by omega)
  have ia : i = lcgN m a := by rw [lcg_geo, hm, ea]
  by_cases c : a ≤ b
  · refine ⟨b - a, by omega, ?_⟩
    rw [ia, lcgN_add, lcg_geo, hm, show a + (b - a) = b by omega]
    exact eb
  · refine ⟨2 ^ k + b - a, by omega, ?_⟩
    rw [ia, lcgN_add, lcg_geo, hm, show a + (2 ^ k + b - a) = 2 ^ k + b by omega, geo_round]
    exact eb
theorem run_all {m k : Nat} (hm : m + 1 = 2 ^ k) (h : Int) {j : Nat} (hj : j ≤ m) : ∃ n, n ≤ m + 12 ∧ runI m (SetTable.bits h) n = j := by
  obtain ⟨c, hc, e⟩ := round_all hm (runI_le m (SetTable.bits h) 12) hj
  refine ⟨12 + c, by omega, ?_⟩
  rw [runI_tail (bits_lt h), e]
theorem way_bd {m : Nat} {h : Int} {c : Nat} : way m h c ≤ m := by
  have b0 : SetTable.bits h % (m + 1) ≤ m := Nat.le_of_lt_succ (Nat.mod_lt _ (Nat.succ_pos _))
  have b1 := runEnd_bd b0
  have z := nth_in (m := m) c (runAt m (SetTable.bits h % (m + 1)) (SetTable.bits h)) (by
    show SetTable.bits h % (m + 1) + (SetTable.runEnd m (SetTable.bits h % (m + 1)) - SetTable.bits h % (m + 1)) ≤ m
    omega)
  exact Nat.le_trans (Nat.le_add_right _ _) z
theorem way_all {m k : Nat} (hm : m + 1 = 2 ^ k) (h : Int) {j : Nat} (hj : j ≤ m) : ∃ c, c < 10 * SetTable.turns m ∧ way m h c = j := by
  obtain ⟨n, hn, e⟩ := run_all hm h hj
  obtain ⟨c, hc, e2⟩ := run_nth m (SetTable.bits h) n
  refine ⟨c, by unfold SetTable.turns; omega, ?_⟩
  show (nth m _ c).j = j
  rw [e2]
  exact e
/-! ### the table -/
/-- from h the slot j is come to over taken slots alone -/
def Over (m : Nat) (pl : List Nat) (h : Int) (j : Nat) : Prop := ∃ c, way m h c = j ∧ ∀ d, d < c → way m h d ∈ pl
theorem Over.mono {m : Nat} {pl pl' : List Nat} {h : Int} {j : Nat} (o : Over m pl h j) (s : ∀ x ∈ pl, x ∈ pl') : Over m pl' h j := by
  obtain ⟨c, e, q⟩ := o
  exact ⟨c, e, fun d hd => s _ (q d hd)⟩
def MaskB (m : Nat) : Prop := ∃ k, 3 ≤ k ∧ k ≤ 13 ∧ m + 1 = 2 ^ k
theorem MaskB.bd {m : Nat} (h : MaskB m) : 7 ≤ m ∧ m ≤ 8191 ∧ m % 2 = 1 := by
  obtain ⟨k, h1, h2, e⟩ := h
  have p1 : 2 ^ 3 ≤ 2 ^ k := Nat.pow_le_pow_right (by decide) h1
  have p2 : 2 ^ k ≤ 2 ^ 13 := Nat.pow_le_pow_right (by decide) h2
  have p3 : 2 ^ k = 2 ^ (k - 1) * 2 := by rw [← Nat.pow_succ]; congr 1; omega
  have p4 : (2 : Nat) ^ 13 = 8192 := by decide
  have p5 : (2 : Nat) ^ 3 = 8 := by decide
  omega
structure Tb (t : SetTable) (hs : List Int) : Prop where
  up : Ris t.place.toList
  nod : t.dummies = #[]
  len : t.place.toList.length = hs.length
  msk : MaskB t.mask
  inn : ∀ x ∈ t.place.toList, x ≤ t.mask
  ov : ∀ q ∈ hs.zip t.place.toList, Over t.mask t.place.toList q.1 q.2
/-- the first free slot on the way -/
theorem Tb.gap {t : SetTable} {hs : List Int} (T : Tb t hs) (few : hs.length ≤ t.mask) (h : Int) : ∃ c, c < 10 * SetTable.turns t.mask ∧ way t.mask h c ∉ t.place.toList ∧ ∀ d, d < c → way t.mask h d ∈ t.place.toList := by
  obtain ⟨k, _, _, hm⟩ := T.msk
  obtain ⟨j, hj, free⟩ := st_missing t.place.toList (t.mask + 1) (by rw [T.len]; omega)
  obtain ⟨c, hc, e⟩ := way_all hm h (show j ≤ t.mask by omega)
  obtain ⟨c', l, y, n⟩ := st_least (p := fun c => way t.mask h c ∉ t.place.toList) c (by rw [e]; exact free)
  exact ⟨c', by omega, y, fun d hd => Classical.not_not.mp (n d hd)⟩
theorem Tb.here {t : SetTable} {hs : List Int} (T : Tb t hs) {h : Int} {c i : Nat} (free : way t.mask h c ∉ t.place.toList) (hi : hs[i]? = some h) : ∃ d, d < c ∧ t.place.toList[i]? = some (way t.mask h d) := by
  have li : i < t.place.toList.length := by rw [T.len]; exact (List.getElem?_eq_some_iff.mp hi).1
  have e := List.getElem?_eq_getElem li
  obtain ⟨d, e1, q⟩ := T.ov (h, t.place.toList[i]) (List.mem_of_getElem? (List.getElem?_zip_eq_some.mpr ⟨hi, e⟩))
  refine ⟨d, ?_, by rw [e]; exact congrArg some e1.symm⟩
  rcases Nat.lt_trichotomy d c with z | z | z
  · exact z
  · exfalso
    subst z
    exact free (by rw [show way t.mask h d = t.place.toList[i] from e1]; exact List.getElem_mem li)
  · exact absurd (q c z) free
theorem zip_ins {h : Int} {j : Nat} : ∀ (p : Nat) (hs : List Int) (pl : List Nat), pl.length = hs.length → ∀ q ∈ (hs.take p ++ h :: hs.drop p).zip (pl.take p ++ j :: pl.drop p), q = (h, j) ∨ q ∈ hs.zip pl
  | 0, hs, pl, _, q, m => by
    simp only [List.take_zero, List.nil_append, List.drop_zero, List.zip_cons_cons, List.mem_cons] at m
    exact m
  | p + 1, [], [], _, q, m => by simp at m; exact .inl m
  | p + 1, [], _ :: _, e, _, _ => by simp at e
  | p + 1, _ :: _, [], e, _, _ => by simp at e
  | p + 1, g :: hs, i :: pl, e, q, m => by
    simp only [List.take_succ_cons, List.drop_succ_cons, List.cons_append, List.zip_cons_cons, List.mem_cons] at m ⊢
    rcases m with m | m
    · exact .inr (.inl m)
    · rcases zip_ins p hs pl (by simpa using e) q m with z | z
      · exact .inl z
      · exact .inr (.inr z)
/-- one put in at the first free slot of its way -/
theorem Tb.put {t : SetTable} {hs : List Int} (T : Tb t hs) {h : Int} {c : Nat} (free : way t.mask h c ∉ t.place.toList) (ahead : ∀ d, d < c → way t.mask h d ∈ t.place.toList) :
    SetTable.below t.place (way t.mask h c) ≤ hs.length ∧ Tb (t.put (way t.mask h c)).1 (hs.take (SetTable.below t.place (way t.mask h c)) ++ h :: hs.drop (SetTable.below t.place (way t.mask h c))) ∧ (t.put (way t.mask h c)).1.fill = hs.length + 1 := by
  have pp := put_place t (way t.mask h c)
  have bl : SetTable.below t.place (way t.mask h c) ≤ hs.length := by
    rw [← T.len, Array.length_toList]
    exact (below_cut T.up _).1
  have more : ∀ x ∈ t.place.toList, x ∈ (t.put (way t.mask h c)).1.place.toList := fun x hx => by
    rw [pp]
    exact mem_ins.mpr (.inr hx)
  have ln : (t.put (way t.mask h c)).1.place.toList.length = hs.length + 1 := by
    rw [pp, len_ins _ (by rw [T.len]; exact bl), T.len]
  have dn := put_dm T.nod (way t.mask h c)
  refine ⟨bl, ⟨?_, dn, ?_, T.msk, fun x hx => ?_, fun q hq => ?_⟩, ?_⟩
  · exact ris_insert T.up fun e => free (List.mem_of_getElem? (i := SetTable.below t.place (way t.mask h c)) (by rw [Array.getElem?_toList]; exact e))
  · rw [ln, len_ins _ bl]
  · rw [pp] at hx
    rcases mem_ins.mp hx with z | z
    · rw [z]
      exact way_bd
    · exact T.inn x z
  · rw [pp] at hq
    rcases zip_ins _ _ _ T.len q hq with z | z
    · subst z
      exact ⟨c, rfl, fun d hd => more _ (ahead d hd)⟩
    · exact (T.ov q z).mono more
  · unfold SetTable.fill
    rw [dn, ← Array.length_toList, ln]
    rfl
/-! ### laying all anew -/
theorem free_at {m k : Nat} (hm : m + 1 = 2 ^ k) (owner : Array (Option Nat)) (h : Int) {j : Nat} (hj : j ≤ m) (hf : oAt owner j = none) :
    ∃ c, SetTable.layClean.free m owner (SetTable.turns m) (SetTable.bits h % (m + 1)) (SetTable.bits h) = some (way m h c) ∧ oAt owner (way m h c) = none ∧ ∀ d, d < c → oAt owner (way m h d) ≠ none := by
  obtain ⟨n, hn, e⟩ := run_all hm h hj
  have at_j : way m h (off m (SetTable.bits h % (m + 1)) (SetTable.bits h) n) = j := by
    show (nth m _ (off m _ _ n)).j = j
    rw [nth_off, itL_run]
    exact e
  obtain ⟨c, c1, c2, c3⟩ := st_least (p := fun c => oAt owner (way m h c) = none) _ (show oAt owner (way m h (off m (SetTable.bits h % (m + 1)) (SetTable.bits h) n)) = none by rw [at_j]; exact hf)
  refine ⟨c, free_spec m owner _ n _ _ c (by unfold SetTable.turns; omega) c1 (fun d hd => ?_) ?_, c2, c3⟩
  · rcases o : oAt owner (way m h d) with _ | _
    · exact absurd o (c3 d hd)
    · rfl
  · show (oAt owner (way m h c)).isNone = true
    rw [c2]
    rfl
theorem own_next {m k : Nat} (hm : m + 1 = 2 ^ k) {done : List Int} {owner : Array (Option Nat)} (W : Own m done owner) (few : done.length ≤ m) (h : Int) :
    ∃ j, SetTable.layClean.free m owner (SetTable.turns m) (SetTable.bits h % (m + 1)) (SetTable.bits h) = some j ∧ Own m (done ++ [h]) (owner.setIfInBounds j (some done.length)) := by
  obtain ⟨ps, len, inn⟩ := W.ps
  obtain ⟨j0, l0, n0⟩ := st_missing ps (m + 1) (by omega)
  have f0 : oAt owner j0 = none := Classical.not_not.mp fun z => n0 (inn j0 (by omega) z)
  obtain ⟨c, e1, e2, e3⟩ := free_at hm owner h (show j0 ≤ m by omega) f0
  have bd : way m h c ≤ m := way_bd
  have new : oAt (owner.setIfInBounds (way m h c) (some done.length)) (way m h c) = some done.length := oAt_set_self _ (by rw [W.sz]; omega)
  have stay : ∀ i, i ≠ way m h c → oAt (owner.setIfInBounds (way m h c) (some done.length)) i = oAt owner i := fun i hi => oAt_set_ne _ hi
  have taken : ∀ i, oAt owner i ≠ none → oAt (owner.setIfInBounds (way m h c) (some done.length)) i ≠ none := fun i hi => by
    rw [stay i fun z => hi (by rw [z]; exact e2)]
    exact hi
  refine ⟨_, e1, ⟨by rw [Array.size_setIfInBounds, W.sz], fun j i hj hi => ?_, fun i hi => ?_, way m h c :: ps, by simp [len], fun j hj hi => ?_⟩⟩
  · by_cases z : j = way m h c
    · rw [z, new] at hi
      obtain rfl := Option.some.inj hi
      exact ⟨h, c, by simp, z.symm, fun d hd => taken _ (e3 d hd)⟩
    · rw [stay j z] at hi
      obtain ⟨g, d, a1, a2, a3⟩ := W.at_ j i hj hi
      exact ⟨g, d, by rw [List.getElem?_append_left (List.getElem?_eq_some_iff.mp a1).1]; exact a1, a2, fun b hb => taken _ (a3 b hb)⟩
  · by_cases z : i = done.length
    · exact ⟨_, bd, by rw [z]; exact new⟩
    · obtain ⟨j, hj, o⟩ := W.all i (by rw [List.length_append] at hi; simp at hi; omega)
      exact ⟨j, hj, by rw [stay j fun y => by rw [y, e2] at o; cases o]; exact o⟩
  · by_cases z : j = way m h c
    · rw [z]
      exact List.mem_cons_self
    · rw [stay j z] at hi
      exact List.mem_cons_of_mem _ (inn j hj hi)
theorem own_all {m k : Nat} (hm : m + 1 = 2 ^ k) : ∀ (rest done : List Int) (owner : Array (Option Nat)), Own m done owner → done.length + rest.length ≤ m →
    ∃ o, rest.foldl (stepF m) (some (owner, done.length)) = some (o, done.length + rest.length) ∧ Own m (done ++ rest) o
  | [], done, owner, W, _ => ⟨owner, rfl, by rw [List.append_nil]; exact W⟩
  | h :: rest, done, owner, W, few => by
    rw [List.length_cons] at few
    obtain ⟨j, e, W1⟩ := own_next hm W (by omega) h
    have l1 : (done ++ [h]).length = done.length + 1 := by simp
    obtain ⟨o, f, W2⟩ := own_all hm rest (done ++ [h]) _ W1 (by rw [l1]; omega)
    rw [l1] at f
    rw [List.append_assoc] at W2
    refine ⟨o, ?_, W2⟩
    rw [List.foldl_cons, stepF_some e, f, List.length_cons]
    congr 2
    omega
theorem lay_all {m k : Nat} (hm : m + 1 = 2 ^ k) {hs : Array Int} (few : hs.size ≤ m) : ∃ o, SetTable.layClean m hs = some o ∧ Own m hs.toList o := by
  obtain ⟨o, f, W⟩ := own_all hm hs.toList [] _ (Own.init m) (by simpa using few)
  refine ⟨o, ?_, by simpa using W⟩
  rw [layClean_eq]
  have f' : hs.toList.foldl (stepF m) (some (Array.replicate (m + 1) none, 0)) = _ := f
  rw [f']
  rfl
/-- a table laid anew -/
theorem relay_all (t : SetTable) {hs : Array Int} {wanted M k : Nat} (hw : SetTable.sizeAbove wanted - 1 = M) (hm : M + 1 = 2 ^ k) (k3 : 3 ≤ k) (k13 : k ≤ 13) (few : hs.size ≤ M) :
    ∃ t' order, t.relaid hs wanted = some (t', order) ∧ order.toList.Perm (List.range hs.size) ∧ Tb t' (order.toList.map fun i => hs.getD i 0) ∧ t'.mask = M ∧ t'.led = t.led ∧ t'.plain = t.plain := by
  obtain ⟨o, e, W⟩ := lay_all hm few
  have rr : t.relaid hs wanted = some (tabOf t M o, ((liveOf M o).map (·.2)).toArray) := by
    rw [relaid_eq, hw, e]
    rfl
  have rng : Ris (List.range (M + 1)) := by
    unfold Ris
    first | exact List.pairwise_lt_range | exact List.pairwise_lt_range _
  obtain ⟨r1, r2⟩ := ris_live (fun j => o.getD j none) (List.range (M + 1)) rng
  have r1 : Ris ((liveOf M o).map (·.1)) := r1
  have r2 : ∀ x ∈ (liveOf M o).map (·.1), x < M + 1 := fun x hx => List.mem_range.mp (r2 x hx)
  have all : ∀ i, i < hs.size → i ∈ (liveOf M o).map (·.2) := fun i hi => by
    obtain ⟨j, hj, q⟩ := W.all i (by simpa using hi)
    exact List.mem_map.mpr ⟨(j, i), (mem_live W.sz).mpr ⟨hj, q⟩, rfl⟩
  have ln : (liveOf M o).length = hs.size := by
    obtain ⟨ps, p1, p2⟩ := W.ps
    have nd1 : ((liveOf M o).map (·.1)).Nodup := List.Pairwise.imp (fun h => Nat.ne_of_lt h) r1
    have le1 := nat_nodup_len _ ps nd1 fun x hx => by
      obtain ⟨⟨y, i⟩, hq, rfl⟩ := List.mem_map.mp hx
      obtain ⟨b1, b2⟩ := (mem_live W.sz).mp hq
      exact p2 y b1 (by rw [b2]; nofun)
    have le2 := nat_nodup_len (List.range hs.size) ((liveOf M o).map (·.2)) List.nodup_range fun i hi => all i (List.mem_range.mp hi)
    have h1 : (liveOf M o).length ≤ hs.size := by simpa [p1] using le1
    have h2 : hs.size ≤ (liveOf M o).length := by simpa using le2
    omega
  refine ⟨_, _, rr, perm_range _ _ (by simp [ln]) fun i hi => by simpa using all i hi, ⟨r1, rfl, ?_, ⟨k, k3, k13, hm⟩, fun x hx => Nat.le_of_lt_succ (r2 x hx), fun q hq => ?_⟩, rfl, rfl, rfl⟩
  · show ((liveOf M o).map (·.1)).length = _
    simp
  · have hq : q ∈ (((liveOf M o).map (·.2)).map fun i => hs.getD i 0).zip ((liveOf M o).map (·.1)) := hq
    obtain ⟨i, hi⟩ := List.getElem?_of_mem hq
    obtain ⟨z1, z2⟩ := List.getElem?_zip_eq_some.mp hi
    rw [List.getElem?_map, List.getElem?_map] at z1
    rw [List.getElem?_map] at z2
    rcases y : (liveOf M o)[i]? with _ | ⟨j, i'⟩
    · rw [y] at z2
      cases z2
    · rw [y] at z1 z2
      obtain ⟨q1, q2⟩ := q
      have y1 : hs.getD i' 0 = q1 := Option.some.inj z1
      have y2 : j = q2 := Option.some.inj z2
      subst y2
      obtain ⟨b1, b2⟩ := (mem_live W.sz).mp (List.mem_of_getElem? y)
      obtain ⟨g, c, a1, a2, a3⟩ := W.at_ j i' b1 b2
      have eg : g = q1 := by
        rw [← y1, Array.getD_eq_getD_getElem?, ← Array.getElem?_toList, a1]
        rfl
      subst eg
      refine ⟨c, a2, fun d hd => ?_⟩
      show way M g d ∈ (liveOf M o).map (·.1)
      rcases w : oAt o (way M g d) with _ | x
      · exact absurd w (a3 d hd)
      · exact List.mem_map.mpr ⟨(_, x), (mem_live W.sz).mpr ⟨way_bd, w⟩, rfl⟩
/-- the size chosen -/
theorem size_go (n : Nat) : ∀ (f k : Nat), n < 2 ^ (k + f) → ∃ l, k ≤ l ∧ SetTable.sizeAbove.go n f (2 ^ k) = 2 ^ l ∧ n < 2 ^ l ∧ (l = k ∨ 2 ^ l ≤ 2 * n)
  | 0, k, h => ⟨k, Nat.le_refl _, rfl, h, .inl rfl⟩
  | f + 1, k, h => by
    unfold SetTable.sizeAbove.go
    by_cases c : 2 ^ k ≤ n
    · rw [if_pos c, ← Nat.pow_succ]
      obtain ⟨l, h1, h2, h3, h4⟩ := size_go n f (k + 1) (by rw [show k + 1 + f = k + (f + 1) by omega]; exact h)
      refine ⟨l, by omega, h2, h3, .inr ?_⟩
      rcases h4 with h4 | h4
      · subst h4
        rw [Nat.pow_succ]
        omega
      · exact h4
    · rw [if_neg c]
      exact ⟨k, Nat.le_refl _, rfl, by omega, .inl rfl⟩
theorem size_of {n : Nat} (h : n < 8192) : ∃ l, 3 ≤ l ∧ l ≤ 13 ∧ SetTable.sizeAbove n = 2 ^ l ∧ n < 2 ^ l := by
  obtain ⟨l, h1, h2, h3, h4⟩ := size_go n 64 3 (Nat.lt_of_lt_of_le h (by decide))
  refine ⟨l, h1, ?_, h2, h3⟩
  rcases h4 with h4 | h4
  · omega
  · refine Nat.le_of_lt_succ ((Nat.pow_lt_pow_iff_right (a := 2) (by decide)).mp ?_)
    have : (2 : Nat) ^ (13 + 1) = 16384 := by decide
    omega
end Gx

/-! Sets of tuples of whole numbers, up to 2000 of them: adding -/
namespace Gx
open PySem L2 PySem.Spec PyProof.Rows
section
variable {P : Program} {w : World} {A : Around} {E : Value → Shared → Prop} {s : Shared}
/-- the set at a: its rows in the sequence of the slots -/
structure SetB (P : Program) (w : World) (h : Heap) (a : Addr) (L : List (Addr × List Int)) (es : Array (Int × Value)) (ep : Nat) (t : SetTable) : Prop where
  obj : ∃ o, h.get? a = some o ∧ o.ExactSet ∧ o.data = .set es ep t
  rws : es.toList = rowsOf P w L
  tab : Tb t (L.map fun p => thash P w p.2)
  uni : (L.map (·.2)).Nodup
  pla : t.plain = true
  led : w.params.followText "set-order" = true ∨ t.led = true
  rom : L.length * 5 < t.mask * 3
  few : L.length ≤ 2000
/-- .. its tuples -/
def TupsB (P : Program) (w : World) (h : Heap) (L : List (Addr × List Int)) : Prop := ∀ p ∈ L, IsT P w h p.2 p.1
variable {a : Addr} {L : List (Addr × List Int)} {es : Array (Int × Value)} {ep : Nat} {t : SetTable}
theorem SetB.num (R : SetB P w s.heap a L es ep t) : es.size = L.length := by
  rw [← Array.length_toList, R.rws]
  exact List.length_map _
theorem SetB.ent (R : SetB P w s.heap a L es ep t) {i : Nat} {p : Addr × List Int} (h : L[i]? = some p) : es[i]? = some (thash P w p.2, .ref p.1) := by
  rw [← Array.getElem?_toList, R.rws]
  show (L.map _)[i]? = _
  rw [List.getElem?_map, h]
  rfl
theorem fits_of {hs : List Int} {n : Nat} (T : Tb t hs) (e : n = hs.length) (l : n ≤ t.mask) : t.fits n = true := by
  have z := T.len
  rw [Array.length_toList] at z
  unfold SetTable.fits SetTable.fill
  rw [T.nod]
  simp only [Bool.and_eq_true, beq_iff_eq, decide_eq_true_eq]
  exact ⟨by omega, by simp; omega⟩
theorem SetB.fit (R : SetB P w s.heap a L es ep t) : t.fits es.size = true := fits_of R.tab (by rw [R.num, List.length_map]) (by have := R.rom; have := R.num; omega)
theorem not_gave (h : MaskB t.mask) : ¬ t.gaveWay = true := by
  unfold SetTable.gaveWay
  rw [h.bd.2.2]
  decide
theorem nth_dummy (m : Nat) : ∀ (n : Nat) (p : SetTable.Probe), p.dummy = none → (nth m p n).dummy = none
  | 0, _, h => h
  | n + 1, p, h => nth_dummy m n (adv m p) (by unfold adv; split <;> exact h)
abbrev first0 (m : Nat) (h : Int) : SetTable.Probe := runAt m (SetTable.bits h % (m + 1)) (SetTable.bits h)
/-- the search, from the c-th slot of the way on -/
theorem seek_from (R : SetB P w s.heap a L es ep t) (TT : TupsB P w s.heap L) {x : Addr} {k : List Int} (hx : IsT P w s.heap k x) (hu : A.units < cLine) {K : Nat} (bound : K < 10 * SetTable.turns t.mask)
    (free : way t.mask (thash P w k) K ∉ t.place.toList) (full : ∀ c, c < K → way t.mask (thash P w k) c ∈ t.place.toList) {Q : SetFound → Shared → Prop}
    (yes : k ∈ L.map (·.2) → Q (.there none) s) (no : k ∉ L.map (·.2) → Q (.free (way t.mask (thash P w k) K) false) s) (f : Nat) :
    ∀ (c : Nat) (stand : Option SetTable.Probe), stand.getD (t.probeStart (thash P w k)) = nth t.mask (first0 t.mask (thash P w k)) c → c ≤ K → K - c < f →
      (∀ (i : Nat) p, L[i]? = some p → p.2 = k → ∃ d, c ≤ d ∧ d < K ∧ t.place.toList[i]? = some (way t.mask (thash P w k) d)) →
      wpAny (model P w) A (setSearchFrom a (.ref x) (thash P w k) true f stand) Q E s := by
  obtain ⟨o, ho, hex, hd⟩ := R.obj
  induction f with
  | zero => intro c _ _ _ l _; exact absurd l (Nat.not_lt_zero _)
  | succ f ih =>
    intro c stand from_ cK lim rest
    rw [setSearchFrom_succ]
    refine wpAny_bind (wpAny_setState_of ho hd R.fit ?_)
    dsimp only
    refine wp_if_neg (not_gave R.tab.msk) ?_
    try refine wpAny_bind (wpAny_pure ?_)
    have later : ∀ q, nth t.mask (nth t.mask (first0 t.mask (thash P w k)) c) q = nth t.mask (first0 t.mask (thash P w k)) (c + q) := fun q => (nth_add t.mask c _ q).symm
    have laterJ : ∀ q, (nth t.mask (nth t.mask (first0 t.mask (thash P w k)) c) q).j = way t.mask (thash P w k) (c + q) := fun q => congrArg SetTable.Probe.j (later q)
    have spec := go_spec t R.tab.up R.tab.nod (fun i => (es[i]?.map (·.1)).getD 0) (thash P w k) (10 * SetTable.turns t.mask) (K - c) (nth t.mask (first0 t.mask (thash P w k)) c) (nth_dummy _ _ _ rfl) (by omega)
      (fun q hq => by rw [laterJ]; exact full _ (by omega)) (by rw [laterJ, show c + (K - c) = K by omega]; exact free)
    have hashAt : ∀ (i : Nat) p, L[i]? = some p → (es[i]?.map (·.1)).getD 0 = thash P w p.2 := fun i p hp => by
      rw [R.ent hp]
      rfl
    have met : t.probe (fun i => (es[i]?.map (·.1)).getD 0) (thash P w k) (stand.getD (t.probeStart (thash P w k))) = SetTable.probe.go t (fun i => (es[i]?.map (·.1)).getD 0) (thash P w k) (10 * SetTable.turns t.mask) (nth t.mask (first0 t.mask (thash P w k)) c) := by
      rw [from_]
      rfl
    rw [met]
    rcases spec with ⟨q, i, hq, hi, _, none_before, e⟩ | ⟨none_before, e⟩
    · rw [e, laterJ, later]
      dsimp only
      rw [laterJ] at hi
      have li : i < L.length := by
        have := R.tab.len
        rw [List.length_map] at this
        rw [← this]
        exact (List.getElem?_eq_some_iff.mp hi).1
      obtain ⟨p, hp⟩ : ∃ p, L[i]? = some p := ⟨_, List.getElem?_eq_getElem li⟩
      have mem := List.mem_of_getElem? hp
      have live : t.slot (way t.mask (thash P w k) (c + q)) = .live i := slot_live R.tab.up hi
      have go_on : wpAny (model P w) A (searchRest a (.ref x) (thash P w k) true f es t (way t.mask (thash P w k) (c + q)) i (nth t.mask (first0 t.mask (thash P w k)) (c + (q + 1)))) Q E s := by
        unfold searchRest
        rw [R.ent hp]
        dsimp only
        refine wpAny_bind (wpAny_holding (wpAny_eqBool_tuple hu (TT p mem) hx ?_))
        refine wpAny_bind (wpAny_setState_of ho hd R.fit ?_)
        dsimp only
        by_cases same : p.2 = k
        · refine wp_if_pos (by simp [same]) (wpAny_pure (yes ?_))
          exact List.mem_map.mpr ⟨p, mem, same⟩
        · refine wp_if_neg (by simp [same]) ?_
          try refine wpAny_bind (wpAny_pure ?_)
          rw [sameMem]
          dsimp only
          simp only [if_true, live, R.ent hp]
          refine wpAny_bind (wpAny_isSame_ref_self (wpAny_bind (wpAny_pure ?_)))
          simp only [if_true]
          refine wp_if_neg (by simp [same]) ?_
          refine ih (c + (q + 1)) _ rfl (by omega) (by omega) fun i0 p0 h0 k0 => ?_
          obtain ⟨d, d1, d2, d3⟩ := rest i0 p0 h0 k0
          refine ⟨d, ?_, d2, d3⟩
          have not_at : d ≠ c + q := fun z => by
            rw [z] at d3
            have l0 := slot_live R.tab.up d3
            rw [live] at l0
            injection l0 with l0
            rw [← l0, hp] at h0
            exact same (by rw [Option.some.inj h0]; exact k0)
          have not_before : ¬ d < c + q := fun z => by
            refine none_before (d - c) i0 (by omega) (by rw [laterJ, show c + (d - c) = d by omega]; exact d3) ?_
            rw [hashAt i0 p0 h0, k0]
          omega
      by_cases l : t.led = true
      · refine wp_if_neg (by simp [l]) ?_
        try refine wpAny_bind (wpAny_pure ?_)
        exact go_on
      · refine wp_if_pos (by simp [l]) ?_
        refine wpAny_bind (seen_tup hx (fun y hy => ?_) ?_)
        · obtain ⟨en, hen, rfl⟩ := List.mem_map.mp hy
          have in_es : en ∈ es.toList := by
            have z : en ∈ es ∧ en.1 = thash P w k := by simpa using hen
            simpa using z.1
          rw [R.rws] at in_es
          obtain ⟨p2, m2, rfl⟩ := List.mem_map.mp in_es
          exact ⟨p2.2, p2.1, rfl, TT p2 m2⟩
        · refine wp_if_neg (by decide) ?_
          try refine wpAny_bind (wpAny_pure ?_)
          exact go_on
    · rw [e, laterJ, show c + (K - c) = K by omega]
      dsimp only
      refine wpAny_pure (no fun m => ?_)
      obtain ⟨p0, m0, k0⟩ := List.mem_map.mp m
      obtain ⟨i0, h0⟩ := List.getElem?_of_mem m0
      obtain ⟨d, d1, d2, d3⟩ := rest i0 p0 h0 k0
      refine none_before (d - c) i0 (by omega) (by rw [laterJ, show c + (d - c) = d by omega]; exact d3) ?_
      rw [hashAt i0 p0 h0, k0]
theorem seek_at (R : SetB P w s.heap a L es ep t) (TT : TupsB P w s.heap L) {x : Addr} {k : List Int} (hx : IsT P w s.heap k x) (hu : A.units < cLine) {Q : SetFound → Shared → Prop}
    (yes : k ∈ L.map (·.2) → Q (.there none) s)
    (no : ∀ c, k ∉ L.map (·.2) → way t.mask (thash P w k) c ∉ t.place.toList → (∀ d, d < c → way t.mask (thash P w k) d ∈ t.place.toList) → Q (.free (way t.mask (thash P w k) c) false) s) :
    wpAny (model P w) A (setSearch a (.ref x) (thash P w k) true) Q E s := by
  have rm := R.rom
  obtain ⟨c, c1, c2, c3⟩ := R.tab.gap (by rw [List.length_map]; omega) (thash P w k)
  have big : c < 100000 := by
    have := R.tab.msk.bd
    unfold SetTable.turns at c1
    omega
  unfold setSearch
  refine seek_from R TT hx hu c1 c2 c3 yes (fun m => no c m c2 c3) 100000 0 none rfl (Nat.zero_le _) (by omega) fun i p hp hk => ?_
  obtain ⟨d, d1, d2⟩ := R.tab.here c2 (i := i) (by rw [List.getElem?_map, hp, ← hk]; rfl)
  exact ⟨d, Nat.zero_le _, d1, d2⟩
/-- the table laid anew -/
theorem relay_set {o : Obj} (ho : s.heap.get? a = some o) (hex : o.ExactSet) (hd : o.data = .set es ep t) (rws : es.toList = rowsOf P w L) (fit : t.fits es.size = true) (uni : (L.map (·.2)).Nodup)
    (pla : t.plain = true) (led : w.params.followText "set-order" = true ∨ t.led = true) (few : L.length ≤ 2000) {wanted k : Nat} (hw : SetTable.sizeAbove wanted = 2 ^ k) (k3 : 3 ≤ k) (k13 : k ≤ 13) (rom : 4 * L.length < 2 ^ k) {Q : Unit → Shared → Prop}
    (fin : ∀ h' L' es' ep' t', Heap.SameBut a s.heap h' → SetB P w h' a L' es' ep' t' → L'.Perm L → Q () { s with heap := h' }) : wpAny (model P w) A (setRelay a wanted) Q E s := by
  have num : es.size = L.length := by
    rw [← Array.length_toList, rws]
    exact List.length_map _
  have p8 : 2 ^ 3 ≤ 2 ^ k := Nat.pow_le_pow_right (by decide) k3
  have p13 : 2 ^ k ≤ 2 ^ 13 := Nat.pow_le_pow_right (by decide) k13
  have e3 : (2 : Nat) ^ 3 = 8 := by decide
  have e13 : (2 : Nat) ^ 13 = 8192 := by decide
  obtain ⟨t', order, e, perm, T, em, el, epl⟩ := relay_all t (hs := es.map (·.1)) (wanted := wanted) (M := 2 ^ k - 1) (k := k) (by rw [hw]) (by omega) k3 k13 (by rw [Array.size_map, num]; omega)
  rw [Array.size_map, num] at perm
  obtain ⟨L2, r1, r2, r3⟩ := order_rows L es order rws perm
  rw [← r3] at T
  have num2 : (order.filterMap (es[·]?)).size = es.size := by
    rw [← Array.length_toList, r1, num]
    exact (List.length_map _).trans r2.length_eq
  rw [setRelay_eq]
  refine wpAny_bind (wpAny_setState_of ho hd fit ?_)
  dsimp only
  refine wp_if_neg (by rw [hw, sizeLine_eq]; omega) ?_
  try refine wpAny_bind (wpAny_pure ?_)
  rw [e]
  dsimp only
  refine wpAny_bind ?_
  refine wp_if_neg (by rw [num2]; simp) ?_
  try refine wpAny_bind (wpAny_pure ?_)
  refine wpAny_pure ?_
  dsimp only
  refine wpAny_storeSet_of ho hd ?_ (by rw [num2, num, sizeLine_eq]; omega)
  refine fin _ L2 (order.filterMap (es[·]?)) (ep + 1) t' (Heap.SameBut.update ..) ⟨⟨_, store_at ho hd, ⟨hex.1, hex.2.1, hex.2.2⟩, rfl⟩, r1, T, (r2.map (·.2)).nodup_iff.mpr uni, by rw [epl]; exact pla, by rw [el]; exact led, ?_, by rw [r2.length_eq]; exact few⟩ r2
  rw [r2.length_eq, em]
  omega
/-- one tuple added -/
theorem add_tup (R : SetB P w s.heap a L es ep t) (TT : TupsB P w s.heap L) {x : Addr} {k : List Int} (hx : IsT P w s.heap k x) (hu : A.units < cLine) (few : L.length < 2000) {Q : Bool → Shared → Prop}
    (fin : ∀ b h' L' es' ep' t', Heap.SameBut a s.heap h' → SetB P w h' a L' es' ep' t' → (k ∈ L.map (·.2) → L' = L) → (k ∉ L.map (·.2) → L'.Perm ((x, k) :: L)) → Q b { s with heap := h' }) :
    wpAny (model P w) A (setAddHashed a (.ref x) (thash P w k)) Q E s := by
  obtain ⟨o, ho, hex, hd⟩ := R.obj
  have num := R.num
  have rm := R.rom
  have mb := R.tab.msk.bd
  unfold setAddHashed
  refine wpAny_holding ?_
  rw [show (100000 : Nat) = 99999 + 1 from rfl, setAddHashedIn_succ]
  refine wpAny_bind (wpAny_setState_of ho hd R.fit ?_)
  dsimp only
  refine wp_if_neg (by simp [byScan, Value.scannable]) ?_
  try refine wpAny_bind (wpAny_pure ?_)
  refine wpAny_bind (seek_at R TT hx hu (fun m => ?_) fun c m free full => ?_)
  · dsimp only
    exact wpAny_pure (fin false s.heap L es ep t (Heap.SameBut.refl a s.heap) R (fun _ => rfl) fun z => absurd m z)
  dsimp only
  refine wpAny_bind (wpAny_setState_of ho hd R.fit ?_)
  dsimp only
  obtain ⟨q1, q2, q3⟩ := R.tab.put free full
  have pl1 : (t.put (way t.mask (thash P w k) c)).1.plain = true := R.pla
  have ld1 : w.params.followText "set-order" = true ∨ (t.put (way t.mask (thash P w k) c)).1.led = true := R.led
  have mk1 : (t.put (way t.mask (thash P w k) c)).1.mask = t.mask := rfl
  have at1 : (t.put (way t.mask (thash P w k) c)).2 = SetTable.below t.place (way t.mask (thash P w k) c) := rfl
  rw [List.length_map] at q1 q3
  have in1 : (SetTable.insertAt es (SetTable.below t.place (way t.mask (thash P w k) c)) (thash P w k, Value.ref x)).toList = rowsOf P w (L.take (SetTable.below t.place (way t.mask (thash P w k) c)) ++ (x, k) :: L.drop (SetTable.below t.place (way t.mask (thash P w k) c))) := by
    rw [SetTable.toList_insertAt, rows_put, R.rws]
  generalize t.put (way t.mask (thash P w k) c) = pt at q2 q3 pl1 ld1 mk1 at1 ⊢
  obtain ⟨t1, p1⟩ := pt
  dsimp only at q2 q3 pl1 ld1 mk1 at1 ⊢
  subst at1
  first
    | (refine wpAny_bind ?_; refine wp_if_pos pl1 ?_; refine hashBy_tup hx ?_)
    | refine wp_if_pos pl1 (wpAny_bind (hashBy_tup hx ?_))
  simp only [if_true]
  generalize SetTable.below t.place (way t.mask (thash P w k) c) = p at q1 q2 in1 ⊢
  have pm := put_perm L p (x, k)
  have mp : (L.map fun p => thash P w p.2).take p ++ thash P w k :: (L.map fun p => thash P w p.2).drop p = (L.take p ++ (x, k) :: L.drop p).map fun p => thash P w p.2 := by
    rw [List.map_append, List.map_cons, List.map_take, List.map_drop]
  rw [mp] at q2
  generalize SetTable.insertAt es p (thash P w k, Value.ref x) = es1 at in1 ⊢
  generalize L.take p ++ (x, k) :: L.drop p = L1 at pm q2 in1
  have ln : L1.length = L.length + 1 := pm.length_eq
  have num1 : es1.size = L1.length := by
    rw [← Array.length_toList, in1]
    exact List.length_map _
  have uni1 : (L1.map (·.2)).Nodup := by
    refine (pm.map (·.2)).nodup_iff.mpr ?_
    rw [List.map_cons]
    exact List.nodup_cons.mpr ⟨m, R.uni⟩
  refine wpAny_bind (wpAny_storeSet_of ho hd ?_ (by rw [num1, ln, sizeLine_eq]; omega))
  have sb : Heap.SameBut a s.heap (s.heap.update a (Obj.putSet es1 t1)) := Heap.SameBut.update ..
  have ho1 := store_at (es' := es1) (t' := t1) ho hd
  generalize s.heap.update a (Obj.putSet es1 t1) = h1 at sb ho1 ⊢
  have fit1 : t1.fits es1.size = true := fits_of q2 (by rw [num1, List.length_map]) (by rw [num1, ln, mk1]; omega)
  by_cases hf : t1.tooFull = true
  · first
      | (refine wpAny_bind ?_; refine wp_if_pos (by simp [hf]) ?_)
      | (refine wp_if_pos (by simp [hf]) ?_; refine wpAny_bind ?_)
    have gr : SetTable.grown (es.size + 1) = 4 * (L.length + 1) := by
      unfold SetTable.grown
      rw [num, if_neg (by omega)]
      omega
    rw [gr]
    obtain ⟨k', l1, l2, l3, l4⟩ := size_of (n := 4 * (L.length + 1)) (by omega)
    refine relay_set (s := { s with heap := h1 }) ho1 ⟨hex.1, hex.2.1, hex.2.2⟩ rfl in1 fit1 uni1 pl1 ld1 (by omega) l3 l1 l2 (by rw [ln]; exact l4) ?_
    intro h2 L2 es2 ep2 t2 sb2 R2 pm2
    exact wpAny_pure (fin true h2 L2 es2 ep2 t2 (sb.trans sb2) R2 (fun z => absurd z m) fun _ => pm2.trans pm)
  · first
      | refine wp_if_neg (by simp [hf]) ?_
      | (refine wpAny_bind ?_; refine wp_if_neg (by simp [hf]) ?_; refine wpAny_pure ?_)
    refine wpAny_pure (fin true h1 L1 es1 (ep + 1) t1 sb ⟨⟨_, ho1, ⟨hex.1, hex.2.1, hex.2.2⟩, rfl⟩, in1, q2, uni1, pl1, ld1, ?_, by omega⟩ (fun z => absurd z m) fun _ => pm)
    unfold SetTable.tooFull at hf
    rw [decide_eq_true_eq, q3] at hf
    omega
end
end Gx

/-! set(xs), xs a list of tuples of whole numbers; sorted(s), s a set of pairs or of whole numbers; any number of them (up to 2000, 4000) -/
namespace Gx
open PySem L2 PySem.Spec PyProof.Rows
theorem perm_map_back {α β : Type} {f : α → β} {ys zs : List β} (h : ys.Perm zs) : ∀ {l : List α}, zs = l.map f → ∃ l' : List α, l'.Perm l ∧ ys = l'.map f := by
  induction h with
  | nil => intro l e; exact ⟨[], by rw [List.map_eq_nil_iff.mp e.symm], rfl⟩
  | cons x _ ih =>
    intro l e
    match l, e with
    | a :: l, e =>
      injection e with e1 e2
      obtain ⟨l', p, q⟩ := ih e2
      exact ⟨a :: l', p.cons a, by rw [q, e1, List.map_cons]⟩
  | swap x y zs =>
    intro l e
    match l, e with
    | a :: b :: l, e =>
      injection e with e1 e2
      injection e2 with e2 e3
      exact ⟨b :: a :: l, List.Perm.swap .., by rw [e1, e2, e3]; rfl⟩
  | trans _ _ ih1 ih2 =>
    intro l e
    obtain ⟨l2, p2, e2⟩ := ih2 e
    obtain ⟨l1, p1, e1⟩ := ih1 e2
    exact ⟨l1, p1.trans p2, e1⟩
section
variable {P : Program} {w : World} {A : Around} {E : Value → Shared → Prop} {s : Shared}
def JT (P : Program) (w : World) (S : Addr) (ks : List (Addr × List Int)) (i : Nat) (h : Heap) : Prop := ∃ L es ep t, SetB P w h S L es ep t ∧ (∀ p ∈ L, p ∈ ks.take i) ∧ (∀ p ∈ ks.take i, p.2 ∈ L.map (·.2)) ∧ L.length ≤ i
theorem SetB.move {h h' : Heap} {a : Addr} {L : List (Addr × List Int)} {es : Array (Int × Value)} {ep : Nat} {t : SetTable} (R : SetB P w h a L es ep t) (k : ∀ o, h.get? a = some o → h'.get? a = some o) : SetB P w h' a L es ep t := by
  obtain ⟨o, ho, r⟩ := R.obj
  exact ⟨⟨o, k o ho, r⟩, R.rws, R.tab, R.uni, R.pla, R.led, R.rom, R.few⟩
theorem jt_lean {S : Addr} {h0 : Heap} {ks : List (Addr × List Int)} : Leans S h0 (JT P w S ks) := fun i h h' ⟨L, es, ep, t, R, r⟩ k _ => ⟨L, es, ep, t, R.move k, r⟩
theorem jt_start {S : Addr} {ks : List (Addr × List Int)} {h : Heap} (e : h.get? S = some { cls := .type "set", dict := none, data := .set #[] 0 (.fresh 0 0 (!w.params.followText "set-order")) }) : JT P w S ks 0 h := by
  refine ⟨[], #[], 0, _, ⟨⟨_, e, ⟨rfl, rfl, rfl⟩, rfl⟩, rfl, ⟨List.Pairwise.nil, rfl, rfl, ⟨3, by decide, by decide, rfl⟩, fun x h => (by cases h), fun q h => (by cases h)⟩, List.nodup_nil, rfl, ?_, (show 0 * 5 < 7 * 3 by decide), Nat.zero_le _⟩, fun p h => (by cases h), fun p h => (by simp at h), Nat.le_refl _⟩
  cases w.params.followText "set-order" with
  | true => exact .inl rfl
  | false => exact .inr rfl
theorem jt_adds {S : Addr} {h0 : Heap} {ks : List (Addr × List Int)} {i : Nat} {p : Addr × List Int} (hp : ks[i]? = some p) (few : ks.length ≤ 2000) (tups : TupsB P w h0 ks) : Adds P w S h0 (JT P w S ks) i (.ref p.1) := by
  intro B F s Q hu ji old fin
  obtain ⟨L, es, ep, t, R, sub, all, len⟩ := ji
  have li := (List.getElem?_eq_some_iff.mp hp).1
  have tk : ks.take (i + 1) = ks.take i ++ [p] := take_next hp
  have there : ∀ q ∈ ks, IsT P w s.heap q.2 q.1 := fun q hq => isT_keep (tups q hq) old
  unfold setAdd
  refine wpAny_holding (wpAny_bind (wpAny_pyHash_tuple hu (there p (List.mem_of_getElem? hp)) ?_))
  refine add_tup (s := { s with toks := s.toks + (p.2.length + 1) }) R (fun q hq => there q (List.mem_of_mem_take (sub q hq))) (there p (List.mem_of_getElem? hp)) hu (by omega) fun b h' L' es' ep' t' sb R' c1 c2 => ?_
  refine fin b h' _ sb ⟨L', es', ep', t', R', ?_⟩ (Nat.le_add_right _ _)
  rw [tk]
  by_cases c : p.2 ∈ L.map (·.2)
  · rw [c1 c]
    refine ⟨fun q hq => List.mem_append_left _ (sub q hq), fun q hq => ?_, by omega⟩
    rcases List.mem_append.mp hq with z | z
    · exact all q z
    · rw [List.mem_singleton.mp z]
      exact c
  · have pm := c2 c
    refine ⟨fun q hq => ?_, fun q hq => ?_, by rw [pm.length_eq, List.length_cons]; omega⟩
    · rcases List.mem_cons.mp (pm.mem_iff.mp hq) with z | z
      · rw [z]
        exact List.mem_append_right _ (List.mem_singleton.mpr rfl)
      · exact List.mem_append_left _ (sub q z)
    · refine (pm.map (·.2)).mem_iff.mpr ?_
      rw [List.map_cons]
      rcases List.mem_append.mp hq with z | z
      · exact List.mem_cons_of_mem _ (all q z)
      · rw [List.mem_singleton.mp z]
        exact List.mem_cons_self
open SrtO in
/-- sorted(s), s a set -/
theorem sorted_any {a : Addr} {es : Array (Int × Value)} {ep : Nat} {t : SetTable} {ltv : Value → Value → Bool} {Q : Value → Shared → Prop} (O : Swo ltv) (hh : A.handled = none) (ha : SetAt s.heap a es ep t) (fit : t.fits es.size = true) (few : es.size < scanBound) (up : Ris t.place.toList)
    (led : w.params.followText "set-order" = true ∨ t.led = true)
    (cmp : ∀ (vs : List Value) (s1 : Shared) (b : Addr), vs.Perm (es.toList.map (·.2)) → 2 ≤ vs.length → (∀ b o, s.heap.get? b = some o → s1.heap.get? b = some o) → s1.heap.get? b = some (seqObj "list" vs.toArray 0) → SortableO P w A.in1.in1 s1 b vs ltv)
    (fin : ∀ (s' : Shared) p (out : List Value) (c : Nat), (∀ b o, s.heap.get? b = some o → s'.heap.get? b = some o) → s'.gens = s.gens → s'.os = s.os → s.heap.objs.size ≤ p → s'.heap.get? p = some (seqObj "list" out.toArray c) →
      out.Perm (es.toList.map (·.2)) → Srtd ltv out → Q (.ref p) s') : wpAny (model P w) A (call (.builtin "sorted") [.ref a]) Q E s := by
  refine Calls.call_function_entry kind_sorted plain_sorted entry_sorted (args_sorted1 _) ?_
  unfold Builtin.«sorted»
  refine wpAny_bind (m := checkCount "sorted" 1 1 _) (wpAny_pure ?_)
  refine wpAny_bind (collect_set (A := A.in1) hh ha fit few up led fun s1 vs kept size g1 o1 pm => ?_)
  have small : vs.length ≤ sizeLine := by
    rw [pm.length_eq, List.length_map, Array.length_toList]
    have : scanBound = 4096 := rfl
    rw [sizeLine_eq]
    omega
  refine wpAny_bind (wpAny_newList ?_ small)
  have at_l : (s1.heap.push (seqObj "list" vs.toArray 0)).get? s1.heap.objs.size = some (seqObj "list" vs.toArray 0) := Heap.get?_push_size _ rfl
  have kept1 : ∀ b o, s.heap.get? b = some o → (s1.heap.push (seqObj "list" vs.toArray 0)).get? b = some o := fun b o e => Heap.get?_push_of_some _ (kept b o e)
  refine wpAny_bind (wpAny_holding (wpAny_call_entry slot_list_sort ⟨_, at_l, rfl⟩ entry_list_sort (list_sort_ord (s := { s1 with heap := s1.heap.push (seqObj "list" vs.toArray 0) }) O at_l small (fun l2 => cmp vs { s1 with heap := s1.heap.push (seqObj "list" vs.toArray 0) } _ pm l2 kept1 at_l) fun out srt stb => ⟨_, rfl, ?_⟩) (args_list_sort _)))
  obtain ⟨c, hc⟩ := sortedHeap_at (vs := vs) (out := out.toArray) at_l
  refine wpAny_pure ⟨_, rfl, fin _ s1.heap.objs.size out c (fun b u e => ?_) g1 o1 size hc (stb.perm.trans pm) srt⟩
  have l1 := Heap.lt_size (kept b u e)
  show (sortedHeap (s1.heap.push (seqObj "list" vs.toArray 0)) s1.heap.objs.size vs out.toArray).get? b = some u
  rw [sortedHeap_old (Nat.ne_of_lt l1) (by rw [size_push']; exact Nat.lt_succ_of_lt l1)]
  exact kept1 b u e
end
/-! ### as rules of the layer -/
def SetB0 (P : Program) (w : World) (h : Heap) (a : Addr) (L : List (Addr × List Int)) : Prop := ∃ es ep t, SetB P w h a L es ep t
def SetBO (P : Program) (w : World) (a : Addr) (L : List (Addr × List Int)) : HO := .ext fun h => SetB0 P w h a L
theorem setBO_new {P : Program} {w : World} {H : Hp} {h : Heap} {a : Addr} {L : List (Addr × List Int)} (R : SetB0 P w h a L) : ObjOk P w H h a (SetBO P w a L) := by
  have ⟨es, ep, t, r⟩ := R
  obtain ⟨o, ho, _⟩ := r.obj
  exact ⟨R, ⟨o, ho⟩, fun h1 h2 ⟨es, ep, t, r⟩ k => ⟨es, ep, t, r.move k⟩⟩
/-- the numbers of a pair -/
def pr2 (ns : List Int) : Int × Int := (ns.headD 0, ns.tail.headD 0)
def ltPr (p q : Int × Int) : Bool := SrtO.lexB p q
section
variable {X : Cx}
def rSetOfB (K : PySem.W.Frag) (P : Program) (w : World) : List V → Hp → VK → Prop := fun xs H Q => ∃ (l : Addr) (ks : List (Addr × List Int)), xs = [V.ref l] ∧ SqL K H l (ks.map fun p => V.ref p.1) ∧ (∀ p ∈ ks, SqT K H p.1 (p.2.map V.int)) ∧ ks.length ≤ 2000 ∧
  ∀ a L, H a = none → (∀ p ∈ L, p ∈ ks) → (∀ p ∈ ks, p.2 ∈ L.map (·.2)) → (L.map (·.2)).Nodup → Q (.ref a) (upd H a (SetBO P w a L))
theorem cr_setOfB {j : Nat} (hc : X.calm = true) (hr : Room j X.A) : CallR X (.type "set") (rSetOfB X.K X.prog X.w) := by
  intro pins s σ H xs us Q I rel h
  obtain ⟨l, ks, rfl, sq, tu, few, k⟩ := h
  rw [Vals.ref1 rel]
  obtain ⟨its, rv, pl, sz⟩ := I.list sq
  have eits := refs_of_vals rv
  have len : its.toArray.size = ks.length := by rw [List.size_toArray, eits, List.length_map]
  have tups : TupsB X.prog X.w s.heap ks := fun p hp => I.isT (tu p hp)
  refine set_of_list (JT X.prog X.w s.heap.objs.size ks) (I.ok.hd hc) pl.isList (by have := hr.units; omega) jt_lean (fun i v hv => ?_) (fun h' e _ => jt_start e) fun h' tk jn old => ?_
  · rw [List.getElem?_toArray, eits, List.getElem?_map] at hv
    rcases e : ks[i]? with _ | p
    · rw [e] at hv
      cases hv
    · rw [e] at hv
      obtain rfl := Option.some.inj hv
      exact jt_adds e few tups
  · obtain ⟨L, es, ep, t, R, sub, all, ln⟩ := jn
    rw [len, List.take_length] at sub all
    have new : H s.heap.objs.size = none := I.hok.fresh (Nat.le_refl _)
    exact ⟨.ref s.heap.objs.size, upd H s.heap.objs.size (SetBO X.prog X.w s.heap.objs.size L), I.laid (t' := tk) old (Nat.le_refl _) (setBO_new ⟨es, ep, t, R⟩), rfl, k _ L new sub all R.uni⟩
/-- what a new list made in a call leaves -/
theorem laid_list {pins : List (Addr × Obj)} {σ : L2.St} {H : Hp} {s s' : Shared} {Q : VK} {p : Addr} {xs : List V} {out : List Value} {c : Nat} (I : Inv X pins σ H s) (kept : ∀ b o, s.heap.get? b = some o → s'.heap.get? b = some o) (g : s'.gens = s.gens) (o : s'.os = s.os) (hp : s.heap.objs.size ≤ p)
    (at_p : s'.heap.get? p = some (seqObj "list" out.toArray c)) (v : Vals xs out) (l : xs.length ≤ sizeLine) (q : H p = none → Q (.ref p) (upd H p (.lst xs))) : EP X pins σ Q (.ref p) s' := by
  have new : H p = none := I.hok.fresh hp
  have J : Inv X pins σ (upd H p (.lst xs)) { s with heap := s'.heap, gens := s'.gens, drawn := s'.drawn, toks := s'.toks } :=
    I.call (ch := []) (Un.laid kept hp new) (I.hok.laid kept hp ⟨l, out, c, v, at_p⟩) (by rw [g]; exact I.bare) (fun _ z => nomatch z)
  obtain ⟨h', g', d', t', o'⟩ := s'
  obtain rfl : o' = s.os := o
  exact ⟨.ref p, _, J, rfl, q new⟩
def rSortedB (K : PySem.W.Frag) (P : Program) (w : World) : List V → Hp → VK → Prop := fun vs H Q => ∃ (a : Addr) (L : List (Addr × List Int)), vs = [V.ref a] ∧ H a = some (SetBO P w a L) ∧ (∀ p ∈ L, p.2.length = 2 ∧ SqT K H p.1 (p.2.map V.int)) ∧
  ∀ (L' : List (Addr × List Int)) (p : Addr), L'.Perm L → L'.Pairwise (fun q r => ltPr (pr2 q.2) (pr2 r.2) = true) → H p = none → Q (.ref p) (upd H p (.lst (L'.map fun q => V.ref q.1)))
/-- which pair a reference is -/
def keyR (L : List (Addr × List Int)) : Value → Int × Int
  | .ref a => ((L.find? fun p => p.1 == a).map fun p => pr2 p.2).getD (0, 0)
  | _ => (0, 0)
theorem keyR_mem {P : Program} {w : World} {h : Heap} {L : List (Addr × List Int)} (tu : TupsB P w h L) {p : Addr × List Int} (hp : p ∈ L) : keyR L (.ref p.1) = pr2 p.2 := by
  show ((L.find? fun q => q.1 == p.1).map fun p => pr2 p.2).getD (0, 0) = _
  cases e : L.find? fun q => q.1 == p.1 with
  | none => exact absurd (List.find?_eq_none.mp e p hp) (by simp)
  | some q =>
    have e1 : q.1 = p.1 := by simpa using List.find?_some e
    have t1 := tu q (List.mem_of_find?_eq_some e)
    have t2 := tu p hp
    rw [e1] at t1
    have ek : q.2 = p.2 := t1.inj t2
    show pr2 q.2 = pr2 p.2
    rw [ek]
theorem pair_of {P : Program} {w : World} {h : Heap} {p : Addr × List Int} (l : p.2.length = 2) (t : IsT P w h p.2 p.1) : Srt.IsPair h (.ref p.1) (pr2 p.2).1 (pr2 p.2).2 := by
  obtain ⟨b, k⟩ := p
  match k, l, t with
  | [x, y], _, t =>
    obtain ⟨o, its, n, ho, hc, hd, it⟩ := t
    obtain ⟨its⟩ := its
    have ii := ints_of_items it
    cases ii with
    | cons _ t1 ii =>
      cases ii with
      | cons _ t2 ii =>
        cases ii
        exact ⟨b, o, t1, t2, n, rfl, ho, hc, hd⟩
theorem cr_sortedB (hc : X.calm = true) : CallR X (.builtin "sorted") (rSortedB X.K X.prog X.w) := by
  intro pins s σ H vs us Q I r h
  obtain ⟨a, L, rfl, ha, tu, q⟩ := h
  have R0 : SetB0 X.prog X.w s.heap a L := (I.hok a _ ha).1
  obtain ⟨es, ep, t, R⟩ := R0
  have tups : TupsB X.prog X.w s.heap L := fun p hp => I.isT (tu p hp).2
  rw [Vals.ref1 r]
  obtain ⟨o, ho, hex, hd⟩ := R.obj
  have vals : es.toList.map (·.2) = L.map fun p => Value.ref p.1 := by
    rw [R.rws]
    show (L.map _).map _ = _
    rw [List.map_map]
    rfl
  have few := R.few
  have num := R.num
  have isp : ∀ {h' : Heap} {v : Value}, (∀ b o, s.heap.get? b = some o → h'.get? b = some o) → v ∈ L.map (fun p => Value.ref p.1) → Srt.IsPair h' v (keyR L v).1 (keyR L v).2 := fun {h' v} k hv => by
    obtain ⟨p, hp, rfl⟩ := List.mem_map.mp hv
    rw [keyR_mem tups hp]
    exact pair_of (tu p hp).1 (isT_keep (tups p hp) k)
  refine sorted_any (SrtO.swo_lex (keyR L)) (I.ok.hd hc) ⟨o, ho, hex.1, hd⟩ R.fit (by have : scanBound = 4096 := rfl; omega) R.tab.up R.led (fun vs s1 b pm l2 kept at_b => ?_) fun s' p out c kept g os hp at_p pm srt => ?_
  · rw [vals] at pm
    refine SrtO.pairs_sortableO (s := s1) (by omega) (fun v hv => isp kept (pm.mem_iff.mp hv)) fun o e => ?_
    rw [at_b] at e
    obtain rfl := Option.some.inj e
    exact fun z => absurd (Value.type.inj z) (by decide)
  · rw [vals] at pm
    obtain ⟨L', pL, rfl⟩ := perm_map_back pm rfl
    refine laid_list I kept g os hp at_p (vals_of_refs L') (by rw [List.length_map, pL.length_eq, sizeLine_eq]; omega) (q L' p pL ?_)
    have uni0 : (L'.map (·.2)).Nodup := (pL.map (·.2)).nodup_iff.mpr R.uni
    have uni : L'.Pairwise fun q r => q.2 ≠ r.2 := List.pairwise_map.mp uni0
    have srt : (L'.map fun p => Value.ref p.1).Pairwise fun x y => SrtO.lexB (keyR L y) (keyR L x) = false := srt
    rw [List.pairwise_map] at srt
    refine (uni.and srt).imp_of_mem fun {x y} hx hy ⟨ne, le⟩ => ?_
    have mx := pL.mem_iff.mp hx
    have my := pL.mem_iff.mp hy
    rw [keyR_mem tups mx, keyR_mem tups my] at le
    have l1 := (tu x mx).1
    have l2 := (tu y my).1
    obtain ⟨x1, x2⟩ := x
    obtain ⟨y1, y2⟩ := y
    match x2, l1, y2, l2 with
    | [i, j], _, [i', j'], _ =>
      have le := SrtO.lexB_no.mp le
      refine SrtO.lexB_iff.mpr ?_
      simp only [pr2, List.headD_cons, List.tail_cons] at le ⊢
      have ne : ¬ (i = i' ∧ j = j') := fun z => ne (by rw [z.1, z.2])
      omega
/-- sorted(s), s a set of whole numbers, any number of them -/
def rSortedJ (w : World) : List V → Hp → VK → Prop := fun vs H Q => ∃ (a : Addr) (M : Int → Bool) (n : Nat), vs = [V.ref a] ∧ H a = some (SetO w a M n) ∧
  ∀ (ns : List Int) (p : Addr), ns.Pairwise (· < ·) → (∀ k : Int, k ∈ ns ↔ M k = true) → ns.length = n → H p = none → Q (.ref p) (upd H p (.lst (ns.map V.int)))
theorem cr_sortedJ (hc : X.calm = true) : CallR X (.builtin "sorted") (rSortedJ X.w) := by
  intro pins s σ H vs us Q I r h
  obtain ⟨a, M, n, rfl, ha, q⟩ := h
  obtain ⟨o, es, ep, t, ho, hex, hd, good, nd, mem, few, fit, num, up, led⟩ := setO_get I ha
  rw [Vals.ref1 r]
  have all : ∀ {vs : List Value}, vs.Perm (es.toList.map (·.2)) → IntsAre vs (vs.map SrtO.iv) ∧ (vs.map SrtO.iv).Perm (es.toList.map keyOf) := fun {vs} pm => by
    refine ⟨SrtO.ints_iv fun v hv => ?_, ?_⟩
    · obtain ⟨e, he, rfl⟩ := List.mem_map.mp (pm.mem_iff.mp hv)
      obtain ⟨k, tk, h1, _⟩ := good e he
      exact ⟨k, tk, h1⟩
    · have z := pm.map SrtO.iv
      rw [List.map_map] at z
      have e : es.toList.map (SrtO.iv ∘ (·.2)) = es.toList.map keyOf := List.map_congr_left fun e he => by
        obtain ⟨k, tk, h1, _⟩ := good e he
        show SrtO.iv e.2 = keyOf e
        unfold keyOf
        rw [h1]
        rfl
      rw [e] at z
      exact z
  refine sorted_any SrtO.swo_int (I.ok.hd hc) ⟨o, ho, hex.1, hd⟩ fit few up led (fun vs s1 b pm l2 kept at_b => SrtO.ints_sortable (all pm).1 l2) fun s' p out c kept g os hp at_p pm srt => ?_
  obtain ⟨i1, pk⟩ := all pm
  have ln : (out.map SrtO.iv).length = n := by rw [pk.length_eq, List.length_map, Array.length_toList, num]
  refine laid_list I kept g os hp at_p (vals_of_ints i1) (by rw [List.length_map, ln, sizeLine_eq]; have : scanBound = 4096 := rfl; omega) (q _ p ?_ (fun k => by rw [pk.mem_iff, ← mem k]) ln)
  have srt : out.Pairwise fun x y => SrtO.ltIv y x = false := srt
  refine lt_of_le_nodup _ (List.pairwise_map.mpr (srt.imp fun {x y} h => ?_)) (pk.nodup_iff.mpr nd)
  exact Int.not_lt.mp (of_decide_eq_false (p := SrtO.iv y < SrtO.iv x) h)
end
end Gx

set_option maxHeartbeats 1000000
/-! set(xs), sorted(s), sorted(xs) of lists of points of either kind -/
namespace Gx
open PySem L2 PySem.Spec PyProof.Rows
def rSetAny (K : PySem.W.Frag) (P : Program) (w : World) : List V → Hp → VK → Prop := fun xs H Q => rSetOfI K w xs H Q ∨ rSetOfB K P w xs H Q
def rSortAny (K : PySem.W.Frag) (P : Program) (w : World) : List V → Hp → VK → Prop := fun xs H Q => rSortedI K xs H Q ∨ rSortedPO K xs H Q ∨ rSortedJ w xs H Q ∨ rSortedB K P w xs H Q
theorem cr_setAny {X : Cx} {j : Nat} (hc : X.calm = true) (hr : Room j X.A) : CallR X (.type "set") (rSetAny X.K X.prog X.w) := by
  intro pins s σ H xs us Q I rel h
  rcases h with h | h
  · exact cr_setOfI hc hr pins s σ H xs us Q I rel h
  · exact cr_setOfB hc hr pins s σ H xs us Q I rel h
theorem cr_sortAny {X : Cx} (hc : X.calm = true) : CallR X (.builtin "sorted") (rSortAny X.K X.prog X.w) := by
  intro pins s σ H xs us Q I rel h
  rcases h with h | h | h | h
  · exact cr_sortedI pins s σ H xs us Q I rel h
  · exact cr_sortedPO pins s σ H xs us Q I rel h
  · exact cr_sortedJ hc pins s σ H xs us Q I rel h
  · exact cr_sortedB hc pins s σ H xs us Q I rel h
/-- a kind of points of which sets are made -/
class Sk (α : Type) extends Ln α where
  /-- a set of these stands at a -/
  setP : PySem.W.Frag → Program → World → Hp → Addr → List α → Prop
  mkS : ∀ {K : PySem.W.Frag} {P : Program} {w : World} {H : Hp} {l : Addr} {as : List α} {Q : VK}, PtsL K H l as → as.length ≤ 2000 → (∀ a H', H a = none → Same H H' → setP K P w H' a as → Q (.ref a) H') → rSetAny K P w [.ref l] H Q
  srt : ∀ {K : PySem.W.Frag} {P : Program} {w : World} {H : Hp} {a : Addr} {as : List α} {Q : VK}, setP K P w H a as → (∀ (bs : List α) p H', Up bs → (∀ x, x ∈ bs ↔ x ∈ as) → bs.length ≤ as.length → H p = none → Same H H' → PtsL K H' p bs → Q (.ref p) H') → rSortAny K P w [.ref a] H Q
theorem up_nodup {α : Type} [Kd α] {bs : List α} (h : Up bs) : bs.Nodup := h.imp fun {a b} l e => by
  rw [e, Kd.irr] at l
  cases l
/-- a list without doubles of things of another one is no longer -/
theorem nodup_le {α : Type} [DecidableEq α] : ∀ {bs as : List α}, bs.Nodup → (∀ x ∈ bs, x ∈ as) → bs.length ≤ as.length
  | [], _, _, _ => Nat.zero_le _
  | b :: bs, as, nd, sub => by
    obtain ⟨n1, n2⟩ := List.nodup_cons.mp nd
    have hb := sub b List.mem_cons_self
    have ih := nodup_le (bs := bs) (as := as.erase b) n2 fun x hx => (List.mem_erase_of_ne (fun (e : x = b) => n1 (by rw [← e]; exact hx))).mpr (sub x (List.mem_cons_of_mem _ hx))
    have e := List.length_erase_of_mem hb
    have pos : 0 < as.length := List.length_pos_of_mem hb
    rw [List.length_cons]
    omega
instance : Sk Int where
  setP K P w H a as := ∃ M n, H a = some (SetO w a M n) ∧ (∀ k, M k = true ↔ k ∈ as) ∧ n ≤ as.length
  mkS := fun {K P w H l as Q} h few k => .inl (g_setI (SqL.of (ptsI_of h)) (by omega) fun a M n H' ha S e m ln => k a H' ha S ⟨M, n, e, m, ln⟩)
  srt := fun {K P w H a as Q} h k => by
    obtain ⟨M, n, e, m, ln⟩ := h
    refine .inr (.inr (.inl ⟨a, M, n, rfl, e, fun ns p up mem len hp => ?_⟩))
    exact k ns p _ (up.imp fun {a b} z => decide_eq_true z) (fun x => (mem x).trans (m x)) (by omega) hp (same_new hp) (ptsI upd_same)
/-- the references of a list of pairs, with what they stand for -/
theorem pairs_keys {K : PySem.W.Frag} {H : Hp} : ∀ {xs : List V} {as : List Pr}, DpAll K H xs (as.map Kd.D) → ∃ ks : List (Addr × List Int), xs = ks.map (fun p => V.ref p.1) ∧ (∀ p ∈ ks, p.2.length = 2 ∧ SqT K H p.1 (p.2.map V.int)) ∧ ks.map (fun p => pr2 p.2) = as
  | _, [], d => by cases d; exact ⟨[], rfl, (fun p h => by cases h), rfl⟩
  | _, a :: as, d => by
    cases d with
    | cons h d =>
      obtain ⟨ks, e1, e2, e3⟩ := pairs_keys d
      obtain ⟨r, rfl, e⟩ := pr_at h
      refine ⟨(r, [a.1, a.2]) :: ks, by rw [e1]; rfl, fun p hp => ?_, by rw [List.map_cons, e3]; rfl⟩
      rcases List.mem_cons.mp hp with z | z
      · rw [z]
        exact ⟨rfl, e⟩
      · exact e2 p z
theorem keys_pairs {K : PySem.W.Frag} {H : Hp} : ∀ {ks : List (Addr × List Int)}, (∀ p ∈ ks, p.2.length = 2 ∧ SqT K H p.1 (p.2.map V.int)) → DpAll K H (ks.map fun p => V.ref p.1) ((ks.map fun p => pr2 p.2).map (Kd.D (α := Pr)))
  | [], _ => .nil
  | p :: ks, h => by
    refine .cons ?_ (keys_pairs fun q hq => h q (List.mem_cons_of_mem _ hq))
    obtain ⟨l, t⟩ := h p List.mem_cons_self
    obtain ⟨b, k⟩ := p
    match k, l, t with
    | [x, y], _, t => exact pr_of t
theorem ltPr_eq (p q : Pr) : ltPr p q = Kd.lt p q := by
  show SrtO.lexB p q = prLt p q
  unfold prLt
  cases h : SrtO.lexB p q with
  | true => exact (decide_eq_true (SrtO.lexB_iff.mp h)).symm
  | false => exact (decide_eq_false (SrtO.lexB_no.mp h)).symm
instance : Sk Pr where
  setP K P w H a as := ∃ L, H a = some (SetBO P w a L) ∧ (∀ p ∈ L, p.2.length = 2 ∧ SqT K H p.1 (p.2.map V.int)) ∧ (∀ x, x ∈ L.map (fun p => pr2 p.2) ↔ x ∈ as)
  mkS := fun {K P w H l as Q} h few k => by
    obtain ⟨xs, e, d⟩ := h
    have ln := pts_len d
    obtain ⟨ks, rfl, tu, ek⟩ := pairs_keys d
    refine .inr ⟨l, ks, rfl, SqL.of e, fun p hp => (tu p hp).2, by rw [List.length_map] at ln; omega, fun a L ha sub all uni => ?_⟩
    refine k a _ ha (same_new ha) ⟨L, upd_same, fun p hp => ?_, fun x => ?_⟩
    · obtain ⟨l2, t⟩ := tu p (sub p hp)
      exact ⟨l2, same_sqT (same_new ha) t⟩
    · rw [← ek, List.mem_map, List.mem_map]
      constructor
      · rintro ⟨p, hp, e⟩
        exact ⟨p, sub p hp, e⟩
      · rintro ⟨p, hp, e⟩
        obtain ⟨q, hq, e2⟩ := List.mem_map.mp (all p hp)
        exact ⟨q, hq, by rw [show q.2 = p.2 from e2]; exact e⟩
  srt := fun {K P w H a as Q} h k => by
    obtain ⟨L, e, tu, mem⟩ := h
    refine .inr (.inr (.inr ⟨a, L, rfl, e, tu, fun L' p perm up hp => ?_⟩))
    have tu' : ∀ q ∈ L', q.2.length = 2 ∧ SqT K (upd H p (.lst (L'.map fun q => V.ref q.1))) q.1 (q.2.map V.int) := fun q hq => by
      obtain ⟨l2, t⟩ := tu q (perm.mem_iff.mp hq)
      exact ⟨l2, same_sqT (same_new hp) t⟩
    have u : Up (L'.map fun q => pr2 q.2) := List.pairwise_map.mpr (up.imp fun {x y} z => by rw [← ltPr_eq]; exact z)
    have m : ∀ x, x ∈ L'.map (fun q => pr2 q.2) ↔ x ∈ as := fun x => by
      rw [← mem x]
      exact (perm.map _).mem_iff
    exact k _ p _ u m (nodup_le (up_nodup u) fun x hx => (m x).mp hx) hp (same_new hp) ⟨_, upd_same, keys_pairs tu'⟩
end Gx

/-! > of points of either kind -/
namespace Gx
open PySem L2 PySem.Spec PyProof.Rows
def rGtP (K : PySem.W.Frag) : R2 := fun x y H Q => ∃ (a b : Addr) (p q : Pr), x = .ref a ∧ y = .ref b ∧ SqT K H a [.int p.1, .int p.2] ∧ SqT K H b [.int q.1, .int q.2] ∧ Q (.bl (prLt q p)) H
theorem op_gtP {X : Cx} (hu : X.A.units < cLine) : OpR X (compareOp .Gt) (rGtP X.K) := by
  intro pins s σ H x y v u Q I rx ry h
  obtain ⟨a, b, p, q, rfl, rfl, ha, hb, k⟩ := h
  cases rx
  cases ry
  obtain ⟨its, r1, p1, _⟩ := I.tuple (xs := ([p.1, p.2] : List Int).map V.int) ha
  obtain ⟨its2, r2, p2, _⟩ := I.tuple (xs := ([q.1, q.2] : List Int).map V.int) hb
  have i1 : IntsAre its [p.1, p.2] := Vals.ints r1
  have i2 : IntsAre its2 [q.1, q.2] := Vals.ints r2
  cases i1 with
  | cons _ t1 i1 =>
  cases i1 with
  | cons _ t2 i1 =>
  cases i1
  cases i2 with
  | cons _ u1 i2 =>
  cases i2 with
  | cons _ u2 i2 =>
  cases i2
  have e2 : ∀ a b : Int, (a == b) = decide (a = b) := fun a b => by
    by_cases c : a = b
    · rw [decide_eq_true c]; exact beq_iff_eq.mpr c
    · rw [decide_eq_false c]; exact beq_eq_false_iff_ne.mpr c
  have R := Ob.RcOp.tuples_gt (A := X.A) (s := s) (e := fun j => if j = 0 then decide (p.1 = q.1) else decide (p.2 = q.2)) (r := fun j => if j = 0 then decide (p.1 > q.1) else decide (p.2 > q.2)) p1 p2 hu (fun j h1 h2 => by
    match j, h1, h2 with
    | 0, _, _ =>
      show SeqAt.EqAt _ _ _ _ (decide (p.1 = q.1))
      rw [← e2]
      exact SeqAt.EqAt.int_int _ _ _ _
    | 1, _, _ =>
      show SeqAt.EqAt _ _ _ _ (decide (p.2 = q.2))
      rw [← e2]
      exact SeqAt.EqAt.int_int _ _ _ _
    | n + 2, h1, _ => exact absurd (show n + 2 < 2 from h1) (by omega)) (fun j h1 h2 _ => by
    match j, h1, h2 with
    | 0, _, _ => exact Ob.RcOp.gt_int _ _ _ _
    | 1, _, _ => exact Ob.RcOp.gt_int _ _ _ _
    | n + 2, h1, _ => exact absurd (show n + 2 < 2 from h1) (by omega))
  refine R X.prog X.w X.xe (EP X pins σ Q) ⟨.bl _, H, I, rfl, ?_⟩
  refine cast ?_ k
  congr 2
  show prLt q p = (if decide (p.1 = q.1) = true then (if decide (p.2 = q.2) = true then false else decide (p.2 > q.2)) else decide (p.1 > q.1))
  unfold prLt
  by_cases c1 : p.1 = q.1
  · rw [decide_eq_true c1, if_pos rfl]
    by_cases c2 : p.2 = q.2
    · rw [decide_eq_true c2, if_pos rfl]
      exact decide_eq_false (by omega)
    · rw [decide_eq_false c2, if_neg Bool.false_ne_true]
      exact decide_eq_decide.mpr ⟨fun z => by omega, fun z => by omega⟩
  · rw [decide_eq_false c1, if_neg Bool.false_ne_true]
    exact decide_eq_decide.mpr ⟨fun z => by omega, fun z => by omega⟩
def rGt2 (K : PySem.W.Frag) : R2 := fun x y H Q => rI0 (fun i j => .bl (decide (j < i))) x y H Q ∨ rGtP K x y H Q
theorem op_gt2 {X : Cx} (hu : X.A.units < cLine) : OpR X (compareOp .Gt) (rGt2 X.K) := fun pins s σ H x y v u Q I rx ry h => by
  rcases h with h | h
  · exact op_gt pins s σ H x y v u Q I rx ry h
  · exact op_gtP hu pins s σ H x y v u Q I rx ry h
class Gr (α : Type) extends Sk α where
  more : ∀ {K : PySem.W.Frag} {H : Hp} {x y : V} {a b : α} {Q : VK}, Dp K H x (D a) → Dp K H y (D b) → Q (.bl (lt b a)) H → rGt2 K x y H Q
instance : Gr Int where
  more h1 h2 q := by
    cases h1
    cases h2
    exact .inl (g_I0 q)
instance : Gr Pr where
  more h1 h2 q := by
    obtain ⟨r1, rfl, e1⟩ := pr_at h1
    obtain ⟨r2, rfl, e2⟩ := pr_at h2
    exact .inr ⟨r1, r2, _, _, rfl, rfl, e1, e2, q⟩
end Gx

/-! Lists of points: made, joined, cut, walked; neighbours by filters -/
namespace Gx
open PySem L2 PySem.Spec PyProof.Rows
theorem passN {X : Cx} : ∀ σ, PassesAt (L2.CX X.prog X.w) X σ (fun _ _ _ => False) := fun σ pins H s e s' I h => passL pins σ H s e s' I h
theorem dpDrop {K : PySem.W.Frag} {H : Hp} {xs : List V} {ds : List PyData} (d : DpAll K H xs ds) : ∀ n, DpAll K H (xs.drop n) (ds.drop n) := by
  intro n
  induction n generalizing xs ds with
  | zero => exact d
  | succ n ih =>
    cases d with
    | nil => exact .nil
    | cons h d => exact ih d
theorem dpTake {K : PySem.W.Frag} {H : Hp} {xs : List V} {ds : List PyData} (d : DpAll K H xs ds) : ∀ n, DpAll K H (xs.take n) (ds.take n) := by
  intro n
  induction n generalizing xs ds with
  | zero => exact .nil
  | succ n ih =>
    cases d with
    | nil => exact .nil
    | cons h d => exact .cons h (ih d)
section
variable {α : Type} [Kd α] {K : PySem.W.Frag} {H H1 : Hp} {Q : VK} {σ : L2.St} {te : TE} {tt : TT} {g : TG} {vs : List Nat} {J : It} {n : Nat} {item : Nat → V → Hp → Prop}
open Kd
/-- points made one by one -/
theorem lc_pts (src : Src J H1 n item) (hn : n ≤ 100000) (F : α → Prop)
    (turn : ∀ i x H' (Nx : V → Hp → Prop), i < n → Same H1 H' → item i x H' → (∀ y (a : α) H4, Same H' H4 → Dp K H4 y (D a) → F a → Nx y H4) → g x (wipe σ vs) H' fun σ2 H2 => wipe σ2 vs = wipe σ vs ∧ te σ2 H2 Nx)
    (done : ∀ p (as : List α) H', H1 p = none → Same H1 H' → PtsL K H' p as → (∀ a ∈ as, F a) → as.length = n → Q (.ref p) H') : LC g tYes te vs J σ H1 Q := by
  refine lc_src src hn (fun i acc H' => ∃ as : List α, DpAll K H' acc (as.map D) ∧ (∀ a ∈ as, F a) ∧ as.length = i) (fun _ _ _ _ _ _ e _ _ b ⟨as, d, r⟩ => ⟨as, dp_butAll e b _ _ (kd_nols _) d, r⟩) (fun _ _ => ⟨[], .nil, (fun a h => by cases h), rfl⟩) (fun i x acc H' Nx No lt s it a hl k1 k2 => ?_) fun p acc H' h1 s e a _ => ?_
  · obtain ⟨as, d, f, l⟩ := a
    have q := turn i x H' Nx lt s it fun y b H4 s4 hy fb => k1 y H4 s4 ⟨as ++ [b], ?_, fun a ha => ?_, by rw [List.length_append, l]; rfl⟩
    · exact q
    · rw [List.map_append]
      exact dpAll_append (dp_sameAll s4 _ _ d) (.cons hy .nil)
    · rcases List.mem_append.mp ha with z | z
      · exact f a z
      · rw [List.mem_singleton.mp z]
        exact fb
  · obtain ⟨as, d, f, l⟩ := a
    exact done p as H' h1 s ⟨acc, e, d⟩ f l
/-- two lists of points, one behind the other -/
theorem g_catPts {l b : Addr} {as bs : List α} (h1 : PtsL K H l as) (h2 : PtsL K H b bs) (hl : as.length + bs.length ≤ 100000) (k : ∀ p H', H p = none → Same H H' → PtsL K H' p (as ++ bs) → Q (.ref p) H') : rCat (.ref l) (.ref b) H Q := by
  obtain ⟨xs, e1, d1⟩ := h1
  obtain ⟨ys, e2, d2⟩ := h2
  refine g_cat e1 e2 (by rw [pts_len d1, pts_len d2]; exact hl) fun p H' n s e => k p H' n s ⟨_, e, ?_⟩
  rw [List.map_append]
  exact dpAll_append (dp_sameAll s _ _ d1) (dp_sameAll s _ _ d2)
/-- a part of a list of points -/
theorem g_slPts {l : Addr} {as : List α} {lo hi : Option Int} (h : PtsL K H l as) (k : ∀ p (bs : List α) H', H p = none → Same H H' → PtsL K H' p bs → (∀ b ∈ bs, b ∈ as) → bs.length ≤ as.length → Q (.ref p) H') : rSlL K (.ref l) lo hi H Q := by
  obtain ⟨xs, e, d⟩ := h
  refine g_slL (SqL.of e) fun p H' n s e' => ?_
  refine k p (((as.drop (HT.sIx xs.length 0 lo))).take (HT.sIx xs.length xs.length hi - HT.sIx xs.length 0 lo)) H' n s ⟨_, e', ?_⟩ (fun b hb => List.mem_of_mem_drop (List.mem_of_mem_take hb)) (by rw [List.length_take, List.length_drop]; omega)
  rw [List.map_take, List.map_drop]
  exact dpTake (dpDrop (dp_sameAll s _ _ d) _) _
/-- the last one, the first one -/
theorem g_ptEnd {q : Addr} {as : List α} (h : PtsL K H q as) (h1 : 0 < as.length) (k : ∀ v a, as.getLast? = some a → Dp K H v (D a) → Q v H) : rIxL K (.ref q) (.int (-1)) H Q := by
  obtain ⟨xs, e, d⟩ := h
  have len := pts_len d
  have hj : xs.length - 1 < xs.length := by omega
  have z : atI xs (-1) = xs[xs.length - 1]? := by
    have e : ixN xs.length (-1) = some (xs.length - 1) := by
      unfold ixN
      rw [if_neg (by omega), if_pos (by omega)]
      congr 1
      omega
    unfold atI
    rw [e]
    rfl
  obtain ⟨a, ha, dx⟩ := pts_at d (List.getElem?_eq_getElem hj)
  refine ⟨q, xs, -1, _, rfl, rfl, SqL.of e, by rw [z, List.getElem?_eq_getElem hj], k _ a ?_ dx⟩
  rw [List.getLast?_eq_getElem?, ← len]
  exact ha
theorem g_ptFirst {q : Addr} {as : List α} (h : PtsL K H q as) (h1 : 0 < as.length) (k : ∀ v a, as.head? = some a → Dp K H v (D a) → Q v H) : rIxL K (.ref q) (.int 0) H Q := by
  obtain ⟨xs, e, d⟩ := h
  have len := pts_len d
  have hj : 0 < xs.length := by omega
  obtain ⟨a, ha, dx⟩ := pts_at d (List.getElem?_eq_getElem hj)
  refine ⟨q, xs, 0, _, rfl, rfl, SqL.of e, atI_nat (List.getElem?_eq_getElem hj), k _ a ?_ dx⟩
  rw [List.head?_eq_getElem?]
  exact ha
theorem fw_pts {p : Addr} {as : List α} {tb : TS} {D' : Ends} (h : PtsL K H p as) (Pv : Nat → L2.St → Hp → Prop) (sm : ∀ i σ H', Pv i σ H' → Same H H') (h0 : Pv 0 σ H)
    (hs : ∀ i x (a : α) σ H', as[i]? = some a → Pv i σ H' → Dp K H' x (D a) → g x σ H' fun σ2 H2 => tb { D' with nx := Pv (i + 1), ct := Pv (i + 1), bk := D'.nx } σ2 H2) (hd : ∀ σ H', Pv as.length σ H' → D'.nx σ H') : FW g tb D' (Itl K p) σ H := by
  obtain ⟨xs, e, d⟩ := h
  have ln := pts_len d
  refine fw_list (xs := xs) Pv h0 (fun i σ H' _ pv => SqL.of (sm i σ H' pv _ _ e)) (fun i x σ H' hx pv => ?_) (fun σ H' pv => hd σ H' (by rw [ln] at pv; exact pv))
  obtain ⟨a, ha, dx⟩ := pts_at (dp_sameAll (sm i σ H' pv) _ _ d) hx
  exact hs i x a σ H' ha pv dx
end
theorem g_eqNil {α : Type} [Kd α] {K : PySem.W.Frag} {H : Hp} {Q : VK} {a p : Addr} {as : List α} (h : PtsL K H a as) (e : H p = some (.lst [])) (k : Q (.bl (decide (as = []))) H) : rEqD K (.ref a) (.ref p) H Q :=
  g_eqP (bs := []) h ⟨[], e, .nil⟩ k
theorem g_neNil {α : Type} [Kd α] {K : PySem.W.Frag} {H : Hp} {Q : VK} {a p : Addr} {as : List α} (h : PtsL K H a as) (e : H p = some (.lst [])) (k : Q (.bl (!decide (as = []))) H) : rNeD K (.ref a) (.ref p) H Q :=
  g_neP (bs := []) h ⟨[], e, .nil⟩ k
theorem g_ix2 {K : PySem.W.Frag} {H : Hp} {Q : VK} {t : Addr} {xs : List V} {k : Int} {v : V} (e : SqT K H t xs) (h : atI xs k = some v) (q : Q v H) : rIxT K (.ref t) (.int k) H Q := ⟨t, xs, k, v, rfl, rfl, e, h, q⟩
/-! ### neighbours -/
section
variable {α : Type} [Kd α]
open Kd
theorem less_last {as : List α} {x : α} (up : Up as) : (if 0 < lessK as x then as[lessK as x - 1]? else none) = (as.filter fun a => lt a x).getLast? := by
  rw [← take_less up, List.getLast?_eq_getElem?, List.length_take, Nat.min_eq_left (lessK_le as x)]
  by_cases c : 0 < lessK as x
  · rw [if_pos c, List.getElem?_take_of_lt (by omega)]
  · rw [if_neg c]
    have : lessK as x = 0 := by omega
    rw [this]
    rfl
/-- where a point stands -/
theorem less_at {as : List α} (up : Up as) {i : Nat} {a : α} (h : as[i]? = some a) : lessK as a = i := by
  have li := (List.getElem?_eq_some_iff.mp h).1
  have n1 : ¬ i < lessK as a := fun z => by
    have := (lessK_get up h).mp z
    rw [irr] at this
    cases this
  have n2 : ∀ j, j < i → j < lessK as a := fun j hj => by
    have lj : j < as.length := by omega
    refine (lessK_get up (List.getElem?_eq_getElem lj)).mpr ?_
    have := List.pairwise_iff_getElem.mp up j i lj li hj
    rw [(List.getElem?_eq_some_iff.mp h).2] at this
    exact this
  rcases Nat.lt_or_ge (lessK as a) i with l | l
  · exact absurd (n2 _ l) (Nat.lt_irrefl _)
  · omega
theorem at_less {as : List α} {x : α} (up : Up as) (h : x ∈ as) : as[lessK as x]? = some x := by
  obtain ⟨i, hi⟩ := List.getElem?_of_mem h
  rw [less_at up hi]
  exact hi
theorem more_first {as : List α} {x : α} (up : Up as) : as[lessK as x + (if x ∈ as then 1 else 0)]? = (as.filter fun a => lt x a).head? := by
  have up' := up
  have e : as.filter (fun a => lt x a) = as.drop (lessK as x + (if x ∈ as then 1 else 0)) := by
    have dl := drop_less (x := x) up
    have ft : as.filter (fun a => lt x a) = (as.drop (lessK as x)).filter (fun a => lt x a) := by
      rw [dl, List.filter_filter]
      refine List.filter_congr fun a _ => ?_
      cases h : lt x a with
      | false => rfl
      | true =>
        cases h2 : lt a x with
        | false => rfl
        | true =>
          have := tran _ _ _ h h2
          rw [irr] at this
          cases this
    by_cases c : x ∈ as
    · rw [if_pos c, ft]
      have e1 := at_less up c
      have lt1 : lessK as x < as.length := (List.getElem?_eq_some_iff.mp e1).1
      rw [List.drop_eq_getElem_cons lt1, (List.getElem?_eq_some_iff.mp e1).2, List.filter_cons_of_neg (by rw [irr]; exact Bool.false_ne_true)]
      refine List.filter_eq_self.mpr fun a ha => ?_
      obtain ⟨j, hj⟩ := List.getElem?_of_mem ha
      rw [List.getElem?_drop] at hj
      have lj := (List.getElem?_eq_some_iff.mp hj).1
      have := List.pairwise_iff_getElem.mp up (lessK as x) (lessK as x + 1 + j) lt1 lj (by omega)
      rw [(List.getElem?_eq_some_iff.mp e1).2, (List.getElem?_eq_some_iff.mp hj).2] at this
      exact this
    · rw [if_neg c, ft]
      refine List.filter_eq_self.mpr fun a ha => ?_
      have ha2 := ha
      rw [dl] at ha2
      obtain ⟨m1, m2⟩ := List.mem_filter.mp ha2
      have ne : x ≠ a := fun z => c (z ▸ m1)
      rcases tri x a ne with h | h
      · exact h
      · rw [h] at m2
        cases m2
  rw [e, List.head?_drop]
end
end Gx
namespace Gx
open PySem L2
theorem g_iteJ2 {b : Bool} {A B : Prop} (h1 : b = true → A) (h2 : b = false → B) : if b = true then A else B := by
  cases b with
  | true => rw [if_pos rfl]; exact h1 rfl
  | false => rw [if_neg Bool.false_ne_true]; exact h2 rfl
end Gx
namespace Gx
open PySem L2
/-- an if between values whose two ways meet -/
theorem g_ifJ {tt : TT} {ta tb : TE} {σ : L2.St} {H : Hp} {C : VK} (Mid : V → Hp → Prop) (h : ∀ C' : VK, (∀ v H', Mid v H' → C' v H') → tIf tt ta tb σ H C') (tail : ∀ v H', Mid v H' → C v H') : tIf tt ta tb σ H C := h C tail
end Gx

/-! Points below and above, points added and taken away; comprehensions over points -/
namespace Gx
open PySem L2
section
variable {α : Type} [Ln α] {K : PySem.W.Frag} {H H' : Hp}
open Kd
/-- the point below, the point above -/
def belowK (as : List α) (x : α) : Option α := if 0 < lessK as x then as[lessK as x - 1]? else none
def aboveK (as : List α) (x : α) : Option α := as[lessK as x + (if x ∈ as then 1 else 0)]?
/-- the value of an option of points -/
def OptP (K : PySem.W.Frag) (H : Hp) (o : Option α) (v : V) : Prop := Dp K H v (oK o)
theorem LnS.open {S : Addr → Prop} {p : Addr} {as : List α} (h : LnS K S H p as) : ∃ C dx q xs, S C ∧ H p = some (.ins C dx (lf q)) ∧ H q = some (.lst xs) ∧ DpAll K H xs (as.map D) := by
  obtain ⟨C, hC, dx, q, h1, xs, h2, h3⟩ := h
  exact ⟨C, dx, q, xs, hC, h1, h2, h3⟩
end
end Gx
namespace Gx
open PySem L2
section
variable {α : Type} [Ln α] {K : PySem.W.Frag} {H H' : Hp}
open Kd
def withK (as : List α) (a : α) : List α := as.take (lessK as a) ++ a :: as.drop (lessK as a + (if a ∈ as then 1 else 0))
def withoutK (as : List α) (a : α) : List α := as.filter fun b => !decide (b = a)
theorem withK_len (as : List α) (a : α) : (withK as a).length ≤ as.length + 1 := by
  unfold withK
  rw [List.length_append, List.length_cons, List.length_take, List.length_drop]
  omega
theorem up_zip {as : List α} (h : Up as) {i : Nat} {a b : α} (ha : as[i]? = some a) (hb : (as.drop 1)[i]? = some b) : lt a b = true := by
  rw [List.getElem?_drop] at hb
  obtain ⟨l1, e1⟩ := List.getElem?_eq_some_iff.mp ha
  obtain ⟨l2, e2⟩ := List.getElem?_eq_some_iff.mp hb
  have q := List.pairwise_iff_getElem.mp h i (1 + i) l1 l2 (by omega)
  rw [e1, e2] at q
  exact q
theorem dpAll_drop {xs : List V} {ds : List PyData} (d : DpAll K H xs ds) : ∀ n, DpAll K H (xs.drop n) (ds.drop n) := by
  intro n
  induction n generalizing xs ds with
  | zero => exact d
  | succ n ih =>
    cases d with
    | nil => exact .nil
    | cons h d => exact ih d
theorem dpAll_take {xs : List V} {ds : List PyData} (d : DpAll K H xs ds) : ∀ n, DpAll K H (xs.take n) (ds.take n) := by
  intro n
  induction n generalizing xs ds with
  | zero => exact .nil
  | succ n ih =>
    cases d with
    | nil => exact .nil
    | cons h d => exact .cons h (ih d)
theorem cut_to (xs : List V) (n : Nat) (h : n ≤ xs.length) : cutV xs none (some (n : Int)) = xs.take n := by
  unfold cutV
  have e1 : HT.sIx xs.length 0 none = 0 := rfl
  have e2 : HT.sIx xs.length xs.length (some (n : Int)) = n := by
    unfold HT.sIx
    dsimp only
    rw [if_neg (by omega)]
    simp
    omega
  rw [e1, e2]
  rfl
theorem cut_from (xs : List V) (n : Nat) (h : n ≤ xs.length) : cutV xs (some (n : Int)) none = xs.drop n := by
  unfold cutV
  have e1 : HT.sIx xs.length 0 (some (n : Int)) = n := by
    unfold HT.sIx
    dsimp only
    rw [if_neg (by omega)]
    simp
    omega
  have e2 : HT.sIx xs.length xs.length none = xs.length := rfl
  rw [e1, e2]
  exact List.take_of_length_le (by rw [List.length_drop]; exact Nat.le_refl _)
end
section
variable {α : Type} [Kd α] {K : PySem.W.Frag} {H H1 : Hp} {Q : VK} {σ : L2.St} {te : TE} {tt : TT} {g : TG} {vs : List Nat}
open Kd
/-- points of a list, those that pass a test -/
theorem lc_filtP {a : Addr} {xs : List V} {as : List α} (h : SqL K H1 a xs) (d : DpAll K H1 xs (as.map D)) (hn : xs.length ≤ 100000) (c : α → Bool)
    (turn : ∀ (x : V) (b : α) H' (Nx : V → Hp → Prop) (No : Hp → Prop), Dp K H' x (D b) → Same H1 H' → (∀ H4, Same H' H4 → c b = true → Nx x H4) → (∀ H4, Same H' H4 → c b = false → No H4) →
      g x (wipe σ vs) H' fun σ2 H2 => wipe σ2 vs = wipe σ vs ∧ tt σ2 H2 fun b H3 => if b = true then te σ2 H3 Nx else No H3)
    (done : ∀ D H', H1 D = none → Same H1 H' → PtsL K H' D (as.filter c) → Q (.ref D) H') : LC g tt te vs (Itl K a) σ H1 Q := by
  have ln := pts_len d
  refine lc_src (n := xs.length) (src_list h) hn (fun i acc H' => DpAll K H' acc (((as.take i).filter c).map D)) (fun _ _ _ _ _ _ e _ _ b a => dp_butAll e b _ _ (kd_nols _) a) (fun _ _ => .nil) (fun i x acc H' Nx No lt s it a hl k1 k2 => ?_) fun D acc H' h1 s e a _ => done D H' h1 s ⟨acc, e, by rw [ln, List.take_length] at a; exact a⟩
  obtain ⟨b, hb, hx⟩ := pts_at (dp_sameAll s _ _ d) it
  have tk : as.take (i + 1) = as.take i ++ [b] := by
    rw [List.take_succ, hb]
    rfl
  refine turn x b H' Nx No hx s (fun H4 s4 h => k1 x H4 s4 ?_) (fun H4 s4 h => k2 H4 s4 ?_)
  · rw [tk, List.filter_append, List.map_append]
    simp only [List.filter_cons, h, if_true, List.filter_nil, List.map_cons, List.map_nil]
    exact dpAll_append (dp_sameAll s4 _ _ a) (.cons (dp_same s4 _ _ hx) .nil)
  · rw [tk, List.filter_append, List.map_append]
    simp only [List.filter_cons, h, Bool.false_eq_true, if_false, List.filter_nil, List.map_nil, List.append_nil]
    exact dp_sameAll s4 _ _ a
end
end Gx

set_option maxHeartbeats 4000000
namespace Gk
open PySem L2 Gx
open C8 (Cal Met Mak pe_c pe_mt pe_mt0 pe_mk pe_gc)
local macro_rules | `(tactic| walk_at "g") => `(tactic| (first
  | with_reducible refine g_seq ?_ | with_reducible refine g_asg ?_ | ((with_reducible show tVar _ _ _ _); refine g_var rfl ?_) | with_reducible refine g_c ?_ | with_reducible refine g_name ?_ | with_reducible refine g_op ?_ | with_reducible refine g_I0 ?_
  | with_reducible refine g_cons ?_ | with_reducible refine g_nil ?_ | with_reducible refine g_exbl ?_ | with_reducible refine g_exint ?_ | with_reducible refine g_test ?_ | with_reducible refine g_B ?_ | with_reducible refine g_ifS ?_ | with_reducible refine g_ret ?_ | with_reducible refine g_retN ?_ | with_reducible refine g_next ?_
  | with_reducible refine g_CB ?_ | with_reducible refine g_sub ?_ | with_reducible refine g_drop ?_ | with_reducible refine g_not ?_ | with_reducible refine g_and ?_ | with_reducible refine g_or ?_ | with_reducible refine g_andV ?_ | with_reducible refine g_orV ?_ | with_reducible refine g_notV ?_ | with_reducible refine g_ifE ?_ | with_reducible refine g_isN ?_
  | with_reducible refine g_par ?_ | with_reducible refine g_expar ?_ | with_reducible refine g_chain ?_ | with_reducible refine g_un ?_ | with_reducible refine g_U ?_ | with_reducible refine g_bits ?_ | ((with_reducible show rEq _ _ _ _); refine g_eq rfl ?_) | ((with_reducible show rNe _ _ _ _); refine g_ne rfl ?_)
  | with_reducible refine g_for ?_ | with_reducible refine g_iRng1 ?_ | with_reducible refine g_iRng2 ?_ | with_reducible refine g_iList ?_ | with_reducible refine g_iTup ?_
  | ((with_reducible refine g_Imul ?hc ?_); (case hc => (first | (refine Or.inl ⟨?_, ?_⟩ <;> first | decide | omega) | (refine Or.inr ⟨?_, ?_⟩ <;> first | decide | omega))))
  | ((with_reducible refine g_Idiv ?hc ?_); (case hc => (first | (exact ⟨by decide, by decide⟩) | assumption)))
  | ((with_reducible refine g_Imod ?hc ?_); (case hc => (first | assumption | omega | decide)))
  | ((with_reducible refine g_exR1 ?hlo ?hhi ?_); (case hlo => omega); (case hhi => omega))
  | ((with_reducible refine g_exR2 ?hb ?_); (case hb => omega))
  | with_reducible refine g_lst ?_ | with_reducible refine g_tup ?_ | with_reducible refine g_call ?_ | with_reducible refine g_BM ?_ | with_reducible refine g_BM0 ?_
  | with_reducible refine g_intB ?_ | with_reducible refine g_lc ?_ | with_reducible refine g_yes ?_ | with_reducible refine g_iZip ?_ | with_reducible refine g_sl ?_ | with_reducible refine g_noP ?_ | with_reducible refine g_part ?_ | with_reducible refine g_gcons ?_ | with_reducible refine g_gnil ?_
  | with_reducible refine g_tfld ?_ | with_reducible refine g_tmeth ?_ | with_reducible refine g_tmake ?_ | with_reducible refine g_sfld ?_ | with_reducible refine g_tprop ?_ | with_reducible refine g_tstar ?_ | with_reducible refine g_tmethK ?_ | with_reducible refine g_isN1 ?_ | with_reducible refine g_notN1 ?_))
local macro_rules | `(tactic| walk_at "gs1") => `(tactic| (first
  | with_reducible refine g_seq ?_ | with_reducible refine g_asg ?_ | ((with_reducible show tVar _ _ _ _); refine g_var rfl ?_) | with_reducible refine g_c ?_ | with_reducible refine g_name ?_ | with_reducible refine g_op ?_ | with_reducible refine g_I0 ?_
  | with_reducible refine g_cons ?_ | with_reducible refine g_nil ?_ | with_reducible refine g_exbl ?_ | with_reducible refine g_exint ?_ | with_reducible refine g_test ?_ | with_reducible refine g_B ?_ | with_reducible refine g_ifS ?_ | with_reducible refine g_retN ?_ | with_reducible refine g_next ?_
  | with_reducible refine g_CB ?_ | with_reducible refine g_sub ?_ | with_reducible refine g_drop ?_ | with_reducible refine g_not ?_ | with_reducible refine g_and ?_ | with_reducible refine g_or ?_ | with_reducible refine g_andV ?_ | with_reducible refine g_orV ?_ | with_reducible refine g_notV ?_ | with_reducible refine g_ifE ?_ | with_reducible refine g_isN ?_
  | with_reducible refine g_par ?_ | with_reducible refine g_expar ?_ | with_reducible refine g_chain ?_ | with_reducible refine g_un ?_ | with_reducible refine g_U ?_ | with_reducible refine g_bits ?_ | ((with_reducible show rEq _ _ _ _); refine g_eq rfl ?_) | ((with_reducible show rNe _ _ _ _); refine g_ne rfl ?_)
  | with_reducible refine g_for ?_ | with_reducible refine g_iRng1 ?_ | with_reducible refine g_iRng2 ?_ | with_reducible refine g_iList ?_ | with_reducible refine g_iTup ?_
  | ((with_reducible refine g_Imul ?hc ?_); (case hc => (first | (refine Or.inl ⟨?_, ?_⟩ <;> first | decide | omega) | (refine Or.inr ⟨?_, ?_⟩ <;> first | decide | omega))))
  | ((with_reducible refine g_Idiv ?hc ?_); (case hc => (first | (exact ⟨by decide, by decide⟩) | assumption)))
  | ((with_reducible refine g_Imod ?hc ?_); (case hc => (first | assumption | omega | decide)))
  | ((with_reducible refine g_exR1 ?hlo ?hhi ?_); (case hlo => omega); (case hhi => omega))
  | ((with_reducible refine g_exR2 ?hb ?_); (case hb => omega))
  | with_reducible refine g_lst ?_ | with_reducible refine g_tup ?_ | with_reducible refine g_call ?_ | with_reducible refine g_BM ?_ | with_reducible refine g_BM0 ?_
  | with_reducible refine g_intB ?_ | with_reducible refine g_lc ?_ | with_reducible refine g_yes ?_ | with_reducible refine g_iZip ?_ | with_reducible refine g_sl ?_ | with_reducible refine g_noP ?_ | with_reducible refine g_part ?_ | with_reducible refine g_gcons ?_ | with_reducible refine g_gnil ?_
  | with_reducible refine g_tfld ?_ | with_reducible refine g_tmeth ?_ | with_reducible refine g_tmake ?_ | with_reducible refine g_sfld ?_ | with_reducible refine g_tprop ?_ | with_reducible refine g_tstar ?_ | with_reducible refine g_tmethK ?_ | with_reducible refine g_isN1 ?_ | with_reducible refine g_notN1 ?_))
local macro_rules | `(tactic| walk_at "gx1") => `(tactic| (first
  | with_reducible refine g_seq ?_ | with_reducible refine g_asg ?_ | ((with_reducible show tVar _ _ _ _); refine g_var rfl ?_) | with_reducible refine g_c ?_ | with_reducible refine g_name ?_ | with_reducible refine g_op ?_ | with_reducible refine g_I0 ?_
  | with_reducible refine g_cons ?_ | with_reducible refine g_nil ?_ | with_reducible refine g_exbl ?_ | with_reducible refine g_exint ?_ | with_reducible refine g_test ?_ | with_reducible refine g_B ?_ | with_reducible refine g_ifS ?_ | with_reducible refine g_retN ?_ | with_reducible refine g_next ?_
  | with_reducible refine g_CB ?_ | with_reducible refine g_sub ?_ | with_reducible refine g_drop ?_ | with_reducible refine g_not ?_ | with_reducible refine g_and ?_ | with_reducible refine g_or ?_ | with_reducible refine g_andV ?_ | with_reducible refine g_orV ?_ | with_reducible refine g_notV ?_ | with_reducible refine g_ret ?_ | with_reducible refine g_isN ?_
  | with_reducible refine g_par ?_ | with_reducible refine g_expar ?_ | with_reducible refine g_chain ?_ | with_reducible refine g_un ?_ | with_reducible refine g_U ?_ | with_reducible refine g_bits ?_ | ((with_reducible show rEq _ _ _ _); refine g_eq rfl ?_) | ((with_reducible show rNe _ _ _ _); refine g_ne rfl ?_)
  | with_reducible refine g_for ?_ | with_reducible refine g_iRng1 ?_ | with_reducible refine g_iRng2 ?_ | with_reducible refine g_iList ?_ | with_reducible refine g_iTup ?_
  | ((with_reducible refine g_Imul ?hc ?_); (case hc => (first | (refine Or.inl ⟨?_, ?_⟩ <;> first | decide | omega) | (refine Or.inr ⟨?_, ?_⟩ <;> first | decide | omega))))
  | ((with_reducible refine g_Idiv ?hc ?_); (case hc => (first | (exact ⟨by decide, by decide⟩) | assumption)))
  | ((with_reducible refine g_Imod ?hc ?_); (case hc => (first | assumption | omega | decide)))
  | ((with_reducible refine g_exR1 ?hlo ?hhi ?_); (case hlo => omega); (case hhi => omega))
  | ((with_reducible refine g_exR2 ?hb ?_); (case hb => omega))
  | with_reducible refine g_lst ?_ | with_reducible refine g_tup ?_ | with_reducible refine g_call ?_ | with_reducible refine g_BM ?_ | with_reducible refine g_BM0 ?_
  | with_reducible refine g_intB ?_ | with_reducible refine g_lc ?_ | with_reducible refine g_yes ?_ | with_reducible refine g_iZip ?_ | with_reducible refine g_sl ?_ | with_reducible refine g_noP ?_ | with_reducible refine g_part ?_ | with_reducible refine g_gcons ?_ | with_reducible refine g_gnil ?_
  | with_reducible refine g_tfld ?_ | with_reducible refine g_tmeth ?_ | with_reducible refine g_tmake ?_ | with_reducible refine g_sfld ?_ | with_reducible refine g_tprop ?_ | with_reducible refine g_tstar ?_ | with_reducible refine g_tmethK ?_ | with_reducible refine g_isN1 ?_ | with_reducible refine g_notN1 ?_))
local macro_rules | `(tactic| walk_at "hp") => `(tactic| (first | assumption | exact upd_same | (refine same_get (by assumption) ?_; walk_at "hp")))
local macro_rules | `(tactic| walk_at "sm") => `(tactic| (first | assumption | exact Same.refl _ | (refine Same.trans ?ha (by assumption); walk_at "sm")))
local macro_rules | `(tactic| walk_at "nn") => `(tactic| (first | assumption | (refine same_free (by assumption) ?_; walk_at "nn")))
local macro_rules | `(tactic| walk_at "sb") => `(tactic| (first | decide | (refine small_bits ?_ ?_ <;> omega)))
local macro_rules | `(tactic| walk_at "ln") => `(tactic| (simp only [List.length_cons, List.length_nil]; omega))
local macro_rules | `(tactic| walk_at "gg") => `(tactic| (repeat walk_at "g"))
local macro_rules | `(tactic| walk_at "gs") => `(tactic| (repeat walk_at "gs1"))
local macro_rules | `(tactic| walk_at "gx") => `(tactic| (repeat walk_at "gx1"))

local macro_rules | `(tactic| walk_at "g") => `(tactic| (first | with_reducible refine g_tpropF ?_ | with_reducible refine g_tmethF ?_ | with_reducible refine g_tmethKF ?_ | with_reducible refine g_ownE ?_))
section
variable {P : Program} {w : World} {K : PySem.W.Frag} {mg : Str → Option Value} {base : Heap} {X : Cx} {α : Type} [Ln α] {S : Addr → Prop}
def spCountK (α : Type) [Ln α] (K : PySem.W.Frag) (S : Addr → Prop) : Sp := fun vs H Q _ => ∃ (p : Addr) (x : V) (a : α) (as : List α), vs = [.ref p, x] ∧ LnS K S H p as ∧ Up as ∧ Dp K H x (Kd.D a) ∧ Q (.int (lessK as a : Nat)) H
def spHasK (α : Type) [Ln α] (K : PySem.W.Frag) (S : Addr → Prop) : Sp := fun vs H Q _ => ∃ (p : Addr) (x : V) (as : List α), vs = [.ref p, x] ∧ LnS K S H p as ∧ Up as ∧
  ((∃ a, Dp K H x (Kd.D a) ∧ ∀ H', Same H H' → Q (.bl (decide (a ∈ as))) H') ∨ (Ln.pv α K H x false ∧ ∀ H', Same H H' → Q (.bl false) H'))
/-- x is a point, or none of this kind -/
def spNeedK (α : Type) [Ln α] (K : PySem.W.Frag) (S : Addr → Prop) (CE : Addr) : Sp := fun vs H Q E => ∃ (p : Addr) (x : V) (as : List α), vs = [.ref p, x] ∧ LnS K S H p as ∧
  ((Ln.pv α K H x true ∧ ∀ H', Same H H' → Q .non H') ∨ (Ln.pv α K H x false ∧ ∀ H', Same H H' → E (.ref CE) none H'))
def spNearK (α : Type) [Ln α] (K : PySem.W.Frag) (S : Addr → Prop) (CE : Addr) (g : List α → α → Option α) : Sp := fun vs H Q E => ∃ (p : Addr) (x : V) (as : List α), vs = [.ref p, x] ∧ LnS K S H p as ∧ Up as ∧
  ((∃ a, Dp K H x (Kd.D a) ∧ ∀ v H', Same H H' → OptP K H' (g as a) v → Q v H') ∨ (Ln.pv α K H x false ∧ ∀ H', Same H H' → E (.ref CE) none H'))
theorem up_same_fld {H : Hp} {p : Addr} {as : List α} (h : LnS K S H p as) : ∃ C dx q, S C ∧ H p = some (.ins C dx (lf q)) ∧ PtsL K H q as := by
  obtain ⟨C, hC, dx, q, h1, h2⟩ := h
  exact ⟨C, dx, q, hC, h1, h2⟩
theorem g_ptAt {H : Hp} {Q : VK} {q : Addr} {as : List α} {i : Int} (h : PtsL K H q as) (h0 : 0 ≤ i) (h1 : i < as.length) (k : ∀ v a, as[i.toNat]? = some a → Dp K H v (Kd.D a) → Q v H) : rIxL K (.ref q) (.int i) H Q := by
  obtain ⟨xs, e, d⟩ := h
  have len := pts_len d
  have hj : i.toNat < xs.length := by omega
  have ei : ((i.toNat : Nat) : Int) = i := by omega
  have z := atI_nat (List.getElem?_eq_getElem hj)
  rw [ei] at z
  obtain ⟨a, ha, dx⟩ := pts_at d (List.getElem?_eq_getElem hj)
  exact ⟨q, xs, i, _, rfl, rfl, SqL.of e, z, k _ a ha dx⟩
theorem g_lenP {H : Hp} {Q : VK} {q : Addr} {as : List α} (h : PtsL K H q as) (k : Q (.int (as.length : Int)) H) : rLenQ K [V.ref q] H Q := by
  obtain ⟨xs, e, d⟩ := h
  refine g_len (SqL.of e) ?_
  rw [pts_len d]
  exact k
abbrev s_Line_count_less : Stmt := inClass (top 8) 8
abbrev N_Line_count_less : List Str := ["self", "point", "low", "high", "middle"]
theorem sc_Line_count_less : FnScope N_Line_count_less ["self", "point"] (defScope s_Line_count_less) := ⟨rfl, rfl, rfl, by decide +kernel, rfl, by decide +kernel, by decide +kernel⟩

theorem ok_countK {f : Addr} {fd : FuncData} (F : Fun K "count_less" "Line.count_less" s_Line_count_less f fd) (L : ∀ C, S C → LineC K C) (T : Bt mg) : FnOk P w K mg base CX0 1 f fd ["self", "point"] (spCountK α K S) := by
  refine F.ok sc_Line_count_less (fun vs H Q E h => ?_) (fun cdv A outer s H vs Q E hr h => ?_)
  · obtain ⟨p, x, a, as, rfl, _⟩ := h
    rfl
  · obtain ⟨p, x, a, as, rfl, hl, up, hx, k⟩ := h
    obtain ⟨C, dx, q, hC, hp, hq⟩ := up_same_fld hl
    have L := L C hC
    refine ⟨_, (pss_cons (ps_par (i := 2) (j := 3) (by rfl) sc_Line_count_less.nd rfl rfl (by decide) rfl rfl (pa_cons pe_int (pa_cons (pe_callB cr_lenQ (by rfl) T.n_len bt_len (pa_cons (pe_fld (pv 0) rfl) pa_nil)) pa_nil)) (by rfl))
    (pss_cons (ps_while PassesOwn.never (pt_cmpR op_lt (pv 2) (pv 3) (nomark _)) (pss_cons (ps_set (i := 4) sc_Line_count_less.nd rfl (Or.inl rfl) (pe_op op_fdiv (pe_op op_add (pv 2) (pv 3)) pe_int))
    (pss_one (ps_if (pt_cmpR (op_lt2 hr.units0) (pe_ix ix_list (pe_fld (pv 0) rfl) (pv 4) (fun _ _ => rfl)) (pv 1) (nomark _)) (pss_one (ps_set (i := 2) sc_Line_count_less.nd rfl (Or.inl rfl) (pe_op op_add (pv 4) pe_int))) (pss_one (ps_set (i := 3) sc_Line_count_less.nd rfl (Or.inl rfl) (pv 4)))))))
    (pss_one (ps_ret (pv 2))))), ?_⟩
    walk_at "gg"
    refine g_fld hp L.cl L.own (lf_own q) ?_
    walk_at "gg"
    refine g_lenP hq ?_
    walk_at "gg"
    refine g_while (fun m σ H' => ∃ (lo hi : Nat) (v : Option V), σ = [some (.ref p), some x, some (.int (lo : Nat)), some (.int (hi : Nat)), v] ∧ H' = H ∧ m = hi - lo ∧ lo ≤ lessK as a ∧ lessK as a ≤ hi ∧ hi ≤ as.length) as.length
      ⟨0, as.length, none, rfl, rfl, by omega, Nat.zero_le _, lessK_le as a, Nat.le_refl _⟩ ?_
    rintro m σ H' ⟨lo, hi, v, rfl, rfl, rfl, h1, h2, h3⟩
    walk_at "gg"
    by_cases c : lo < hi
    · refine g_iteT (by omega) ?_
      refine g_turn (fun m σ H'' => ∃ (lo hi : Nat) (v : Option V), σ = [some (.ref p), some x, some (.int (lo : Nat)), some (.int (hi : Nat)), v] ∧ H'' = H' ∧ m = hi - lo ∧ lo ≤ lessK as a ∧ lessK as a ≤ hi ∧ hi ≤ as.length) ?_
      walk_at "gg"
      refine g_I (C := CDiv) ⟨by decide, by decide⟩ ?_
      walk_at "gg"
      have e : ((lo : Int) + (hi : Int)) / 2 = (((lo + hi) / 2 : Nat) : Int) := by omega
      rw [e]
      generalize hm : (lo + hi) / 2 = mid
      have m1 : lo ≤ mid := by omega
      have m2 : mid < hi := by omega
      refine g_fld hp L.cl L.own (lf_own q) ?_
      walk_at "gg"
      refine g_ptAt hq (by omega) (by omega) fun y b at_ hy => ?_
      rw [Int.toNat_natCast] at at_
      have lg := lessK_get (x := a) up at_
      walk_at "gg"
      refine Kd.less hy hx ?_
      walk_at "gg"
      refine g_iteJB (fun σ' H'' => ∃ m', m' < hi - lo ∧ ∃ (lo hi : Nat) (v : Option V), σ' = [some (.ref p), some x, some (.int (lo : Nat)), some (.int (hi : Nat)), v] ∧ H'' = H' ∧ m' = hi - lo ∧ lo ≤ lessK as a ∧ lessK as a ≤ hi ∧ hi ≤ as.length) (fun _ _ h => h) (fun N tl d => ?_) (fun N tl d => ?_)
      · walk_at "gg"
        have := lg.mpr d
        exact tl _ _ ⟨hi - (mid + 1), by omega, mid + 1, hi, _, rfl, rfl, rfl, by omega, h2, h3⟩
      · walk_at "gg"
        have : ¬ mid < lessK as a := fun z => by
          have z := lg.mp z
          rw [d] at z
          cases z
        exact tl _ _ ⟨mid - lo, by omega, lo, mid, _, rfl, rfl, rfl, h1, by omega, by omega⟩
    · refine g_iteF (by omega) ?_
      walk_at "gg"
      have e : lessK as a = lo := by omega
      rw [e] at k
      exact k
abbrev s_Line_contains : Stmt := inClass (top 8) 11
abbrev N_Line_contains : List Str := ["self", "thing", "spot"]
theorem sc_Line_contains : FnScope N_Line_contains ["self", "thing"] (defScope s_Line_contains) := ⟨rfl, rfl, rfl, by decide +kernel, rfl, by decide +kernel, by decide +kernel⟩

theorem ok_hasK {f : Addr} {fd : FuncData} (F : Fun K "__contains__" "Line.__contains__" s_Line_contains f fd) (L : ∀ C, S C → LineC K C) (T : Bt mg) (d_is_point : MetF P w K mg base CX0 2 S "is_point" (fun _ => spPt α K))
    (d_count_less : MetF P w K mg base CX0 1 S "count_less" (fun _ => spCountK α K S)) : FnOk P w K mg base CX0 3 f fd ["self", "thing"] (spHasK α K S) := by
  refine F.ok sc_Line_contains (fun vs H Q E h => ?_) (fun cdv A outer s H vs Q E hr h => ?_)
  · obtain ⟨p, x, as, rfl, _⟩ := h
    rfl
  · obtain ⟨p, x, as, rfl, hl, up, k⟩ := h
    obtain ⟨C, dx, q, hC, hp, hq⟩ := up_same_fld hl
    have L := L C hC
    refine ⟨_, (pss_cons (ps_if (pt_not (pt_val (pe_mtF (CX := CX0) (E := fun _ _ _ _ => False) d_is_point hr (by decide) passF (pv 0) (pa_cons (pv 1) pa_nil)))) (pss_one (ps_ret pe_bl)) pss_nil)
    (pss_cons (ps_set (i := 2) sc_Line_contains.nd rfl (Or.inl rfl) (pe_mtF (CX := CX0) (E := fun _ _ _ _ => False) d_count_less hr (by decide) passF (pv 0) (pa_cons (pv 1) pa_nil)))
    (pss_one (ps_ret (pe_and (pe_cmpR op_lt (pv 2) (pe_callB cr_lenQ (by rfl) T.n_len bt_len (pa_cons (pe_fld (pv 0) rfl) pa_nil)) (nomark _)) (pe_one (pe_cmpR (op_eqD hr.units) (pe_ix ix_list (pe_fld (pv 0) rfl) (pv 2) (fun _ _ => rfl)) (pv 1) (nomark _)))))))), ?_⟩
    walk_at "gg"
    refine g_methF hp hC (lf_no q (by decide)) ?_
    walk_at "gg"
    rcases k with ⟨a, hx, k⟩ | ⟨hx, k⟩
    · refine ⟨p, x, true, rfl, Ln.pv_ok hx, fun H1 S1 => ?_⟩
      walk_at "gg"
      refine g_ifF rfl ?_
      walk_at "gg"
      refine g_methF (S1 _ _ hp) hC (lf_no q (by decide)) ?_
      walk_at "gg"
      refine ⟨p, x, a, as, rfl, hl.same S1, up, dp_same S1 _ _ hx, ?_⟩
      walk_at "gg"
      refine g_fld (S1 _ _ hp) L.cl L.own (lf_own q) ?_
      walk_at "gg"
      refine g_lenP (hq.same S1) ?_
      have lh := hereK (x := a) up
      walk_at "gg"
      by_cases c : lessK as a < as.length
      · refine g_iteT (by omega) ?_
        walk_at "gg"
        refine g_fld (S1 _ _ hp) L.cl L.own (lf_own q) ?_
        walk_at "gg"
        refine g_ptAt (hq.same S1) (by omega) (by omega) fun y b at_ hy => ?_
        rw [Int.toNat_natCast] at at_
        rw [at_] at lh
        walk_at "gg"
        refine g_eq1 hy (dp_same S1 _ _ hx) ?_
        have lh : decide (b = a) = decide (a ∈ as) := lh
        rw [lh]
        exact k _ S1
      · refine g_iteF (by omega) ?_
        rw [List.getElem?_eq_none (by omega)] at lh
        have lh : false = decide (a ∈ as) := lh
        have k := k _ S1
        rw [← lh] at k
        exact k
    · refine ⟨p, x, false, rfl, hx, fun H1 S1 => ?_⟩
      walk_at "gg"
      refine g_ifT rfl ?_
      walk_at "gg"
      exact k _ S1
end
end Gk

namespace Gk
open PySem L2 Gx
open C8 (Cal Met Mak pe_c pe_mt pe_mt0 pe_mk pe_gc)
open StX (pa_star)
local macro_rules | `(tactic| walk_at "g") => `(tactic| (first
  | with_reducible refine g_seq ?_ | with_reducible refine g_asg ?_ | ((with_reducible show tVar _ _ _ _); refine g_var rfl ?_) | with_reducible refine g_c ?_ | with_reducible refine g_name ?_ | with_reducible refine g_op ?_ | with_reducible refine g_I0 ?_
  | with_reducible refine g_cons ?_ | with_reducible refine g_nil ?_ | with_reducible refine g_exbl ?_ | with_reducible refine g_exint ?_ | with_reducible refine g_test ?_ | with_reducible refine g_B ?_ | with_reducible refine g_ifS ?_ | with_reducible refine g_ret ?_ | with_reducible refine g_retN ?_ | with_reducible refine g_next ?_
  | with_reducible refine g_CB ?_ | with_reducible refine g_sub ?_ | with_reducible refine g_drop ?_ | with_reducible refine g_not ?_ | with_reducible refine g_and ?_ | with_reducible refine g_or ?_ | with_reducible refine g_andV ?_ | with_reducible refine g_orV ?_ | with_reducible refine g_notV ?_ | with_reducible refine g_ifE ?_ | with_reducible refine g_isN ?_
  | with_reducible refine g_par ?_ | with_reducible refine g_expar ?_ | with_reducible refine g_chain ?_ | with_reducible refine g_un ?_ | with_reducible refine g_U ?_ | with_reducible refine g_bits ?_ | ((with_reducible show rEq _ _ _ _); refine g_eq rfl ?_) | ((with_reducible show rNe _ _ _ _); refine g_ne rfl ?_)
  | with_reducible refine g_for ?_ | with_reducible refine g_iRng1 ?_ | with_reducible refine g_iRng2 ?_ | with_reducible refine g_iList ?_ | with_reducible refine g_iTup ?_
  | ((with_reducible refine g_Imul ?hc ?_); (case hc => (first | (refine Or.inl ⟨?_, ?_⟩ <;> first | decide | omega) | (refine Or.inr ⟨?_, ?_⟩ <;> first | decide | omega))))
  | ((with_reducible refine g_Idiv ?hc ?_); (case hc => (first | (exact ⟨by decide, by decide⟩) | assumption)))
  | ((with_reducible refine g_Imod ?hc ?_); (case hc => (first | assumption | omega | decide)))
  | ((with_reducible refine g_exR1 ?hlo ?hhi ?_); (case hlo => omega); (case hhi => omega))
  | ((with_reducible refine g_exR2 ?hb ?_); (case hb => omega))
  | with_reducible refine g_lst ?_ | with_reducible refine g_tup ?_ | with_reducible refine g_call ?_ | with_reducible refine g_BM ?_ | with_reducible refine g_BM0 ?_
  | with_reducible refine g_intB ?_ | with_reducible refine g_lc ?_ | with_reducible refine g_yes ?_ | with_reducible refine g_iZip ?_ | with_reducible refine g_sl ?_ | with_reducible refine g_noP ?_ | with_reducible refine g_part ?_ | with_reducible refine g_gcons ?_ | with_reducible refine g_gnil ?_
  | with_reducible refine g_tfld ?_ | with_reducible refine g_tmeth ?_ | with_reducible refine g_tmake ?_ | with_reducible refine g_sfld ?_ | with_reducible refine g_tprop ?_ | with_reducible refine g_tstar ?_ | with_reducible refine g_tmethK ?_ | with_reducible refine g_isN1 ?_ | with_reducible refine g_notN1 ?_))
local macro_rules | `(tactic| walk_at "gs1") => `(tactic| (first
  | with_reducible refine g_seq ?_ | with_reducible refine g_asg ?_ | ((with_reducible show tVar _ _ _ _); refine g_var rfl ?_) | with_reducible refine g_c ?_ | with_reducible refine g_name ?_ | with_reducible refine g_op ?_ | with_reducible refine g_I0 ?_
  | with_reducible refine g_cons ?_ | with_reducible refine g_nil ?_ | with_reducible refine g_exbl ?_ | with_reducible refine g_exint ?_ | with_reducible refine g_test ?_ | with_reducible refine g_B ?_ | with_reducible refine g_ifS ?_ | with_reducible refine g_retN ?_ | with_reducible refine g_next ?_
  | with_reducible refine g_CB ?_ | with_reducible refine g_sub ?_ | with_reducible refine g_drop ?_ | with_reducible refine g_not ?_ | with_reducible refine g_and ?_ | with_reducible refine g_or ?_ | with_reducible refine g_andV ?_ | with_reducible refine g_orV ?_ | with_reducible refine g_notV ?_ | with_reducible refine g_ifE ?_ | with_reducible refine g_isN ?_
  | with_reducible refine g_par ?_ | with_reducible refine g_expar ?_ | with_reducible refine g_chain ?_ | with_reducible refine g_un ?_ | with_reducible refine g_U ?_ | with_reducible refine g_bits ?_ | ((with_reducible show rEq _ _ _ _); refine g_eq rfl ?_) | ((with_reducible show rNe _ _ _ _); refine g_ne rfl ?_)
  | with_reducible refine g_for ?_ | with_reducible refine g_iRng1 ?_ | with_reducible refine g_iRng2 ?_ | with_reducible refine g_iList ?_ | with_reducible refine g_iTup ?_
  | ((with_reducible refine g_Imul ?hc ?_); (case hc => (first | (refine Or.inl ⟨?_, ?_⟩ <;> first | decide | omega) | (refine Or.inr ⟨?_, ?_⟩ <;> first | decide | omega))))
  | ((with_reducible refine g_Idiv ?hc ?_); (case hc => (first | (exact ⟨by decide, by decide⟩) | assumption)))
  | ((with_reducible refine g_Imod ?hc ?_); (case hc => (first | assumption | omega | decide)))
  | ((with_reducible refine g_exR1 ?hlo ?hhi ?_); (case hlo => omega); (case hhi => omega))
  | ((with_reducible refine g_exR2 ?hb ?_); (case hb => omega))
  | with_reducible refine g_lst ?_ | with_reducible refine g_tup ?_ | with_reducible refine g_call ?_ | with_reducible refine g_BM ?_ | with_reducible refine g_BM0 ?_
  | with_reducible refine g_intB ?_ | with_reducible refine g_lc ?_ | with_reducible refine g_yes ?_ | with_reducible refine g_iZip ?_ | with_reducible refine g_sl ?_ | with_reducible refine g_noP ?_ | with_reducible refine g_part ?_ | with_reducible refine g_gcons ?_ | with_reducible refine g_gnil ?_
  | with_reducible refine g_tfld ?_ | with_reducible refine g_tmeth ?_ | with_reducible refine g_tmake ?_ | with_reducible refine g_sfld ?_ | with_reducible refine g_tprop ?_ | with_reducible refine g_tstar ?_ | with_reducible refine g_tmethK ?_ | with_reducible refine g_isN1 ?_ | with_reducible refine g_notN1 ?_))
local macro_rules | `(tactic| walk_at "gx1") => `(tactic| (first
  | with_reducible refine g_seq ?_ | with_reducible refine g_asg ?_ | ((with_reducible show tVar _ _ _ _); refine g_var rfl ?_) | with_reducible refine g_c ?_ | with_reducible refine g_name ?_ | with_reducible refine g_op ?_ | with_reducible refine g_I0 ?_
  | with_reducible refine g_cons ?_ | with_reducible refine g_nil ?_ | with_reducible refine g_exbl ?_ | with_reducible refine g_exint ?_ | with_reducible refine g_test ?_ | with_reducible refine g_B ?_ | with_reducible refine g_ifS ?_ | with_reducible refine g_retN ?_ | with_reducible refine g_next ?_
  | with_reducible refine g_CB ?_ | with_reducible refine g_sub ?_ | with_reducible refine g_drop ?_ | with_reducible refine g_not ?_ | with_reducible refine g_and ?_ | with_reducible refine g_or ?_ | with_reducible refine g_andV ?_ | with_reducible refine g_orV ?_ | with_reducible refine g_notV ?_ | with_reducible refine g_ret ?_ | with_reducible refine g_isN ?_
  | with_reducible refine g_par ?_ | with_reducible refine g_expar ?_ | with_reducible refine g_chain ?_ | with_reducible refine g_un ?_ | with_reducible refine g_U ?_ | with_reducible refine g_bits ?_ | ((with_reducible show rEq _ _ _ _); refine g_eq rfl ?_) | ((with_reducible show rNe _ _ _ _); refine g_ne rfl ?_)
  | with_reducible refine g_for ?_ | with_reducible refine g_iRng1 ?_ | with_reducible refine g_iRng2 ?_ | with_reducible refine g_iList ?_ | with_reducible refine g_iTup ?_
  | ((with_reducible refine g_Imul ?hc ?_); (case hc => (first | (refine Or.inl ⟨?_, ?_⟩ <;> first | decide | omega) | (refine Or.inr ⟨?_, ?_⟩ <;> first | decide | omega))))
  | ((with_reducible refine g_Idiv ?hc ?_); (case hc => (first | (exact ⟨by decide, by decide⟩) | assumption)))
  | ((with_reducible refine g_Imod ?hc ?_); (case hc => (first | assumption | omega | decide)))
  | ((with_reducible refine g_exR1 ?hlo ?hhi ?_); (case hlo => omega); (case hhi => omega))
  | ((with_reducible refine g_exR2 ?hb ?_); (case hb => omega))
  | with_reducible refine g_lst ?_ | with_reducible refine g_tup ?_ | with_reducible refine g_call ?_ | with_reducible refine g_BM ?_ | with_reducible refine g_BM0 ?_
  | with_reducible refine g_intB ?_ | with_reducible refine g_lc ?_ | with_reducible refine g_yes ?_ | with_reducible refine g_iZip ?_ | with_reducible refine g_sl ?_ | with_reducible refine g_noP ?_ | with_reducible refine g_part ?_ | with_reducible refine g_gcons ?_ | with_reducible refine g_gnil ?_
  | with_reducible refine g_tfld ?_ | with_reducible refine g_tmeth ?_ | with_reducible refine g_tmake ?_ | with_reducible refine g_sfld ?_ | with_reducible refine g_tprop ?_ | with_reducible refine g_tstar ?_ | with_reducible refine g_tmethK ?_ | with_reducible refine g_isN1 ?_ | with_reducible refine g_notN1 ?_))
local macro_rules | `(tactic| walk_at "hp") => `(tactic| (first | assumption | exact upd_same | (refine same_get (by assumption) ?_; walk_at "hp")))
local macro_rules | `(tactic| walk_at "sm") => `(tactic| (first | assumption | exact Same.refl _ | (refine Same.trans ?ha (by assumption); walk_at "sm")))
local macro_rules | `(tactic| walk_at "nn") => `(tactic| (first | assumption | (refine same_free (by assumption) ?_; walk_at "nn")))
local macro_rules | `(tactic| walk_at "sb") => `(tactic| (first | decide | (refine small_bits ?_ ?_ <;> omega)))
local macro_rules | `(tactic| walk_at "ln") => `(tactic| (simp only [List.length_cons, List.length_nil]; omega))
local macro_rules | `(tactic| walk_at "gg") => `(tactic| (repeat walk_at "g"))
local macro_rules | `(tactic| walk_at "gs") => `(tactic| (repeat walk_at "gs1"))
local macro_rules | `(tactic| walk_at "gx") => `(tactic| (repeat walk_at "gx1"))

local macro_rules | `(tactic| walk_at "g") => `(tactic| (first | with_reducible refine g_tpropF ?_ | with_reducible refine g_tmethF ?_ | with_reducible refine g_tmethKF ?_ | with_reducible refine g_ownE ?_))
section
variable {P : Program} {w : World} {K : PySem.W.Frag} {mg : Str → Option Value} {base : Heap} {X : Cx} {α : Type} [Ln α] {S : Addr → Prop}
/-- the cells that a range meets, as a new list *)-/
def CellsAt (α : Type) [Ln α] (K : PySem.W.Frag) (H : Hp) (l : Addr) (as : List α) (lo hi : Int) : Prop := ∃ acc, H l = some (.lst acc) ∧ DpAll K H acc (cellsK as lo hi) ∧ acc.length ≤ 2 * (as.length + 1)
def spCellsK (α : Type) [Ln α] (K : PySem.W.Frag) (S : Addr → Prop) (CR : Addr) : Sp := fun vs H Q E => ∃ (p : Addr) (as : List α) (lo hi : Int), vs = [.ref p, .int lo, .int hi] ∧ LnS K S H p as ∧ as.length ≤ 10000 ∧
  ((lo ≤ hi ∧ ∀ l H', H l = none → Same H H' → CellsAt α K H' l as lo hi → Q (.ref l) H') ∨ (hi < lo ∧ ∀ H', Same H H' → E (.ref CR) none H'))
end
end Gk

set_option maxHeartbeats 400000
namespace Gk
open PySem L2 Gx
open C8 (Cal Met Mak pe_c pe_mt pe_mt0 pe_mk pe_gc)
open StX (pa_star)
local macro_rules | `(tactic| walk_at "g") => `(tactic| (first
  | with_reducible refine g_seq ?_ | with_reducible refine g_asg ?_ | ((with_reducible show tVar _ _ _ _); refine g_var rfl ?_) | with_reducible refine g_c ?_ | with_reducible refine g_name ?_ | with_reducible refine g_op ?_ | with_reducible refine g_I0 ?_
  | with_reducible refine g_cons ?_ | with_reducible refine g_nil ?_ | with_reducible refine g_exbl ?_ | with_reducible refine g_exint ?_ | with_reducible refine g_test ?_ | with_reducible refine g_B ?_ | with_reducible refine g_ifS ?_ | with_reducible refine g_ret ?_ | with_reducible refine g_retN ?_ | with_reducible refine g_next ?_
  | with_reducible refine g_CB ?_ | with_reducible refine g_sub ?_ | with_reducible refine g_drop ?_ | with_reducible refine g_not ?_ | with_reducible refine g_and ?_ | with_reducible refine g_or ?_ | with_reducible refine g_andV ?_ | with_reducible refine g_orV ?_ | with_reducible refine g_notV ?_ | with_reducible refine g_ifE ?_ | with_reducible refine g_isN ?_
  | with_reducible refine g_par ?_ | with_reducible refine g_expar ?_ | with_reducible refine g_chain ?_ | with_reducible refine g_un ?_ | with_reducible refine g_U ?_ | with_reducible refine g_bits ?_ | ((with_reducible show rEq _ _ _ _); refine g_eq rfl ?_) | ((with_reducible show rNe _ _ _ _); refine g_ne rfl ?_)
  | with_reducible refine g_for ?_ | with_reducible refine g_iRng1 ?_ | with_reducible refine g_iRng2 ?_ | with_reducible refine g_iList ?_ | with_reducible refine g_iTup ?_
  | ((with_reducible refine g_Imul ?hc ?_); (case hc => (first | (refine Or.inl ⟨?_, ?_⟩ <;> first | decide | omega) | (refine Or.inr ⟨?_, ?_⟩ <;> first | decide | omega))))
  | ((with_reducible refine g_Idiv ?hc ?_); (case hc => (first | (exact ⟨by decide, by decide⟩) | assumption)))
  | ((with_reducible refine g_Imod ?hc ?_); (case hc => (first | assumption | omega | decide)))
  | ((with_reducible refine g_exR1 ?hlo ?hhi ?_); (case hlo => omega); (case hhi => omega))
  | ((with_reducible refine g_exR2 ?hb ?_); (case hb => omega))
  | with_reducible refine g_lst ?_ | with_reducible refine g_tup ?_ | with_reducible refine g_call ?_ | with_reducible refine g_BM ?_ | with_reducible refine g_BM0 ?_
  | with_reducible refine g_intB ?_ | with_reducible refine g_lc ?_ | with_reducible refine g_yes ?_ | with_reducible refine g_iZip ?_ | with_reducible refine g_sl ?_ | with_reducible refine g_noP ?_ | with_reducible refine g_part ?_ | with_reducible refine g_gcons ?_ | with_reducible refine g_gnil ?_
  | with_reducible refine g_tfld ?_ | with_reducible refine g_tmeth ?_ | with_reducible refine g_tmake ?_ | with_reducible refine g_sfld ?_ | with_reducible refine g_tprop ?_ | with_reducible refine g_tstar ?_ | with_reducible refine g_tmethK ?_ | with_reducible refine g_isN1 ?_ | with_reducible refine g_notN1 ?_))
local macro_rules | `(tactic| walk_at "gs1") => `(tactic| (first
  | with_reducible refine g_seq ?_ | with_reducible refine g_asg ?_ | ((with_reducible show tVar _ _ _ _); refine g_var rfl ?_) | with_reducible refine g_c ?_ | with_reducible refine g_name ?_ | with_reducible refine g_op ?_ | with_reducible refine g_I0 ?_
  | with_reducible refine g_cons ?_ | with_reducible refine g_nil ?_ | with_reducible refine g_exbl ?_ | with_reducible refine g_exint ?_ | with_reducible refine g_test ?_ | with_reducible refine g_B ?_ | with_reducible refine g_ifS ?_ | with_reducible refine g_retN ?_ | with_reducible refine g_next ?_
  | with_reducible refine g_CB ?_ | with_reducible refine g_sub ?_ | with_reducible refine g_drop ?_ | with_reducible refine g_not ?_ | with_reducible refine g_and ?_ | with_reducible refine g_or ?_ | with_reducible refine g_andV ?_ | with_reducible refine g_orV ?_ | with_reducible refine g_notV ?_ | with_reducible refine g_ifE ?_ | with_reducible refine g_isN ?_
  | with_reducible refine g_par ?_ | with_reducible refine g_expar ?_ | with_reducible refine g_chain ?_ | with_reducible refine g_un ?_ | with_reducible refine g_U ?_ | with_reducible refine g_bits ?_ | ((with_reducible show rEq _ _ _ _); refine g_eq rfl ?_) | ((with_reducible show rNe _ _ _ _); refine g_ne rfl ?_)
  | with_reducible refine g_for ?_ | with_reducible refine g_iRng1 ?_ | with_reducible refine g_iRng2 ?_ | with_reducible refine g_iList ?_ | with_reducible refine g_iTup ?_
  | ((with_reducible refine g_Imul ?hc ?_); (case hc => (first | (refine Or.inl ⟨?_, ?_⟩ <;> first | decide | omega) | (refine Or.inr ⟨?_, ?_⟩ <;> first | decide | omega))))
  | ((with_reducible refine g_Idiv ?hc ?_); (case hc => (first | (exact ⟨by decide, by decide⟩) | assumption)))
  | ((with_reducible refine g_Imod ?hc ?_); (case hc => (first | assumption | omega | decide)))
  | ((with_reducible refine g_exR1 ?hlo ?hhi ?_); (case hlo => omega); (case hhi => omega))
  | ((with_reducible refine g_exR2 ?hb ?_); (case hb => omega))
  | with_reducible refine g_lst ?_ | with_reducible refine g_tup ?_ | with_reducible refine g_call ?_ | with_reducible refine g_BM ?_ | with_reducible refine g_BM0 ?_
  | with_reducible refine g_intB ?_ | with_reducible refine g_lc ?_ | with_reducible refine g_yes ?_ | with_reducible refine g_iZip ?_ | with_reducible refine g_sl ?_ | with_reducible refine g_noP ?_ | with_reducible refine g_part ?_ | with_reducible refine g_gcons ?_ | with_reducible refine g_gnil ?_
  | with_reducible refine g_tfld ?_ | with_reducible refine g_tmeth ?_ | with_reducible refine g_tmake ?_ | with_reducible refine g_sfld ?_ | with_reducible refine g_tprop ?_ | with_reducible refine g_tstar ?_ | with_reducible refine g_tmethK ?_ | with_reducible refine g_isN1 ?_ | with_reducible refine g_notN1 ?_))
local macro_rules | `(tactic| walk_at "gx1") => `(tactic| (first
  | with_reducible refine g_seq ?_ | with_reducible refine g_asg ?_ | ((with_reducible show tVar _ _ _ _); refine g_var rfl ?_) | with_reducible refine g_c ?_ | with_reducible refine g_name ?_ | with_reducible refine g_op ?_ | with_reducible refine g_I0 ?_
  | with_reducible refine g_cons ?_ | with_reducible refine g_nil ?_ | with_reducible refine g_exbl ?_ | with_reducible refine g_exint ?_ | with_reducible refine g_test ?_ | with_reducible refine g_B ?_ | with_reducible refine g_ifS ?_ | with_reducible refine g_retN ?_ | with_reducible refine g_next ?_
  | with_reducible refine g_CB ?_ | with_reducible refine g_sub ?_ | with_reducible refine g_drop ?_ | with_reducible refine g_not ?_ | with_reducible refine g_and ?_ | with_reducible refine g_or ?_ | with_reducible refine g_andV ?_ | with_reducible refine g_orV ?_ | with_reducible refine g_notV ?_ | with_reducible refine g_ret ?_ | with_reducible refine g_isN ?_
  | with_reducible refine g_par ?_ | with_reducible refine g_expar ?_ | with_reducible refine g_chain ?_ | with_reducible refine g_un ?_ | with_reducible refine g_U ?_ | with_reducible refine g_bits ?_ | ((with_reducible show rEq _ _ _ _); refine g_eq rfl ?_) | ((with_reducible show rNe _ _ _ _); refine g_ne rfl ?_)
  | with_reducible refine g_for ?_ | with_reducible refine g_iRng1 ?_ | with_reducible refine g_iRng2 ?_ | with_reducible refine g_iList ?_ | with_reducible refine g_iTup ?_
  | ((with_reducible refine g_Imul ?hc ?_); (case hc => (first | (refine Or.inl ⟨?_, ?_⟩ <;> first | decide | omega) | (refine Or.inr ⟨?_, ?_⟩ <;> first | decide | omega))))
  | ((with_reducible refine g_Idiv ?hc ?_); (case hc => (first | (exact ⟨by decide, by decide⟩) | assumption)))
  | ((with_reducible refine g_Imod ?hc ?_); (case hc => (first | assumption | omega | decide)))
  | ((with_reducible refine g_exR1 ?hlo ?hhi ?_); (case hlo => omega); (case hhi => omega))
  | ((with_reducible refine g_exR2 ?hb ?_); (case hb => omega))
  | with_reducible refine g_lst ?_ | with_reducible refine g_tup ?_ | with_reducible refine g_call ?_ | with_reducible refine g_BM ?_ | with_reducible refine g_BM0 ?_
  | with_reducible refine g_intB ?_ | with_reducible refine g_lc ?_ | with_reducible refine g_yes ?_ | with_reducible refine g_iZip ?_ | with_reducible refine g_sl ?_ | with_reducible refine g_noP ?_ | with_reducible refine g_part ?_ | with_reducible refine g_gcons ?_ | with_reducible refine g_gnil ?_
  | with_reducible refine g_tfld ?_ | with_reducible refine g_tmeth ?_ | with_reducible refine g_tmake ?_ | with_reducible refine g_sfld ?_ | with_reducible refine g_tprop ?_ | with_reducible refine g_tstar ?_ | with_reducible refine g_tmethK ?_ | with_reducible refine g_isN1 ?_ | with_reducible refine g_notN1 ?_))
local macro_rules | `(tactic| walk_at "hp") => `(tactic| (first | assumption | exact upd_same | (refine same_get (by assumption) ?_; walk_at "hp")))
local macro_rules | `(tactic| walk_at "sm") => `(tactic| (first | assumption | exact Same.refl _ | (refine Same.trans ?ha (by assumption); walk_at "sm")))
local macro_rules | `(tactic| walk_at "nn") => `(tactic| (first | assumption | (refine same_free (by assumption) ?_; walk_at "nn")))
local macro_rules | `(tactic| walk_at "sb") => `(tactic| (first | decide | (refine small_bits ?_ ?_ <;> omega)))
local macro_rules | `(tactic| walk_at "ln") => `(tactic| (simp only [List.length_cons, List.length_nil]; omega))
local macro_rules | `(tactic| walk_at "gg") => `(tactic| (repeat walk_at "g"))
local macro_rules | `(tactic| walk_at "gs") => `(tactic| (repeat walk_at "gs1"))
local macro_rules | `(tactic| walk_at "gx") => `(tactic| (repeat walk_at "gx1"))

local macro_rules | `(tactic| walk_at "g") => `(tactic| (first | with_reducible refine g_tpropF ?_ | with_reducible refine g_tmethF ?_ | with_reducible refine g_tmethKF ?_ | with_reducible refine g_ownE ?_))
section
variable {P : Program} {w : World} {K : PySem.W.Frag} {mg : Str → Option Value} {base : Heap} {X : Cx} {α : Type} [Ln α] {S : Addr → Prop}
def spPtsK (α : Type) [Ln α] (K : PySem.W.Frag) (S : Addr → Prop) : Sp := fun vs H Q _ => ∃ (p : Addr) (as : List α), vs = [.ref p] ∧ LnS K S H p as ∧ ∀ l H', H l = none → Same H H' → PtsL K H' l as → Q (.ref l) H'
/-- found rows, handed on -/
def FoundAt (α : Type) [Ln α] (K : PySem.W.Frag) (CF : Addr) (H : Hp) (a : Addr) (as : List α) : Prop := ∃ dx l, H a = some (.ins CF dx [("found_points", .ref l)]) ∧ PtsL K H l as
def spFoundK (CF : Addr) : Sp := fun vs H Q _ => ∃ (p dx l : Addr), vs = [.ref p, .ref l] ∧ H p = some (.ins CF dx []) ∧ ∀ H', H' p = some (.ins CF dx [("found_points", .ref l)]) → But p H H' → Q .non H'
/-- a line is made: of an ascending list, or of found rows -/
def spInitK (α : Type) [Ln α] (K : PySem.W.Frag) (C CF : Addr) : Sp := fun vs H Q _ => ∃ (p a dx : Addr) (as : List α), vs = [.ref p, .ref a] ∧ H p = some (.ins C dx []) ∧ ((PtsL K H a as ∧ as.length ≤ 500 ∧ Up as) ∨ FoundAt α K CF H a as) ∧
  ∀ H', LnAt K C H' p as → But p H H' → Q .non H'
/-- what asks of the class of found rows -/
structure FoundC (K : PySem.W.Frag) (mg : Str → Option Value) (CF : Addr) : Prop where
  cl : Cls K CF
  own : NoAttr K CF "found_points"
  ty : ∀ {H : Hp} {a dx : Addr} {fs : List (Str × V)}, H a = some (.ins CF dx fs) → TyX K H (.ref a) (.ref CF)
  noL : PySem.W.kitOne K (.type "list") (.ref CF) = some false
abbrev s_Line_points : Stmt := inClass (top 8) 2
abbrev N_Line_points : List Str := ["self"]
theorem sc_Line_points : FnScope N_Line_points ["self"] (defScope s_Line_points) := ⟨rfl, rfl, rfl, by decide +kernel, rfl, by decide +kernel, by decide +kernel⟩

theorem ok_ptsK {f : Addr} {fd : FuncData} (F : Fun K "points" "Line.points" s_Line_points f fd) (L : ∀ C, S C → LineC K C) (T : Bt mg) : FnOk P w K mg base L2.CX0 1 f fd ["self"] (spPtsK α K S) := by
  refine F.ok sc_Line_points (fun vs H Q E h => ?_) (fun cdv A outer s H vs Q E hr h => ?_)
  · obtain ⟨p, as, rfl, _⟩ := h
    rfl
  · obtain ⟨p, as, rfl, hl, k⟩ := h
    obtain ⟨C, dx, q, xs, hC, hp, hq, hd⟩ := hl.open
    have L := L C hC
    refine ⟨_, (pss_one (ps_ret (pe_callTy cr_listQ (by rfl) T.n_list bt_list (pa_cons (pe_fld (pv 0) rfl) pa_nil)))), ?_⟩
    walk_at "gg"
    refine g_fld hp L.cl L.own (lf_own q) ?_
    walk_at "gg"
    refine g_listof (SqL.of hq) fun l H' n S e => ?_
    exact k l H' n S ⟨xs, e, dp_sameAll S _ _ hd⟩
abbrev s_Found_init : Stmt := inClass (top 7) 0
abbrev N_Found_init : List Str := ["self", "rows"]
theorem sc_Found_init : FnScope N_Found_init ["self", "rows"] (defScope s_Found_init) := ⟨rfl, rfl, rfl, by decide +kernel, rfl, by decide +kernel, by decide +kernel⟩

theorem ok_foundK {f CF : Addr} {fd : FuncData} (F : Fun K "__init__" "Found.__init__" s_Found_init f fd) (L : FoundC K mg CF) : FnOk P w K mg base L2.CX0 1 f fd ["self", "rows"] (spFoundK CF) := by
  refine F.ok sc_Found_init (fun vs H Q E h => ?_) (fun cdv A outer s H vs Q E hr h => ?_)
  · obtain ⟨p, dx, l, rfl, _⟩ := h
    rfl
  · obtain ⟨p, dx, l, rfl, hp, k⟩ := h
    refine ⟨_, (pss_one (ps_fld (pv 0) (pv 1) rfl)), ?_⟩
    walk_at "gg"
    refine g_store hp L.cl L.own (by decide) ?_
    exact k _ upd_same fun b u nb e => by rw [upd_ne nb]; exact e
abbrev s_Line_init : Stmt := inClass (top 8) 1
abbrev N_Line_init : List Str := ["self", "points", "one", "other"]
theorem sc_Line_init : FnScope N_Line_init ["self", "points"] (defScope s_Line_init) := ⟨rfl, rfl, rfl, by decide +kernel, rfl, by decide +kernel, by decide +kernel⟩

theorem ok_initK {f C CF : Addr} {fd : FuncData} (F : Fun K "__init__" "Line.__init__" s_Line_init f fd) (L : LineC K C) (LF : FoundC K mg CF) (T : Bt mg) (hS : S C) (d_is_point : MetF P w K mg base CX0 2 S "is_point" (fun _ => spPt α K))
    (g_Found : ∃ u, mg "Found" = some u ∧ RelV (.ref CF) u) (g_MOST_POINTS : ∃ u, mg "MOST_POINTS" = some u ∧ RelV (.int 500) u) : FnOk P w K mg base L2.CX0 3 f fd ["self", "points"] (spInitK α K C CF) := by
  refine F.ok sc_Line_init (fun vs H Q E h => ?_) (fun cdv A outer s H vs Q E hr h => ?_)
  · obtain ⟨p, a, dx, as, rfl, _⟩ := h
    rfl
  · obtain ⟨p, a, dx, as, rfl, hp, ha, k⟩ := h
    refine ⟨_, (pss_one (ps_if (pt_val (pe_callB call_isi (by rfl) T.n_isinstance bt_isinstance (pa_cons (pv 1) (pa_cons (pe_gc (by rfl) g_Found) pa_nil)))) (pss_one (ps_fld (pv 0) (pe_fld (pv 1) rfl) rfl)) (pss_cons (ps_if (PW.pt (pw_or (pt_not (pt_val (pe_callB call_isi (by rfl) T.n_isinstance bt_isinstance (pa_cons (pv 1) (pa_cons (pe_bltn (v := .ty "list") (by rfl) T.n_list bt_list rfl) pa_nil))))) (pw_or1 (pt_cmpR op_gt (pe_callB cr_lenQ (by rfl) T.n_len bt_len (pa_cons (pv 1) pa_nil)) (pe_gc (by rfl) g_MOST_POINTS) (nomark _))))) (pss_one ps_never) pss_nil)
    (pss_cons (ps_if (pt_not (pt_val (pe_callB (cr_all rfl) (by rfl) T.n_all bt_all (pa_cons (pe_lc (own := [("one", 2)]) (g := gName 2) (tt := tYes) rfl sc_Line_init.nd (pi_list (pv 1)) (blkOk_by (own := [("one", 2)]) (N := N_Line_init) (sc := defScope s_Line_init) (by decide +kernel)) (fun _ _ _ _ _ => pg_name (i := 2) sc_Line_init.nd rfl (Or.inl rfl)) (fun _ _ _ _ _ => pts_nil) (fun _ _ _ _ _ => (pe_mtF (CX := CX0) (E := fun _ _ _ _ => False) d_is_point hr (by decide) passF (pv 0) (pa_cons (pv 2) pa_nil)))) pa_nil)))) (pss_one ps_never) pss_nil)
    (pss_cons (ps_if (pt_not (pt_val (pe_callB (cr_all rfl) (by rfl) T.n_all bt_all (pa_cons (pe_lc (own := [("one", 2), ("other", 3)]) (g := gTup K 2 (gCons (gName 2) (gCons (gName 3) gNil))) (tt := tYes) rfl sc_Line_init.nd (pi_zip (by rfl) T.n_zip (pa_cons (pv 1) (pa_cons (pe_slice sl_list (pv 1) (po_some pe_int) po_none) pa_nil))) (blkOk_by (own := [("one", 2), ("other", 3)]) (N := N_Line_init) (sc := defScope s_Line_init) (by decide +kernel)) (fun _ _ _ _ _ => (pg_tup (by rfl) (pgs_cons (pg_name (i := 2) sc_Line_init.nd rfl (Or.inl rfl)) (pgs_cons (pg_name (i := 3) sc_Line_init.nd rfl (Or.inl rfl)) pgs_nil)))) (fun _ _ _ _ _ => pts_nil) (fun _ _ _ _ _ => (pe_cmpR (show OpR _ (compareOp .Lt) (rLt2 K) from op_lt2 hr.units0) (pv 2) (pv 3) (nomark _)))) pa_nil)))) (pss_one ps_never) pss_nil)
    (pss_one (ps_fld (pv 0) (pe_callTy cr_listQ (by rfl) T.n_list bt_list (pa_cons (pv 1) pa_nil)) rfl))))))), ?_⟩
    walk_at "gg"
    rcases ha with ⟨⟨xs, ha, hd⟩, few, up⟩ | ⟨dxf, l, ha, hl⟩
    rotate_left
    · refine g_isi (.own CF) (LF.ty ha) (b := true) (by unfold PySem.W.kitOne; rw [if_pos (beq_self_eq_true _)]) ?_
      walk_at "gg"
      refine g_ifT rfl ?_
      walk_at "gg"
      refine g_fld ha LF.cl LF.own rfl ?_
      walk_at "gg"
      refine g_store hp L.cl L.own (by decide) ?_
      obtain ⟨ys, hy, hdy⟩ := hl
      have npl : l ≠ p := ne_of hy hp (by intro z; cases z)
      have B : But p H (upd H p (.ins C dx (putF "own_points" (V.ref l) []))) := fun b u nb e => by rw [upd_ne nb]; exact e
      exact k _ ⟨dx, l, upd_same, ys, by rw [upd_ne npl]; exact hy, dp_oddAll hp odd_ins B _ _ hdy⟩ B
    have ln := pts_len hd
    refine g_isi (.own CF) (.base (.lst ha)) LF.noL ?_
    walk_at "gg"
    refine g_ifF rfl ?_
    walk_at "gg"
    refine g_isi (.ty "list") (.base (.lst ha)) (b := true) (kit_ty (by decide +kernel)) ?_
    walk_at "gg"
    refine g_ifF rfl ?_
    walk_at "gg"
    refine g_len (SqL.of ha) ?_
    rw [ln]
    walk_at "gg"
    refine g_ifF (decide_eq_false (by omega)) ?_
    walk_at "gg"
    refine g_exL (SqL.of ha) ?_
    refine lc_map (src_list (SqL.of ha)) (by omega) (fun _ y => y = V.bl true) (fun i x H' Nx hi S it kx => ?_) fun D1 acc H1 n1 S1 e1 hl1 hacc => ?_
    · obtain ⟨b, hb, hx⟩ := pts_at (dp_sameAll S _ _ hd) it
      walk_at "gg"
      refine ⟨rfl, ?_⟩
      walk_at "gg"
      refine g_methF (S _ _ hp) hS rfl ?_
      walk_at "gg"
      exact ⟨p, _, true, rfl, Ln.pv_ok hx, fun H4 S4 => kx _ _ S4 rfl⟩
    rw [trues hacc] at e1
    walk_at "gg"
    refine g_all (SqL.of e1) ?_
    rw [all_trues]
    walk_at "gg"
    refine g_ifF rfl ?_
    walk_at "gg"
    refine g_slL (SqL.of (S1 _ _ ha)) fun q2 H2 n2 S2 e2 => ?_
    rw [cut_one] at e2
    have S02 := S1.trans S2
    walk_at "gg"
    refine g_exZ (SqL.of (S02 _ _ ha)) (SqL.of e2) ?_
    refine lc_map (src_zip (SqL.of (S02 _ _ ha)) (SqL.of e2)) (by omega) (fun _ y => y = V.bl true) (fun i x H' Nx hi S it kx => ?_) fun D3 acc3 H3 n3 S3 e3 hl3 hacc3 => ?_
    · obtain ⟨T, v1, v2, rfl, hT, x1, x2⟩ := it
      have hd' := dp_sameAll (S02.trans S) _ _ hd
      obtain ⟨m1, hm1, z1⟩ := pts_at hd' x1
      have hdd := dpAll_drop hd' 1
      rw [← List.map_drop] at hdd
      obtain ⟨m2, hm2, z2⟩ := pts_at hdd x2
      refine g_gtup (SqT.of hT) rfl ?_
      walk_at "gg"
      refine ⟨rfl, ?_⟩
      walk_at "gg"
      refine Kd.less z1 z2 ?_
      exact kx _ _ (Same.refl _) (congrArg V.bl (up_zip up hm1 hm2))
    rw [trues hacc3] at e3
    walk_at "gg"
    refine g_all (SqL.of e3) ?_
    rw [all_trues]
    walk_at "gg"
    refine g_ifF rfl ?_
    have S03 := S02.trans S3
    walk_at "gg"
    refine g_listof (SqL.of (S03 _ _ ha)) fun l H4 n4 S4 e4 => ?_
    have S04 := S03.trans S4
    have hp4 := S04 _ _ hp
    walk_at "gg"
    refine g_store hp4 L.cl L.own (by decide) ?_
    have npl : l ≠ p := ne_of e4 hp4 (by intro z; cases z)
    exact k _ ⟨dx, l, upd_same, xs, by rw [upd_ne npl]; exact e4, dp_oddAll hp4 odd_ins (but_same (Same.refl _)) _ _ (dp_sameAll S04 _ _ hd)⟩ (but_same S04)
end
end Gk

set_option maxHeartbeats 1000000
/-! Cells: all of a line, those that meet a range; lists of data filtered -/
namespace Gx
open PySem L2 PySem.Spec PyProof.Rows
inductive Cell (α : Type) where
  | gap (l r : Option α)
  | pt (a : α)
section
variable {α : Type} [Ln α] {K : PySem.W.Frag} {H H1 : Hp} {Q : VK} {σ : L2.St} {te : TE} {tt : TT} {g : TG} {vs : List Nat}
open Kd
def cellD : Cell α → PyData
  | .gap l r => gapK l r
  | .pt a => pointK a
def meetC (lo hi : Int) : Cell α → Bool
  | .gap l r => Ln.gap l r lo hi
  | .pt a => inK a lo hi
def cellsFrom : Option α → List α → List (Cell α)
  | l, [] => [.gap l none]
  | l, a :: as => .gap l (some a) :: .pt a :: cellsFrom (some a) as
/-- all cells of a line -/
def allC (as : List α) : List (Cell α) := cellsFrom none as
theorem stepK_cells (lo hi : Int) (l : Option α) (a : α) : stepK lo hi l (some a) = (([.gap l (some a), .pt a] : List (Cell α)).filter (meetC lo hi)).map cellD := by
  unfold stepK ptStepK
  by_cases h1 : Ln.gap l (some a) lo hi = true <;> by_cases h2 : inK a lo hi = true <;> simp [List.filter, meetC, h1, h2, cellD]
theorem cells_filter (as : List α) (lo hi : Int) : cellsK as lo hi = ((allC as).filter (meetC lo hi)).map cellD := by
  have key : ∀ (as : List α) (l : Option α) (acc : List PyData), ((rightsK as).foldl (foldK lo hi) (l, acc)).2 = acc ++ ((cellsFrom l as).filter (meetC lo hi)).map cellD := by
    intro as
    induction as with
    | nil =>
      intro l acc
      show acc ++ stepK lo hi l none = _
      unfold stepK ptStepK cellsFrom
      by_cases h1 : Ln.gap l none lo hi = true <;> simp [List.filter, meetC, h1, cellD]
    | cons a as ih =>
      intro l acc
      have e : rightsK (a :: as) = some a :: rightsK as := rfl
      rw [e, List.foldl_cons]
      show ((rightsK as).foldl (foldK lo hi) (some a, acc ++ stepK lo hi l (some a))).2 = _
      rw [ih, stepK_cells, List.append_assoc, ← List.map_append, ← List.filter_append]
      rfl
  have z := key as none []
  rw [List.nil_append] at z
  exact z
theorem nol_cellD (c : Cell α) : noLst (cellD c) = true := by
  cases c with
  | gap l r => exact nol_gapK l r
  | pt a => exact nol_pointK a
theorem allC_len (as : List α) : (allC as).length = 2 * as.length + 1 := by
  have key : ∀ (as : List α) (l : Option α), (cellsFrom l as).length = 2 * as.length + 1 := by
    intro as
    induction as with
    | nil => intro l; rfl
    | cons a as ih =>
      intro l
      show (cellsFrom (some a) as).length + 1 + 1 = _
      rw [ih, List.length_cons]
      omega
  exact key as none
/-- which cells there are -/
def CellOf (as : List α) : Cell α → Prop
  | .gap l r => (∀ a, l = some a → a ∈ as) ∧ ∀ a, r = some a → a ∈ as
  | .pt a => a ∈ as
theorem allC_of (as : List α) : ∀ c ∈ allC as, CellOf as c := by
  have key : ∀ (bs : List α) (l : Option α), (∀ a ∈ bs, a ∈ as) → (∀ a, l = some a → a ∈ as) → ∀ c ∈ cellsFrom l bs, CellOf as c := by
    intro bs
    induction bs with
    | nil =>
      intro l _ hl c hc
      rw [List.mem_singleton.mp hc]
      exact ⟨hl, fun a h => by cases h⟩
    | cons b bs ih =>
      intro l hb hl c hc
      have mb := hb b List.mem_cons_self
      rcases List.mem_cons.mp hc with z | hc
      · rw [z]
        exact ⟨hl, fun a h => by cases h; exact mb⟩
      rcases List.mem_cons.mp hc with z | hc
      · rw [z]
        exact mb
      · exact ih (some b) (fun a h => hb a (List.mem_cons_of_mem _ h)) (fun a h => by cases h; exact mb) c hc
  exact key as none (fun _ h => h) (fun a h => by cases h)
/-- the ends of a gap ascend -/
def CellUp : Cell α → Prop
  | .gap (some a) (some b) => lt a b = true
  | _ => True
theorem allC_up {as : List α} (up : Up as) : ∀ c ∈ allC as, CellUp c := by
  have key : ∀ (bs : List α) (l : Option α), Up bs → (∀ a, l = some a → ∀ b ∈ bs, lt a b = true) → ∀ c ∈ cellsFrom l bs, CellUp c := by
    intro bs
    induction bs with
    | nil =>
      intro l _ _ c hc
      rw [List.mem_singleton.mp hc]
      cases l <;> trivial
    | cons b bs ih =>
      intro l hb hl c hc
      obtain ⟨h1, h2⟩ := List.pairwise_cons.mp hb
      rcases List.mem_cons.mp hc with z | hc
      · rw [z]
        cases l with
        | none => trivial
        | some a => exact hl a rfl b List.mem_cons_self
      rcases List.mem_cons.mp hc with z | hc
      · rw [z]
        trivial
      · exact ih (some b) h2 (fun a h x hx => by cases h; exact h1 x hx) c hc
  exact key as none up (fun a h => by cases h)
theorem cell_gap {x : V} {l r : Option α} (h : Dp K H x (cellD (.gap l r))) : ∃ t v1 v2, x = .ref t ∧ SqT K H t [.str "gap", v1, v2] ∧ Dp K H v1 (oK l) ∧ Dp K H v2 (oK r) := by
  unfold cellD gapK at h
  cases h with
  | tup e d =>
    cases d with
    | cons d0 d =>
      cases d0
      cases d with
      | cons d1 d =>
        cases d with
        | cons d2 d =>
          cases d
          exact ⟨_, _, _, rfl, e, d1, d2⟩
theorem cell_pt {x : V} {a : α} (h : Dp K H x (cellD (.pt a))) : ∃ t v, x = .ref t ∧ SqT K H t [.str "point", v] ∧ Dp K H v (D a) := by
  unfold cellD pointK at h
  cases h with
  | tup e d =>
    cases d with
    | cons d0 d =>
      cases d0
      cases d with
      | cons d1 d =>
        cases d
        exact ⟨_, _, rfl, e, d1⟩
end
section
variable {β : Type} {K : PySem.W.Frag} {H H1 : Hp} {Q : VK} {σ : L2.St} {te : TE} {tt : TT} {g : TG} {vs : List Nat}
theorem datas_at {Dd : β → PyData} {bs : List β} {xs : List V} {i : Nat} {x : V} (d : DpAll K H xs (bs.map Dd)) (h : xs[i]? = some x) : ∃ b, bs[i]? = some b ∧ Dp K H x (Dd b) := by
  obtain ⟨d', h1, h2⟩ := dpAll_get d h
  rw [List.getElem?_map] at h1
  cases e : bs[i]? with
  | none => rw [e] at h1; cases h1
  | some b =>
    rw [e] at h1
    have z : Dd b = d' := Option.some.inj h1
    rw [← z] at h2
    exact ⟨b, rfl, h2⟩
theorem nol_all {Dd : β → PyData} (nol : ∀ b, noLst (Dd b) = true) (bs : List β) : noLstAll (bs.map Dd) = true := noLstAll_iff.mpr fun d hd => by
  obtain ⟨b, _, rfl⟩ := List.mem_map.mp hd
  exact nol b
/-- things of a list, those that pass a test -/
theorem lc_filtD (Dd : β → PyData) (nol : ∀ b, noLst (Dd b) = true) {a : Addr} {xs : List V} {bs : List β} (h : SqL K H1 a xs) (d : DpAll K H1 xs (bs.map Dd)) (hn : xs.length ≤ 100000) (c : β → Bool)
    (turn : ∀ (x : V) (b : β) H' (Nx : V → Hp → Prop) (No : Hp → Prop), b ∈ bs → Dp K H' x (Dd b) → Same H1 H' → (∀ H4, Same H' H4 → c b = true → Nx x H4) → (∀ H4, Same H' H4 → c b = false → No H4) →
      g x (wipe σ vs) H' fun σ2 H2 => wipe σ2 vs = wipe σ vs ∧ tt σ2 H2 fun b H3 => if b = true then te σ2 H3 Nx else No H3)
    (done : ∀ p acc H', H1 p = none → Same H1 H' → H' p = some (.lst acc) → DpAll K H' acc ((bs.filter c).map Dd) → Q (.ref p) H') : LC g tt te vs (Itl K a) σ H1 Q := by
  have ln : xs.length = bs.length := by rw [dpAll_len d, List.length_map]
  refine lc_src (n := xs.length) (src_list h) hn (fun i acc H' => DpAll K H' acc (((bs.take i).filter c).map Dd)) (fun _ _ _ _ _ _ e _ _ b a => dp_butAll e b _ _ (nol_all nol _) a) (fun _ _ => .nil) (fun i x acc H' Nx No lt s it a hl k1 k2 => ?_) fun p acc H' h1 s e a _ => done p acc H' h1 s e (by rw [ln, List.take_length] at a; exact a)
  obtain ⟨b, hb, hx⟩ := datas_at (dp_sameAll s _ _ d) it
  have tk : bs.take (i + 1) = bs.take i ++ [b] := by
    rw [List.take_succ, hb]
    rfl
  refine turn x b H' Nx No (List.mem_of_getElem? hb) hx s (fun H4 s4 h => k1 x H4 s4 ?_) (fun H4 s4 h => k2 H4 s4 ?_)
  · rw [tk, List.filter_append, List.map_append]
    simp only [List.filter_cons, h, if_true, List.filter_nil, List.map_cons, List.map_nil]
    exact dpAll_append (dp_sameAll s4 _ _ a) (.cons (dp_same s4 _ _ hx) .nil)
  · rw [tk, List.filter_append, List.map_append]
    simp only [List.filter_cons, h, Bool.false_eq_true, if_false, List.filter_nil, List.map_nil, List.append_nil]
    exact dp_sameAll s4 _ _ a
end
end Gx

/-! dicts whose keys are tuples of numbers, texts, None and such tuples, wherever these tuples stand; dict comprehensions with such keys -/
namespace Gx
open PySem L2 PySem.Spec PyProof.Rows
section
variable {X : Cx} {pins : List (Addr × Obj)} {σ : L2.St} {H : Hp} {s : Shared}
mutual
/-- data without lists and bools is a key -/
theorem nest_is (I : Inv X pins σ H s) : ∀ (k : NestedKey) (v : V) (u : Value), Dp X.K H v k.data → RelV v u → NestedIs s.heap k u
  | .none, _, _, d, r => by
    cases d
    cases r
    exact .none
  | .num i, _, _, d, r => by
    cases d
    obtain ⟨t, rfl⟩ := r
    exact .int i t
  | .text x, _, _, d, r => by
    cases d
    obtain ⟨t, rfl⟩ := r
    exact .text x t
  | .tup ks, _, _, d, r => by
    cases d with
    | tup sq da =>
      cases r
      obtain ⟨us, rv, ⟨o, ho, hc, n, hd⟩, _⟩ := I.tuple sq
      exact .tup ho hc hd (nest_all I ks _ us da rv)
theorem nest_all (I : Inv X pins σ H s) : ∀ (ks : List NestedKey) (vs : List V) (us : List Value), DpAll X.K H vs (NestedKey.datas ks) → Vals vs us → NestedAll s.heap ks us
  | [], _, _, d, r => by
    cases d
    cases r
    exact .nil
  | k :: ks, _, _, d, r => by
    cases d with
    | cons d1 d2 =>
      cases r with
      | cons r1 r2 => exact .cons (nest_is I k _ _ d1 r1) (nest_all I ks _ _ d2 r2)
end
end
abbrev NKd (P : Program) (w : World) : HeapKind P w NestedKey := nestedKind P w
abbrev Kvs := List (NestedKey × Addr × V)
/-- the value at a key -/
def atB (kvs : Kvs) (k : NestedKey) : Option V := (kvs.find? fun p => decide (p.1 = k)).map (·.2.2)
def putB (kvs : Kvs) (k : NestedKey) (a : Addr) (v : V) : Kvs := if (atB kvs k).isSome then kvs.map fun p => if p.1 = k then (p.1, p.2.1, v) else p else kvs ++ [(k, a, v)]
/-- what is told, and what stands there -/
def PairB : Kvs → List (NestedKey × Addr × Value) → Prop := Paired fun p q => p.1 = q.1 ∧ p.2.1 = q.2.1 ∧ RelV p.2.2 q.2.2
theorem atB_rel {kvs : Kvs} {xs : List (NestedKey × Addr × Value)} (r : PairB kvs xs) (k : NestedKey) : (atB kvs k).isSome = (atKey xs k).isSome ∧ ∀ p, atKey xs k = some p → ∃ v, atB kvs k = some v ∧ RelV v p.2 := by
  induction r with
  | nil => exact ⟨rfl, fun p h => by cases h⟩
  | @cons p q ps qs h t ih =>
    obtain ⟨e1, e2, e3⟩ := h
    by_cases c : p.1 = k
    · have c' : q.1 = k := e1 ▸ c
      have x1 : atB (p :: ps) k = some p.2.2 := by simp [atB, List.find?_cons, c]
      have x2 : atKey (q :: qs) k = some q.2 := by simp [atKey, List.find?_cons, c']
      rw [x1, x2]
      exact ⟨rfl, fun z hz => ⟨_, rfl, by rw [← Option.some.inj hz]; exact e3⟩⟩
    · have c' : ¬ q.1 = k := e1 ▸ c
      have x1 : atB (p :: ps) k = atB ps k := by simp [atB, List.find?_cons, c]
      have x2 : atKey (q :: qs) k = atKey qs k := by simp [atKey, List.find?_cons, c']
      rw [x1, x2]
      exact ih
theorem pairB_repl {kvs : Kvs} {xs : List (NestedKey × Addr × Value)} (r : PairB kvs xs) (k : NestedKey) {v : V} {u : Value} (rv : RelV v u) : PairB (kvs.map fun p => if p.1 = k then (p.1, p.2.1, v) else p) (xs.map (putAt k u)) := by
  induction r with
  | nil => exact .nil
  | @cons p q ps qs h t ih =>
    obtain ⟨e1, e2, e3⟩ := h
    refine .cons ?_ ih
    unfold putAt
    show _ = _ ∧ _ = _ ∧ RelV _ _
    dsimp only
    by_cases c : p.1 = k
    · rw [if_pos c, if_pos (e1 ▸ c)]
      exact ⟨e1, e2, rv⟩
    · rw [if_neg c, if_neg (e1 ▸ c)]
      exact ⟨e1, e2, e3⟩
theorem pairB_put {kvs : Kvs} {xs : List (NestedKey × Addr × Value)} (r : PairB kvs xs) (k : NestedKey) (a : Addr) {v : V} {u : Value} (rv : RelV v u) : PairB (putB kvs k a v) (storedH xs k a u) := by
  unfold putB storedH
  rw [(atB_rel r k).1]
  by_cases c : (atKey xs k).isSome = true
  · rw [if_pos c, if_pos c]
    exact pairB_repl r k rv
  · rw [if_neg c, if_neg c]
    exact Paired.snoc r ⟨rfl, rfl, rv⟩
theorem atB_put (kvs : Kvs) (k : NestedKey) (a : Addr) (v : V) (j : NestedKey) : (atB (putB kvs k a v) j) = if j = k then some v else atB kvs j := by
  unfold putB
  by_cases c : (atB kvs k).isSome = true
  · rw [if_pos c]
    induction kvs with
    | nil => cases c
    | cons p ps ih =>
      by_cases e : p.1 = k
      · by_cases f : j = k
        · subst f
          simp [atB, List.find?_cons, e]
        · have nf : ¬ p.1 = j := fun z => f (z.symm.trans e)
          have nk : ¬ k = j := fun z => f z.symm
          have fix : ∀ (qs : Kvs), atB (qs.map fun p => if p.1 = k then (p.1, p.2.1, v) else p) j = atB qs j := fun qs => by
            induction qs with
            | nil => rfl
            | cons q qs ih2 =>
              rw [List.map_cons]
              by_cases g : q.1 = k
              · have : ¬ q.1 = j := fun z => f (z.symm.trans g)
                rw [if_pos g]
                simp only [atB, List.find?_cons, decide_eq_false this] at ih2 ⊢
                exact ih2
              · rw [if_neg g]
                by_cases x : q.1 = j
                · simp [atB, List.find?_cons, x]
                · simp only [atB, List.find?_cons, decide_eq_false x] at ih2 ⊢
                  exact ih2
          rw [fix, if_neg f]
      · have c2 : (atB ps k).isSome = true := by
          have : atB (p :: ps) k = atB ps k := by simp [atB, List.find?_cons, e]
          rwa [this] at c
        rw [List.map_cons, if_neg e]
        by_cases f : p.1 = j
        · have : ¬ j = k := fun z => e (f.trans z)
          rw [if_neg this]
          simp [atB, List.find?_cons, f]
        · have x1 : atB (p :: List.map (fun p => if p.1 = k then (p.1, p.2.1, v) else p) ps) j = atB (List.map (fun p => if p.1 = k then (p.1, p.2.1, v) else p) ps) j := by simp [atB, List.find?_cons, f]
          have x2 : atB (p :: ps) j = atB ps j := by simp [atB, List.find?_cons, f]
          rw [x1, x2]
          exact ih c2
  · rw [if_neg c]
    have c0 : atB kvs k = none := by
      cases h : atB kvs k with
      | none => rfl
      | some z => rw [h] at c; exact absurd rfl c
    have app : ∀ qs : Kvs, atB (qs ++ [(k, a, v)]) j = (atB qs j).or (if k = j then some v else none) := fun qs => by
      unfold atB
      rw [List.find?_append]
      cases h : qs.find? fun p => decide (p.1 = j) with
      | some z => rfl
      | none =>
        by_cases e : k = j
        · simp [List.find?_cons, e]
        · simp [List.find?_cons, e]
    rw [app]
    by_cases e : j = k
    · subst e
      rw [c0, if_pos rfl]
      simp
    · rw [if_neg e, if_neg (fun z => e z.symm)]
      cases atB kvs j <;> rfl
theorem putB_len (kvs : Kvs) (k : NestedKey) (a : Addr) (v : V) : (putB kvs k a v).length ≤ kvs.length + 1 := by
  unfold putB
  split
  · rw [List.length_map]; exact Nat.le_succ _
  · rw [List.length_append]; exact Nat.le_refl _
theorem pairB_len {kvs : Kvs} {xs : List (NestedKey × Addr × Value)} (r : PairB kvs xs) : kvs.length = xs.length := Paired.length r
/-- the dict at D -/
def DictB0 (P : Program) (w : World) (D : Addr) (kvs : Kvs) (h : Heap) : Prop := kvs.length ≤ sizeLine ∧ (D == sysModules) = false ∧ ∃ xs, PairB kvs xs ∧
  ∃ o es ep, h.get? D = some o ∧ o.ExactDict ∧ o.data = .dict es ep ∧ es.toList = xs.map (entryOfKey (NKd P w)) ∧ (xs.map (·.1)).Nodup
def DictBO (P : Program) (w : World) (D : Addr) (kvs : Kvs) : HO := .ext (DictB0 P w D kvs)
theorem dictB_ok {P : Program} {w : World} {H : Hp} {h : Heap} {D : Addr} {kvs : Kvs} (R : DictB0 P w D kvs h) : ObjOk P w H h D (DictBO P w D kvs) := by
  have ⟨_, _, _, _, o, _, _, ho, _⟩ := R
  refine ⟨R, ⟨o, ho⟩, fun h1 h2 ⟨z, y, xs, r, o, es, ep, e, q⟩ k => ⟨z, y, xs, r, o, es, ep, k o e, q⟩⟩
/-- a dict whose keys are such tuples -/
def DTab (K : PySem.W.Frag) (P : Program) (w : World) (H : Hp) (D : Addr) (kvs : Kvs) : Prop := H D = some (DictBO P w D kvs) ∧ ∀ p ∈ kvs, p.1.depth ≤ 8 ∧ Dp K H (.ref p.2.1) p.1.data
theorem DTab.same {K : PySem.W.Frag} {P : Program} {w : World} {H H' : Hp} {D : Addr} {kvs : Kvs} (h : DTab K P w H D kvs) (s : Same H H') : DTab K P w H' D kvs := ⟨s _ _ h.1, fun p hp => ⟨(h.2 p hp).1, dp_same s _ _ (h.2 p hp).2⟩⟩
section
variable {X : Cx} {pins : List (Addr × Obj)} {σ : L2.St} {H : Hp} {s : Shared} {D a : Addr} {kvs : Kvs} {k : NestedKey}
theorem key_is (I : Inv X pins σ H s) (d : Dp X.K H (.ref a) k.data) (l : k.depth ≤ 8) : (NKd X.prog X.w).is s.heap k a := ⟨nest_is I k _ _ d rfl, l⟩
theorem dtab_get (I : Inv X pins σ H s) (d : DTab X.K X.prog X.w H D kvs) : kvs.length ≤ sizeLine ∧ (D == sysModules) = false ∧ ∃ xs, PairB kvs xs ∧ s.heap.DictOfH (NKd X.prog X.w) D xs := by
  obtain ⟨e, tu⟩ := d
  obtain ⟨z, y, xs, r, o, es, ep, ho, hc, hd, he, nd⟩ := (I.hok D _ e).1
  refine ⟨z, y, xs, r, o, es, ep, ho, hc, hd, he, fun q hq => ?_, nd⟩
  have : ∀ {l : Kvs} {m : List (NestedKey × Addr × Value)}, PairB l m → (∀ p ∈ l, p.1.depth ≤ 8 ∧ Dp X.K H (.ref p.2.1) p.1.data) → ∀ q ∈ m, (NKd X.prog X.w).is s.heap q.1 q.2.1 := by
    intro l m r
    induction r with
    | nil => intro _ q hq; cases hq
    | @cons p q ps qs h t ih =>
      intro tu q' hq'
      rcases List.mem_cons.mp hq' with z | z
      · subst z
        have t1 := tu p List.mem_cons_self
        rw [h.1, h.2.1] at t1
        exact key_is I t1.2 t1.1
      · exact ih (fun p hp => tu p (List.mem_cons_of_mem _ hp)) q' z
  exact this r tu q hq
/-- membership -/
def rInB (K : PySem.W.Frag) (P : Program) (w : World) (neg : Bool) : R2 := fun y x H Q => ∃ a D kvs k, y = .ref a ∧ x = .ref D ∧ DTab K P w H D kvs ∧ Dp K H (.ref a) k.data ∧ k.depth ≤ 8 ∧ Q (.bl (if neg = true then !(atB kvs k).isSome else (atB kvs k).isSome)) H
theorem op_inB (hu : X.A.units + 64 < cLine) : OpR X (compareOp .In) (rInB X.K X.prog X.w false) := by
  intro pins s σ H y x v u Q I ry rx h
  obtain ⟨a, D, kvs, k, rfl, rfl, d, da, dk, q⟩ := h
  cases ry
  cases rx
  obtain ⟨_, y, xs, r, dd⟩ := dtab_get I d
  refine wpAny_in_heap (show X.A.in1.units + 8 < cLine by rw [Around.in1_units]; omega) (key_is I da dk) y dd ?_
  rw [← (atB_rel r k).1]
  exact ⟨.bl _, H, I.tok _, rfl, q⟩
theorem op_notInB (hu : X.A.units + 64 < cLine) : OpR X (compareOp .NotIn) (rInB X.K X.prog X.w true) := by
  intro pins s σ H y x v u Q I ry rx h
  obtain ⟨a, D, kvs, k, rfl, rfl, d, da, dk, q⟩ := h
  cases ry
  cases rx
  obtain ⟨_, y, xs, r, dd⟩ := dtab_get I d
  refine wpAny_notIn_heap (show X.A.in1.units + 8 < cLine by rw [Around.in1_units]; omega) (key_is I da dk) y dd ?_
  rw [← (atB_rel r k).1]
  exact ⟨.bl _, H, I.tok _, rfl, q⟩
/-- D[k] = v within a comprehension -/
theorem put_B {v : V} {r : Value} {Q : Unit → Shared → Prop} {E : Value → Shared → Prop} (hu : X.A.units + 64 < cLine) (I : Inv X pins σ H s) (d : DTab X.K X.prog X.w H D kvs) (few : kvs.length < sizeLine) (da : Dp X.K H (.ref a) k.data) (dk : k.depth ≤ 8) (rv : RelV v r)
    (q : ∀ s', Inv X pins σ (upd H D (DictBO X.prog X.w D (putB kvs k a v))) s' → Q () s') : wpAny (model X.prog X.w) X.A (dictSet D (.ref a) r) Q E s := by
  obtain ⟨_, y, xs, rel, dd⟩ := dtab_get I d
  have e := d.1
  have ln := pairB_len rel
  refine wpAny_dictSet_heap (hsz := by omega) (show X.A.units + 8 < cLine by omega) (key_is I da dk) dd fun h' dd' sb => q _ ?_
  obtain ⟨o, es, ep, ho, hc, hd, he, _, nd⟩ := dd'
  exact d_write I (by rw [e]; trivial) sb ⟨o, ho⟩ (dictB_ok ⟨Nat.le_trans (putB_len kvs k a v) few, y, _, pairB_put rel k a rv, o, es, ep, ho, hc, hd, he, nd⟩)
theorem new_B {P : Program} {w : World} {h : Heap} (big : sysModules < h.objs.size) : ObjOk P w H (h.push { cls := .type "dict", data := .dict #[] }) h.objs.size (DictBO P w h.objs.size []) := by
  refine dictB_ok ⟨Nat.zero_le _, by simpa using Nat.ne_of_gt big, [], .nil, _, #[], 0, Heap.get?_push_size _ rfl, ⟨rfl, rfl, rfl⟩, rfl, rfl, List.nodup_nil⟩
/-- a pair is put into the dict that a comprehension makes -/
def PutD (K : PySem.W.Frag) (P : Program) (w : World) (D : Addr) (y z : V) (H : Hp) (N : Hp → Prop) : Prop :=
  (∃ kvs k, y = kV k ∧ H D = some (.dK kvs) ∧ kvs.length < sizeLine ∧ N (upd H D (.dK (putK kvs k z)))) ∨
  ∃ kvs k a, y = .ref a ∧ DTab K P w H D kvs ∧ kvs.length < sizeLine ∧ Dp K H (.ref a) k.data ∧ k.depth ≤ 8 ∧ N (upd H D (DictBO P w D (putB kvs k a z)))
theorem put_D {N : Hp → Prop} {y z : V} {u r : Value} {Q : Unit → Shared → Prop} {E : Value → Shared → Prop} (hu : X.A.units + 64 < cLine) (I : Inv X pins σ H s) (p : PutD X.K X.prog X.w D y z H N) (ry : RelV y u) (rz : RelV z r)
    (q : ∀ H' s', Inv X pins σ H' s' → N H' → Q () s') : wpAny (model X.prog X.w) X.A (dictSet D u r) Q E s := by
  rcases p with ⟨kvs, k, rfl, e, l, n⟩ | ⟨kvs, k, a, rfl, d, l, da, dk, n⟩
  · exact d_dictSet I e l ry rz fun s' J => q _ s' J n
  · cases ry
    exact put_B hu I d l da dk rz fun s' J => q _ s' J n
/-- the dict that a comprehension begins with -/
def IniD (P : Program) (w : World) (D : Addr) (o : HO) : Prop := o = .dK [] ∨ o = DictBO P w D []
def tDcB (K : PySem.W.Frag) (P : Program) (w : World) (src : TI) (g : TG) (tt : TT) (tk tv : TE) (vs : List Nat) : TE := fun σ H Q => src σ H fun J H1 => ∀ D, H1 D = none → ∃ o, IniD P w D o ∧ ∃ W : Nat → Nat → Hp → Prop, (∃ m, W 0 m (upd H1 D o)) ∧ ∀ i m H, W i m H →
  (J.stop i H ∧ Q (.ref D) H) ∨ (J.go i H ∧ ∃ Nx : Hp → Prop, (∀ H', Nx H' → ∃ m', m' < m ∧ W (i + 1) m' H') ∧ ∀ x H', J.yld i H x H' → g x (wipe σ vs) H' fun σ2 H2 => wipe σ2 vs = wipe σ vs ∧ tt σ2 H2 fun b H3 =>
    if b = true then tk σ2 H3 fun y H4 => tv σ2 H4 fun z H5 => PutD K P w D y z H5 Nx else Nx H3)
variable {X : Cx}
theorem laid_D {pins : List (Addr × Obj)} {σ : L2.St} {H : Hp} {s : Shared} {o : HO} (I : Inv X pins σ H s) (io : IniD X.prog X.w s.heap.objs.size o) :
    Inv X pins σ (upd H s.heap.objs.size o) { s with heap := s.heap.push { cls := .type "dict", data := .dict #[] } } :=
  I.laid (t' := s.toks) (fun b q e => Heap.get?_push_of_some _ e) (Nat.le_refl _) (by
    rcases io with rfl | rfl
    · exact dk_empty s.heap I.big
    · exact new_B I.big)
/-- a dict comprehension over keys of both kinds -/
theorem pe_dcB {kx vx tg src : Expr} {ifs : List Expr} {scope : Scope} {own : List (Str × Nat)} {pos : Pos} {wi : TI} {g : TG} {tt : TT} {tk tv : TE} (calm : X.calm = true) (hu : X.A.units + 64 < cLine) (nd : X.N.Nodup) (hsrc : PI X tg src wi) (blk : BlkOk X.N X.env.scope scope own)
    (htg : ∀ (s : Shared) (H : Hp) (L : Addr) (cl : List (Str × Addr)) (fp : List Addr), PG (X.blk s H scope (compEnvC scope cl L X.env) fp) tg g)
    (hif : ∀ (s : Shared) (H : Hp) (L : Addr) (cl : List (Str × Addr)) (fp : List Addr), PTs (X.blk s H scope (compEnvC scope cl L X.env) fp) ifs tt)
    (hkx : ∀ (s : Shared) (H : Hp) (L : Addr) (cl : List (Str × Addr)) (fp : List Addr), PE (X.blk s H scope (compEnvC scope cl L X.env) fp) kx tk)
    (hvx : ∀ (s : Shared) (H : Hp) (L : Addr) (cl : List (Str × Addr)) (fp : List Addr), PE (X.blk s H scope (compEnvC scope cl L X.env) fp) vx tv) (plain : ∀ x, foldedSetIterable src X.env x = pure x := by intro _; rfl) :
    PE X (.DictComp kx vx [⟨tg, src, ifs, 0⟩] scope pos) (tDcB X.K X.prog X.w wi g tt tk tv (own.map (·.2))) := by
  refine ⟨fun pins s0 σ H Q I0 h => ?_⟩
  rw [arm_eval_DictComp]
  have cells : ∀ y ∈ scope.names, y.2 = .free → ∃ c, X.env.cells.lookup y.1 = some c := fun y hy fr => (blk.free y hy fr).elim (fun z => I0.ok.has _ (.inl z)) fun z => I0.ok.has _ (.inr z)
  refine wpAny_comprehension_free (use := none) rfl plain (closure_ok cells) blk.kind (fun y hy fr => by rw [blk.uniq y hy, fr]) (thn (hsrc.run pins s0 σ H _ I0 h) fun sv s1 q1 => thn q1 fun iv s2 q2 => ?_)
  obtain ⟨it, fp, tn, J, H2, rfl, I2, T, at2, old2, turns⟩ := q2
  refine wpAny_newObj_type (newEnv_comp ?_)
  obtain ⟨o, io, W, ⟨m0, start⟩, step⟩ := turns s2.heap.objs.size (I2.hok.fresh (Nat.le_refl _))
  have I3 := laid_D I2 io
  have low : ∀ b ∈ fp, b < s2.heap.objs.size := fun b hb => let ⟨_, e, _⟩ := T.obj _ _ at2 b hb; Heap.lt_size e
  generalize eD : s2.heap.objs.size = D at I3 start step low ⊢
  have kept3 : ∀ b u, s2.heap.get? b = some u → (s2.heap.push { cls := .type "dict", data := .dict #[] }).get? b = some u := fun b u e => Heap.get?_push_of_some _ e
  have top3 : (s2.heap.push { cls := .type "dict", data := .dict #[] }).objs.size = D + 1 := by rw [Heap.size_push, eD]
  generalize eh : s2.heap.push { cls := .type "dict", data := .dict #[] } = h3 at I3 kept3 top3 ⊢
  generalize e3 : ({ s2 with heap := h3 } : Shared) = s3 at I3 ⊢
  obtain rfl : h3 = s3.heap := by rw [← e3]
  have ok3 : ∀ b ∈ fp, FpOk X pins (upd H2 D o) b ∧ b < s3.heap.objs.size := fun b hb => by
    have l := low b hb
    obtain ⟨n1, n2⟩ := old2 b hb
    exact ⟨⟨by rw [upd_ne (Nat.ne_of_lt l)]; exact n1, n2⟩, by rw [top3]; exact Nat.lt_succ_of_lt l⟩
  have at3 : tn 0 s3.heap := T.keep _ _ _ at2 fun b _ u e => kept3 b u e
  have I4 := block_start I3 blk nd ok3
  generalize ece : compEnvC scope (PySem.cellsFrom (s3.heap.objs.size + 1) scope.names (cloFrom X.env.cells scope.names [])) s3.heap.objs.size X.env = ce at I4
  have pg := ece ▸ htg s3 (upd H2 D o) s3.heap.objs.size (PySem.cellsFrom (s3.heap.objs.size + 1) scope.names (cloFrom X.env.cells scope.names [])) fp
  have pt := ece ▸ hif s3 (upd H2 D o) s3.heap.objs.size (PySem.cellsFrom (s3.heap.objs.size + 1) scope.names (cloFrom X.env.cells scope.names [])) fp
  have pk := ece ▸ hkx s3 (upd H2 D o) s3.heap.objs.size (PySem.cellsFrom (s3.heap.objs.size + 1) scope.names (cloFrom X.env.cells scope.names [])) fp
  have pv := ece ▸ hvx s3 (upd H2 D o) s3.heap.objs.size (PySem.cellsFrom (s3.heap.objs.size + 1) scope.names (cloFrom X.env.cells scope.names [])) fp
  have loc : ce.locals = s3.heap.objs.size := by rw [← ece]; rfl
  change codeAny _ _ (.compStart (.DictComp kx vx [⟨tg, src, ifs, 0⟩] scope pos) 0 (.ref it) (.ref D) (compEnvC scope (PySem.cellsFrom (s3.heap.objs.size + 1) scope.names (cloFrom X.env.cells scope.names [])) s3.heap.objs.size X.env)) (compPost (model X.prog X.w) X.A X.xe none (EP X pins σ Q) (.ref D) s3.heap.objs.size) _
  rw [ece]
  clear ece htg hif hkx hvx turns io
  generalize upd H2 D o = H3 at I3 I4 start ok3 pg pt pk pv
  have at4 : tn 0 (pushCells (s3.heap.push { cls := .type "dict", data := .dict #[] }) scope.names) := T.keep _ _ _ at3 fun b _ u e => pushCells_keeps _ _ _ _ (Heap.get?_push_of_some _ e)
  have put_off : ∀ {σ' : L2.St} {H' : Hp} {s' : Shared}, Inv (X.blk s3 H3 scope ce fp) [] σ' H' s' → (∀ b ∈ fp, H' b = none) → ∀ b ∈ fp, FpOk (X.blk s3 H3 scope ce fp) [] H' b := fun {σ' H' s'} I' off b hb =>
    ⟨off b hb, (I'.ok.exf b hb).1, I'.ok.exfs b hb, .inl hb, fun x c e => (I'.ok.exf b hb).2 x c e, fun p hp => by cases hp⟩
  refine (fun loop => codeAny_compStart_dict loop (T.self X.A 0 _ _ _ at4 loop)) ?_
  refine compLoop_anyD (fun n s' => ∃ i H', Inv (X.blk s3 H3 scope ce fp) [] (wipe σ (own.map (·.2))) H' s' ∧ tn i s'.heap ∧ (∀ b ∈ fp, H' b = none) ∧ W i n H') ?_ m0 ⟨0, H3, I4, at4, fun b hb => (ok3 b hb).1.1, start⟩
  rintro n s5 ⟨i, H5, I5, at5, off5, w5⟩
  rcases step i n H5 w5 with ⟨stop, fin⟩ | ⟨go, Nx, less, turn⟩
  · refine thnF (T.done (X.blk s3 H3 scope ce fp) rfl rfl rfl calm i [] s5 _ H5 (fun _ _ => False) I5 (put_off I5 off5) at5 stop) fun r s6 ⟨hr, I6⟩ => ?_
    subst hr
    have I7 : Inv X pins σ H5 s6 := I3.call' (ch := fp) I6.os I6.base I6.hok I6.bare fun b hb => by
      obtain ⟨_, c1, c2, c3, c4, c5⟩ := (ok3 b hb).1
      exact ⟨c3, c1, c4, c5⟩
    have fresh : H5 s3.heap.objs.size = .none := by
      have z : H5 ce.locals = .none := I6.free
      rwa [loc] at z
    obtain ⟨m, ns, _⟩ := I6.loc
    have ns : s6.heap.Ns ce.locals m := ns
    rw [loc] at ns
    obtain ⟨f0, f1, f2, f3, f4, f5⟩ := I3.fpOk (Nat.le_refl _) fresh
    exact ⟨m, ns, fun h'' sb => ⟨.ref D, H5, I7.turned (t' := s6.toks) (fun b u hb e => (sb.2 b hb).trans e) f0 f1 f3 f4 f5, rfl, fin⟩⟩
  · refine thnF (T.item (X.blk s3 H3 scope ce fp) rfl rfl rfl calm i [] s5 _ H5 (fun _ _ => False) I5 (put_off I5 off5) at5 go) fun r s6 ⟨u, hr, q6⟩ => ?_
    subst hr
    refine thnF q6 fun _ s7 ⟨x, H7, I7, r7, y7, at7, off7⟩ => ?_
    refine thnF (pg.run _ s7 _ H7 x u _ (I7.pinned (put_off I7 off7) (T.obj _ _ at7)) r7 (turn x H7 y7)) fun _ s8 ⟨σ8, H8, I8, wiped, q8⟩ => ?_
    refine thnF (pt.run _ s8 σ8 H8 _ I8 q8) fun b s9 ⟨H9, I9, q9⟩ => ?_
    have next : ∀ {s' : Shared} {H' : Hp}, Inv (X.blk s3 H3 scope ce fp) ([] ++ pinsAt fp s7.heap) σ8 H' s' → Nx H' → ∃ m, m < n ∧ ∃ i H', Inv (X.blk s3 H3 scope ce fp) [] (wipe σ (own.map (·.2))) H' s' ∧ tn i s'.heap ∧ (∀ b ∈ fp, H' b = .none) ∧ W i m H' := fun {s' H'} I' nx => by
      obtain ⟨m', lt, w'⟩ := less H' nx
      have pin' : ∀ b ∈ fp, ∀ ob, s7.heap.get? b = some ob → s'.heap.get? b = some ob ∧ H' b = .none := fun b hb ob e => by
        have z := I'.pin (b, ob) (List.mem_append_right _ (List.mem_append_right _ (mem_pinsAt hb e)))
        exact ⟨z.1, z.2.1⟩
      have ln : (wipe σ (own.map (·.2))).length = σ8.length := by rw [← wiped, wipe_length]
      refine ⟨m', lt, i + 1, H', (I'.unpinned (pins := [])).weak ln fun j v e => ?_, T.keep _ _ _ at7 fun b hb ob e => (pin' b hb ob e).1, fun b hb => ?_, w'⟩
      · rw [← wiped] at e
        exact (wipe_some e).1
      · obtain ⟨ob, e, _⟩ := T.obj _ _ at7 b hb
        exact (pin' b hb ob e).2
    cases b with
    | false =>
      rw [if_neg Bool.false_ne_true] at q9 ⊢
      exact next I9 q9
    | true =>
      rw [if_pos rfl] at q9 ⊢
      refine thnF (pk.run _ s9 σ8 H9 _ I9 q9) fun z s10 ⟨yk, H10, I10, rk, q10⟩ => ?_
      refine thnF (pv.run _ s10 σ8 H10 _ I10 q10) fun z2 s11 ⟨yv, H11, I11, rv, put⟩ => ?_
      exact put_D (X := X.blk s3 H3 scope ce fp) hu I11 put rk rv fun H' s12 I12 nx => next I12 nx
end
/-! ### keys of a kind of points -/
def DCB (K : PySem.W.Frag) (P : Program) (w : World) (g : TG) (tt : TT) (tk tv : TE) (vs : List Nat) (J : It) (σ : L2.St) (H1 : Hp) (Q : VK) : Prop := ∀ D, H1 D = none → ∃ o, IniD P w D o ∧ ∃ W : Nat → Nat → Hp → Prop, (∃ m, W 0 m (upd H1 D o)) ∧ ∀ i m H, W i m H →
  (J.stop i H ∧ Q (.ref D) H) ∨ (J.go i H ∧ ∃ Nx : Hp → Prop, (∀ H', Nx H' → ∃ m', m' < m ∧ W (i + 1) m' H') ∧ ∀ x H', J.yld i H x H' → g x (wipe σ vs) H' fun σ2 H2 => wipe σ2 vs = wipe σ vs ∧ tt σ2 H2 fun b H3 =>
    if b = true then tk σ2 H3 fun y H4 => tv σ2 H4 fun z H5 => PutD K P w D y z H5 Nx else Nx H3)
theorem g_dcB {K : PySem.W.Frag} {P : Program} {w : World} {wi : TI} {g : TG} {tt : TT} {tk tv : TE} {vs : List Nat} {σ : L2.St} {H : Hp} {Q : VK} (q : wi σ H fun J H1 => DCB K P w g tt tk tv vs J σ H1 Q) : tDcB K P w wi g tt tk tv vs σ H Q := q
/-- membership in a dict of both kinds -/
def rKey (K : PySem.W.Frag) (P : Program) (w : World) (neg : Bool) : R2 := fun y x H Q => rDIn2 neg y x H Q ∨ rInB K P w neg y x H Q
theorem op_keyIn {X : Cx} (hu : X.A.units + 64 < cLine) : OpR X (compareOp .In) (rKey X.K X.prog X.w false) := fun pins s σ H y x v u Q I ry rx h => by
  rcases h with h | h
  · exact op_dictIn hu pins s σ H y x v u Q I ry rx h
  · exact op_inB hu pins s σ H y x v u Q I ry rx h
theorem op_keyNot {X : Cx} (hu : X.A.units + 64 < cLine) : OpR X (compareOp .NotIn) (rKey X.K X.prog X.w true) := fun pins s σ H y x v u Q I ry rx h => by
  rcases h with h | h
  · exact op_dictNotIn hu pins s σ H y x v u Q I ry rx h
  · exact op_notInB hu pins s σ H y x v u Q I ry rx h
/-- a kind of points as keys, and a number of a range as a point -/
class Kb (α : Type) extends Gr α where
  keysP : PySem.W.Frag → Program → World → Hp → Addr → List α → Prop
  keys_same : ∀ {K P w H H' a as}, Same H H' → keysP K P w H a as → keysP K P w H' a as
  ini : Program → World → Addr → HO
  ini_ok : ∀ P w D, IniD P w D (ini P w D)
  ini_keys : ∀ K P w H D, keysP K P w (upd H D (ini P w D)) D []
  put : ∀ {K : PySem.W.Frag} {P : Program} {w : World} {H : Hp} {D0 : Addr} {as : List α} {y : V} {a : α} {z : V} {N : Hp → Prop}, keysP K P w H D0 as → as.length < sizeLine → Dp K H y (D a) → (∀ o, keysP K P w (upd H D0 o) D0 (as ++ [a]) → N (upd H D0 o)) → PutD K P w D0 y z H N
  has : ∀ {K : PySem.W.Frag} {P : Program} {w : World} {H : Hp} {D0 : Addr} {as : List α} {y : V} {a : α} {neg c : Bool} {Q : VK}, keysP K P w H D0 as → Dp K H y (D a) → (c = true ↔ a ∈ as) → Q (.bl (if neg = true then !c else c)) H → rKey K P w neg y (.ref D0) H Q
  asPt : Int → Option α
  as_pv : ∀ {K : PySem.W.Frag} {H : Hp} (n : Int), pv K H (.int n) (asPt n).isSome
  as_D : ∀ {n : Int} {a : α}, asPt n = some a → D a = .int n
instance : Kb Int where
  keysP K P w H a as := ∃ kvs : List (Key × V), H a = some (.dK kvs) ∧ kvs.length ≤ as.length ∧ ∀ k : Int, (valV kvs (.inl k)).isSome = decide (k ∈ as)
  keys_same s h := let ⟨kvs, e, r⟩ := h; ⟨kvs, s _ _ e, r⟩
  ini P w D := .dK []
  ini_ok P w D := .inl rfl
  ini_keys K P w H D := ⟨[], upd_same, Nat.le_refl _, fun k => rfl⟩
  put := fun {K P w H D as y a z N} h few d k => by
    cases d
    obtain ⟨kvs, e, l, m⟩ := h
    refine .inl ⟨kvs, .inl a, rfl, e, by omega, k _ ⟨_, upd_same, Nat.le_trans (length_putK _ _ _) (by rw [List.length_append]; exact Nat.succ_le_succ l), fun j => ?_⟩⟩
    rw [valV_put]
    by_cases c : j = a
    · subst c
      rw [if_pos rfl]
      simp
    · rw [if_neg (fun z => c (Sum.inl.inj z)), m j]
      simp [c]
  has := fun {K P w H D as y a neg c Q} h d hc q => by
    cases d
    obtain ⟨kvs, e, l, m⟩ := h
    exact .inl ⟨D, _, rfl, DGet.k (k := .inl a) e, by rw [m, show decide (a ∈ as) = c from Bool.eq_iff_iff.mpr (decide_eq_true_iff.trans hc.symm)]; exact q⟩
  asPt n := some n
  as_pv n := .int n
  as_D h := by rw [Option.some.inj h]; rfl
def nkP (p : Pr) : NestedKey := .tup [.num p.1, .num p.2]
theorem nkP_D (p : Pr) : (nkP p).data = prD p := rfl
theorem nkP_inj {p q : Pr} : nkP p = nkP q ↔ p = q := by
  constructor
  · intro h
    unfold nkP at h
    injection h with h
    injection h with h1 h
    injection h with h2 h
    injection h1 with h1
    injection h2 with h2
    exact Prod.ext h1 h2
  · rintro rfl; rfl
theorem nkP_dep (p : Pr) : (nkP p).depth ≤ 8 := by simp [nkP, NestedKey.depth, NestedKey.depthAll]
instance : Kb Pr where
  keysP K P w H a as := ∃ kvs : Kvs, DTab K P w H a kvs ∧ kvs.length ≤ as.length ∧ ∀ k : Pr, (atB kvs (nkP k)).isSome = decide (k ∈ as)
  keys_same s h := let ⟨kvs, e, r⟩ := h; ⟨kvs, e.same s, r⟩
  ini P w D := DictBO P w D []
  ini_ok P w D := .inr rfl
  ini_keys K P w H D := ⟨[], ⟨upd_same, fun p h => by cases h⟩, Nat.le_refl _, fun k => rfl⟩
  put := fun {K P w H D as y a z N} h few d k => by
    obtain ⟨kvs, e, l, m⟩ := h
    have d0 := d
    obtain ⟨r, rfl, t⟩ := pr_at d
    have odd : Odd (DictBO P w D kvs) := ⟨fun xs z => (by cases z), fun xs z => (by cases z), fun ob u z => (by cases z)⟩
    refine .inr ⟨kvs, nkP a, r, rfl, e, by omega, d0, nkP_dep a, k _ ⟨_, ⟨upd_same, fun p hp => ?_⟩, Nat.le_trans (putB_len _ _ _ _) (by rw [List.length_append]; exact Nat.succ_le_succ l), fun j => ?_⟩⟩
    · have stay : ∀ (d : PyData) (v : V), Dp K H v d → Dp K (upd H D (DictBO P w D (putB kvs (nkP a) r z))) v d := dp_odd e.1 odd fun b o nb hb => by rw [upd_ne nb]; exact hb
      unfold putB at hp
      split at hp
      · obtain ⟨q, hq, rfl⟩ := List.mem_map.mp hp
        have := e.2 q hq
        split
        · exact ⟨this.1, stay _ _ this.2⟩
        · exact ⟨this.1, stay _ _ this.2⟩
      · rcases List.mem_append.mp hp with q | q
        · exact ⟨(e.2 p q).1, stay _ _ (e.2 p q).2⟩
        · rw [List.mem_singleton.mp q]
          exact ⟨nkP_dep a, stay _ _ d0⟩
    · rw [atB_put]
      by_cases c : j = a
      · subst c
        rw [if_pos rfl]
        simp
      · rw [if_neg (fun z => c (nkP_inj.mp z)), m j]
        simp [c]
  has := fun {K P w H D as y a neg c Q} h d hc q => by
    obtain ⟨kvs, e, l, m⟩ := h
    have d0 := d
    obtain ⟨r, rfl, t⟩ := pr_at d
    refine .inr ⟨r, D, kvs, nkP a, rfl, rfl, e, d0, nkP_dep a, ?_⟩
    rw [m, show decide (a ∈ as) = c from Bool.eq_iff_iff.mpr (decide_eq_true_iff.trans hc.symm)]
    exact q
  asPt n := none
  as_pv n := .other (.base (.int n)) (kit_ty (by decide +kernel))
  as_D h := by cases h
section
variable {α : Type} [Kb α] {K : PySem.W.Frag} {P : Program} {w : World} {H H1 : Hp} {Q : VK} {σ : L2.St} {tk tv : TE} {tt : TT} {g : TG} {vs : List Nat}
open Kd
/-- a dict of the points of a list -/
theorem dc_keys {a : Addr} {as : List α} (h : PtsL K H1 a as) (hn : as.length ≤ 100000)
    (turn : ∀ (x : V) (m : α) H' (Nx : V → V → Hp → Prop), m ∈ as → Dp K H' x (D m) → Same H1 H' → (∀ z H4, Same H' H4 → Nx x z H4) → g x (wipe σ vs) H' fun σ2 H2 => wipe σ2 vs = wipe σ vs ∧ tk σ2 H2 fun y H3 => tv σ2 H3 fun z H4 => Nx y z H4)
    (done : ∀ D H', H1 D = none → Same H1 H' → Kb.keysP K P w H' D as → Q (.ref D) H') : DCB K P w g tYes tk tv vs (Itl K a) σ H1 Q := by
  intro D hD
  obtain ⟨xs, e, dd⟩ := h
  have ln := pts_len dd
  refine ⟨Kb.ini α P w D, Kb.ini_ok P w D, fun i m H => m = as.length - i ∧ i ≤ as.length ∧ Same H1 H ∧ Kb.keysP K P w H D (as.take i), ⟨as.length, rfl, Nat.zero_le _, same_new hD, Kb.ini_keys K P w H1 D⟩, ?_⟩
  rintro i m H ⟨rfl, hi, s, keys⟩
  rcases Nat.lt_or_ge i as.length with lt | ge
  · right
    obtain ⟨go, yl⟩ := (src_list (SqL.of e) i H s).1 (by omega)
    refine ⟨go, fun H' => i + 1 ≤ as.length ∧ Same H1 H' ∧ Kb.keysP K P w H' D (as.take (i + 1)), fun H' ⟨l1, q⟩ => ⟨as.length - (i + 1), by omega, rfl, l1, q⟩, fun x H' y => ?_⟩
    obtain ⟨s2, it⟩ := yl x H' y
    have s12 := s.trans s2
    obtain ⟨b, hb, hx⟩ := pts_at (dp_sameAll s12 _ _ dd) it
    have tk : as.take (i + 1) = as.take i ++ [b] := by
      rw [List.take_succ, hb]
      rfl
    refine turn x b H' (fun y z H5 => PutD K P w D y z H5 fun H' => i + 1 ≤ as.length ∧ Same H1 H' ∧ Kb.keysP K P w H' D (as.take (i + 1))) (List.mem_of_getElem? hb) hx s12 fun z H4 s4 => ?_
    refine Kb.put (Kb.keys_same (s2.trans s4) keys) (big_lt (by rw [List.length_take]; omega)) (dp_same s4 _ _ hx) fun o q => ⟨lt, same_mut (s12.trans s4) hD, ?_⟩
    rw [tk]
    exact q
  · left
    have e0 : i = as.length := Nat.le_antisymm hi ge
    subst e0
    rw [List.take_length] at keys
    exact ⟨(src_list (SqL.of e) _ H s).2 (by omega), done D H hD s keys⟩
theorem g_key {a : Addr} {as : List α} {y : V} {b : α} (h : Kb.keysP K P w H a as) (d : Dp K H y (D b)) (q : Q (.bl (decide (b ∈ as))) H) : rKey K P w false y (.ref a) H Q := Kb.has h d decide_eq_true_iff q
theorem g_keyN {a : Addr} {as : List α} {y : V} {b : α} (h : Kb.keysP K P w H a as) (d : Dp K H y (D b)) (q : Q (.bl (!decide (b ∈ as))) H) : rKey K P w true y (.ref a) H Q := Kb.has h d decide_eq_true_iff q
end
end Gx

/-! calls by keywords alone, in any sequence -/
namespace Gx
open PySem L2 PySem.Spec PyProof.Rows
def permV (n : Nat) (ix : List Nat) : List V → List V → List V
  | [], zs => if zs.length = n then ix.map fun i => zs.getD i .non else []
  | _ :: _, _ => []
def permU (n : Nat) (ix : List Nat) : List Value → List Value → List Value
  | [], zs => if zs.length = n then ix.map fun i => zs.getD i .none else []
  | _ :: _, _ => []
theorem vals_get {zs : List V} {ws : List Value} (r : Vals zs ws) : ∀ i, RelV (zs.getD i .non) (ws.getD i .none) := by
  induction r with
  | nil => intro i; exact rfl
  | cons h t ih =>
    intro i
    cases i with
    | zero => exact h
    | succ i => exact ih i
theorem perm_rel (n : Nat) (ix : List Nat) {vs : List V} {us : List Value} {zs : List V} {ws : List Value} (r : Vals vs us) (rz : Vals zs ws) : Vals (permV n ix vs zs) (permU n ix us ws) := by
  cases r with
  | cons _ _ => exact .nil
  | nil =>
    show Vals (if zs.length = n then ix.map fun i => zs.getD i .non else []) (if ws.length = n then ix.map fun i => ws.getD i .none else [])
    rw [← rz.length]
    by_cases c : zs.length = n
    · rw [if_pos c, if_pos c]
      induction ix with
      | nil => exact .nil
      | cons i ix ih => exact .cons (vals_get rz i) ih
    · rw [if_neg c, if_neg c]
      exact .nil
theorem permU_ne (n : Nat) (ix : List Nat) (ws : List Value) (h : ¬ ws.length = n) : permU n ix [] ws = [] := if_neg h
theorem kbinds_p4 {K : PySem.W.Frag} {fd : FuncData} {ps : List Str} {k1 k2 k3 k4 : Str} {ix : List Nat} (n0 : ps.length ≠ 0) (h : ∀ a b c d : Value, bindArgs fd ⟨[], [(k1, a), (k2, b), (k3, c), (k4, d)]⟩ = pure (ps.zip (ix.map fun i => [a, b, c, d].getD i .none))) : KBinds K fd ps [k1, k2, k3, k4] (permU 4 ix) (permV 4 ix) := by
  refine ⟨fun st us ws _ hl => ?_, perm_rel 4 ix⟩
  match us, ws, hl with
  | [], [a, b, c, d], _ => exact .of_eq (h a b c d)
  | [], [], hl => exact absurd hl.symm n0
  | [], [_], hl => exact absurd hl.symm n0
  | [], [_, _], hl => exact absurd hl.symm n0
  | [], [_, _, _], hl => exact absurd hl.symm n0
  | [], a :: b :: c :: d :: e :: r, hl =>
    have : permU 4 ix [] (a :: b :: c :: d :: e :: r) = [] := permU_ne _ _ _ (by simp only [List.length_cons]; omega)
    rw [this] at hl
    exact absurd hl.symm n0
  | _ :: _, _, hl => exact absurd hl.symm n0
theorem kbinds_p5 {K : PySem.W.Frag} {fd : FuncData} {ps : List Str} {k1 k2 k3 k4 k5 : Str} {ix : List Nat} (n0 : ps.length ≠ 0) (h : ∀ a b c d e : Value, bindArgs fd ⟨[], [(k1, a), (k2, b), (k3, c), (k4, d), (k5, e)]⟩ = pure (ps.zip (ix.map fun i => [a, b, c, d, e].getD i .none))) : KBinds K fd ps [k1, k2, k3, k4, k5] (permU 5 ix) (permV 5 ix) := by
  refine ⟨fun st us ws _ hl => ?_, perm_rel 5 ix⟩
  match us, ws, hl with
  | [], [a, b, c, d, e], _ => exact .of_eq (h a b c d e)
  | [], [], hl => exact absurd hl.symm n0
  | [], [_], hl => exact absurd hl.symm n0
  | [], [_, _], hl => exact absurd hl.symm n0
  | [], [_, _, _], hl => exact absurd hl.symm n0
  | [], [_, _, _, _], hl => exact absurd hl.symm n0
  | [], a :: b :: c :: d :: e :: f :: r, hl =>
    have : permU 5 ix [] (a :: b :: c :: d :: e :: f :: r) = [] := permU_ne _ _ _ (by simp only [List.length_cons]; omega)
    rw [this] at hl
    exact absurd hl.symm n0
  | _ :: _, _, hl => exact absurd hl.symm n0
theorem g_iteNd {c : Prop} {i : Decidable c} {A B : Prop} (h1 : ¬ c → A) (h2 : c → B) : if (!decide c) = true then A else B := g_iteN h1 h2
theorem g_iteD {c : Prop} {i : Decidable c} {A B : Prop} (h1 : c → A) (h2 : ¬ c → B) : if decide c = true then A else B := g_ite h1 h2
theorem g_listPts {α : Type} [Kd α] {K : PySem.W.Frag} {H : Hp} {Q : VK} {p : Addr} {as : List α} (h : PtsL K H p as) (k : ∀ l H', H l = none → Same H H' → PtsL K H' l as → Q (.ref l) H') : rListQ K [V.ref p] H Q := by
  obtain ⟨xs, e, d⟩ := h
  exact g_listof (SqL.of e) fun l H' n S e' => k l H' n S ⟨xs, e', dp_sameAll S _ _ d⟩
section
variable {α : Type} [Ln α]
open Kd
theorem fine_oP {o : Option α} (h : ∀ a, o = some a → Fine 1 3 (D a)) : Fine 1 3 (oK o) := by
  cases o with
  | none => exact fine_none.mono (Nat.le_refl _) (by decide)
  | some a => exact h a rfl
end
end Gx

/-! How far a read reaches, for both kinds of points, as plain functions-/
namespace Gx
open PySem L2
section
variable {α : Type} [Kb α] {K : PySem.W.Frag} {H H' : Hp}
open Kd
def holdsK (ks : List α) (n : Int) : Bool := match Kb.asPt (α := α) n with | some a => decide (a ∈ ks) | none => false
def leftK (ks : List α) (lo : Int) : Option α := if holdsK ks lo = true then Kb.asPt lo else (ks.filter fun a => Ln.ahead a lo).getLast?
def rightK (ks : List α) (hi : Int) : Option α := if holdsK ks hi = true then Kb.asPt hi else (ks.filter fun a => Ln.beyond a hi).head?
def keptK (as ss : List α) : List α := as.filter fun a => !decide (a ∈ ss)
def tupK (l r : Option α) (hl hr : Bool) : PyData := .tuple [oK l, oK r, .bool hl, .bool hr]
def reachK (ks : List α) (lo hi : Int) : PyData := tupK (leftK ks lo) (rightK ks hi) (holdsK ks lo) (holdsK ks hi)
def leftOkK (l : Option α) (hl : Bool) (x : α) : Bool := match l with | none => true | some a => !(lt x a || (decide (x = a) && !hl))
def rightOkK (r : Option α) (hr : Bool) (x : α) : Bool := match r with | none => true | some b => lt x b || (decide (x = b) && hr)
def heldK (l r : Option α) (hl hr : Bool) (x : α) : Bool := leftOkK l hl x && rightOkK r hr x
theorem keptK_up (as ss : List α) (h : Up as) : Up (keptK as ss) := List.Pairwise.sublist List.filter_sublist h
/-- items that are points, or none of the kind -/
def inO (as : List α) : Option α → Bool
  | some a => decide (a ∈ as)
  | none => false
def upO : Option α → Option α → Bool
  | some a, some b => lt a b
  | _, _ => false
def okIn (as : List α) (os : List (Option α)) : Bool := os.all (inO as) && (List.zipWith upO os (os.drop 1)).all id
def ItO (K : PySem.W.Frag) (H : Hp) (x : V) : Option α → Prop
  | some a => Dp K H x (D a)
  | none => Ln.pv α K H x false
theorem itO_same {x : V} {o : Option α} (s : Same H H') (h : ItO K H x o) : ItO K H' x o := by
  cases o with
  | none => exact Ln.pv_same s h
  | some a => exact dp_same s _ _ h
/-- a list of such items -/
def InL (K : PySem.W.Frag) (H : Hp) (a : Addr) (os : List (Option α)) : Prop := ∃ xs, SqL K H a xs ∧ xs.length = os.length ∧ ∀ (i : Nat) x o, xs[i]? = some x → os[i]? = some o → ItO K H x o
/-- no list -/
def NoL (K : PySem.W.Frag) (H : Hp) (v : V) : Prop := ∃ t, TyX K H v t ∧ PySem.W.kitOne K t (.type "list") = some false
theorem inL_pts {a : Addr} {ss : List α} (h : PtsL K H a ss) : InL K H a (ss.map some) := by
  obtain ⟨xs, e, d⟩ := h
  have ln := pts_len d
  refine ⟨xs, SqL.of e, by rw [List.length_map, ln], fun i x o hx ho => ?_⟩
  obtain ⟨b, hb, hd⟩ := pts_at d hx
  rw [List.getElem?_map, hb] at ho
  obtain rfl := Option.some.inj ho
  exact hd
theorem zip_up {ss : List α} (u : Up ss) : (List.zipWith upO (ss.map some) ((ss.map some).drop 1)).all id = true := by
  induction ss with
  | nil => rfl
  | cons a ss ih =>
    cases ss with
    | nil => rfl
    | cons b ss =>
      obtain ⟨u1, u2⟩ := List.pairwise_cons.mp u
      have q := ih u2
      simp only [List.map_cons, List.drop_succ_cons, List.drop_zero, List.zipWith_cons_cons, List.all_cons] at q ⊢
      rw [q]
      have : upO (some a) (some b) = true := u1 b List.mem_cons_self
      rw [this]
      rfl
theorem ok_good {as ss : List α} (u : Up ss) (m : ∀ s ∈ ss, s ∈ as) : okIn as (ss.map some) = true := by
  unfold okIn
  rw [zip_up u, Bool.and_true, List.all_map]
  exact List.all_eq_true.mpr fun s hs => decide_eq_true (m s hs)
theorem all_in {as : List α} : ∀ {os : List (Option α)}, os.all (inO as) = true → ∃ ss : List α, os = ss.map some ∧ ∀ s ∈ ss, s ∈ as
  | [], _ => ⟨[], rfl, fun s h => by cases h⟩
  | o :: os, h => by
    rw [List.all_cons, Bool.and_eq_true] at h
    obtain ⟨ss, rfl, m⟩ := all_in h.2
    cases o with
    | none => cases h.1
    | some a =>
      refine ⟨a :: ss, rfl, fun s hs => ?_⟩
      rcases List.mem_cons.mp hs with rfl | z
      · exact of_decide_eq_true h.1
      · exact m s z
theorem bls {acc : List V} {bs : List Bool} (l : acc.length = bs.length) (h : ∀ (i : Nat) y, acc[i]? = some y → ∃ b, bs[i]? = some b ∧ y = V.bl b) : acc = bs.map V.bl := by
  apply List.ext_getElem?
  intro i
  rw [List.getElem?_map]
  cases e : acc[i]? with
  | none =>
    rw [List.getElem?_eq_none (by rw [← l]; exact List.getElem?_eq_none_iff.mp e)]
    rfl
  | some y =>
    obtain ⟨b, hb, rfl⟩ := h i y e
    rw [hb]
    rfl
def InV (K : PySem.W.Frag) (H : Hp) (as : List α) (v : V) : Option (List α) → Prop
  | some ss => ∃ a, v = .ref a ∧ PtsL K H a ss ∧ Up ss ∧ ss.length ≤ 100000 ∧ ∀ s ∈ ss, s ∈ as
  | none => (∃ a os, v = .ref a ∧ InL K H a os ∧ os.length ≤ 100000 ∧ okIn as os = false) ∨ NoL K H v
/-- the parts of a reach -/
theorem tupK_at {x : V} {l r : Option α} {hl hr : Bool} (h : Dp K H x (tupK l r hl hr)) : ∃ t v1 v2, x = .ref t ∧ SqT K H t [v1, v2, .bl hl, .bl hr] ∧ Dp K H v1 (oK l) ∧ Dp K H v2 (oK r) := by
  unfold tupK at h
  cases h with
  | tup e d =>
    cases d with
    | cons d1 d =>
      cases d with
      | cons d2 d =>
        cases d with
        | cons d3 d =>
          cases d3
          cases d with
          | cons d4 d =>
            cases d4
            cases d
            exact ⟨_, _, _, rfl, e, d1, d2⟩
theorem tupK_of {t : Addr} {l r : Option α} {hl hr : Bool} {v1 v2 : V} (e : SqT K H t [v1, v2, .bl hl, .bl hr]) (d1 : Dp K H v1 (oK l)) (d2 : Dp K H v2 (oK r)) : Dp K H (.ref t) (tupK l r hl hr) := .tup e (.cons d1 (.cons d2 (.cons (.bl _) (.cons (.bl _) .nil))))
theorem dp_nn {H : Hp} {x : V} {b : α} (h : Dp K H x (Kd.D b)) : ¬ x = .non := fun e => by
  subst e
  generalize hd : Kd.D b = d at h
  cases h
  exact Kd.nn b hd
end
end Gx

/-! The theory of reaches and cells, for both kinds of points, no program in sight -/
namespace Gx
open PySem L2
/-- how points lie to a range -/
class Rg (α : Type) extends Kb α where
  ah_down : ∀ {a b : α} {n : Int}, lt a b = true → ahead b n = true → ahead a n = true
  ah_mono : ∀ {a : α} {m n : Int}, m ≤ n → ahead a m = true → ahead a n = true
  by_up : ∀ {a b : α} {n : Int}, lt a b = true → beyond a n = true → beyond b n = true
  by_mono : ∀ {a : α} {m n : Int}, m ≤ n → beyond a n = true → beyond a m = true
  ah_lt : ∀ {a b : α} {n : Int}, asPt n = some b → ahead a n = lt a b
  by_gt : ∀ {a b : α} {n : Int}, asPt n = some b → beyond a n = lt b a
  as_lt : ∀ {a b : α} {m n : Int}, m < n → asPt m = some a → asPt n = some b → lt a b = true
  as_all : ∀ (m n : Int), (asPt m).isSome = (asPt n).isSome
  ah_by : ∀ {a : α} {m n : Int}, m ≤ n → ahead a m = true → beyond a n = false
  gap_r : ∀ {l : Option α} {y : α} {lo hi : Int}, ahead y lo = true → gap l (some y) lo hi = false
  gap_l : ∀ {r : Option α} {x : α} {lo hi : Int}, (∀ y, r = some y → lt x y = true) → beyond x hi = true → gap (some x) r lo hi = false
  gap_at : ∀ {l : Option α} {y : α} {lo hi : Int}, asPt lo = some y → gap l (some y) lo hi = false
  gap_to : ∀ {r : Option α} {x : α} {lo hi : Int}, asPt hi = some x → gap (some x) r lo hi = false
  gap_in : ∀ {l r : Option α} {lo hi : Int}, lo ≤ hi → (∀ x, l = some x → ahead x lo = true) → (∀ y, r = some y → ahead y lo = false ∧ asPt lo ≠ some y) → gap l r lo hi = true
  gap_on : ∀ {l r : Option α} {lo hi : Int}, lo ≤ hi → (∀ x, l = some x → beyond x hi = false ∧ asPt hi ≠ some x) → (∀ y, r = some y → beyond y hi = true) → gap l r lo hi = true
theorem gapInt {l r : Option Int} {lo hi : Int} : gapIn l r lo hi = true ↔ (match l with | none => lo | some x => max lo (x + 1)) ≤ (match r with | none => hi | some y => min hi (y - 1)) := by
  unfold gapIn
  rw [decide_eq_true_iff]
  have e1 : leastOf lo l = (match l with | none => lo | some x => max lo (x + 1)) := by
    cases l with
    | none => rfl
    | some x =>
      show (if x + 1 > lo then x + 1 else lo) = max lo (x + 1)
      split <;> omega
  have e2 : mostOf hi r = (match r with | none => hi | some y => min hi (y - 1)) := by
    cases r with
    | none => rfl
    | some y =>
      show (if y - 1 < hi then y - 1 else hi) = min hi (y - 1)
      split <;> omega
  rw [e1, e2]
instance : Rg Int where
  ah_down h1 h2 := by simp [Kd.lt, Ln.ahead] at *; omega
  ah_mono h1 h2 := by simp [Ln.ahead] at *; omega
  by_up h1 h2 := by simp [Kd.lt, Ln.beyond] at *; omega
  by_mono h1 h2 := by simp [Ln.beyond] at *; omega
  ah_lt h := by cases h; rfl
  by_gt h := by cases h; rfl
  as_lt h h1 h2 := by cases h1; cases h2; simp [Kd.lt]; exact h
  as_all m n := rfl
  ah_by h1 h2 := by simp [Ln.ahead, Ln.beyond] at *; omega
  gap_r := fun {l y lo hi} h => by
    simp [Ln.ahead] at h
    refine Bool.eq_false_iff.mpr fun z => ?_
    have z := gapInt.mp z
    cases l <;> simp at z <;> omega
  gap_l := fun {r x lo hi} _ h => by
    simp [Ln.beyond] at h
    refine Bool.eq_false_iff.mpr fun z => ?_
    have z := gapInt.mp z
    cases r <;> simp at z <;> omega
  gap_at := fun {l y lo hi} h => by
    cases h
    refine Bool.eq_false_iff.mpr fun z => ?_
    have z := gapInt.mp z
    cases l <;> simp at z <;> omega
  gap_to := fun {r x lo hi} h => by
    cases h
    refine Bool.eq_false_iff.mpr fun z => ?_
    have z := gapInt.mp z
    cases r <;> simp at z <;> omega
  gap_in := fun {l r lo hi} h h1 h2 => by
    refine gapInt.mpr ?_
    cases l with
    | none =>
      cases r with
      | none => exact h
      | some y =>
        obtain ⟨a, b⟩ := h2 y rfl
        have b : lo ≠ y := fun e => b (by rw [e]; rfl)
        simp [Ln.ahead] at a ⊢
        omega
    | some x =>
      have c := h1 x rfl
      cases r with
      | none => simp [Ln.ahead] at c ⊢; omega
      | some y =>
        obtain ⟨a, b⟩ := h2 y rfl
        have b : lo ≠ y := fun e => b (by rw [e]; rfl)
        simp [Ln.ahead] at a c ⊢
        omega
  gap_on := fun {l r lo hi} h h1 h2 => by
    refine gapInt.mpr ?_
    cases r with
    | none =>
      cases l with
      | none => exact h
      | some y =>
        obtain ⟨a, b⟩ := h1 y rfl
        have b : hi ≠ y := fun e => b (by rw [e]; rfl)
        simp [Ln.beyond] at a ⊢
        omega
    | some x =>
      have c := h2 x rfl
      cases l with
      | none => simp [Ln.beyond] at c ⊢; omega
      | some y =>
        obtain ⟨a, b⟩ := h1 y rfl
        have b : hi ≠ y := fun e => b (by rw [e]; rfl)
        simp [Ln.beyond] at a c ⊢
        omega
instance : Rg Pr where
  ah_down h1 h2 := by simp [Kd.lt, prLt, Ln.ahead] at *; omega
  ah_mono h1 h2 := by simp [Ln.ahead] at *; omega
  by_up h1 h2 := by simp [Kd.lt, prLt, Ln.beyond] at *; omega
  by_mono h1 h2 := by simp [Ln.beyond] at *; omega
  ah_lt h := by cases h
  by_gt h := by cases h
  as_lt h h1 h2 := by cases h1
  as_all m n := rfl
  ah_by h1 h2 := by simp [Ln.ahead, Ln.beyond] at *; omega
  gap_r := fun {l y lo hi} h => by
    simp [Ln.ahead] at h
    cases l with
    | none => simp [Ln.gap, gapV]; omega
    | some x =>
      simp only [Ln.gap, gapV]
      split
      · rename_i e
        simp; omega
      · simp; omega
  gap_l := fun {r x lo hi} u h => by
    simp [Ln.beyond] at h
    cases r with
    | none => simp [Ln.gap, gapV]; omega
    | some y =>
      have u := u y rfl
      simp [Kd.lt, prLt] at u
      simp only [Ln.gap, gapV]
      split
      · rename_i e
        simp; omega
      · simp; omega
  gap_at h := by cases h
  gap_to h := by cases h
  gap_in := fun {l r lo hi} h h1 h2 => by
    cases l with
    | none =>
      cases r with
      | none => rfl
      | some y =>
        have a := (h2 y rfl).1
        simp [Ln.ahead] at a
        simp [Ln.gap, gapV]; omega
    | some x =>
      have c := h1 x rfl
      simp [Ln.ahead] at c
      cases r with
      | none => simp [Ln.gap, gapV]; omega
      | some y =>
        have a := (h2 y rfl).1
        simp [Ln.ahead] at a
        have ne : ¬ x.1 = y.1 := by omega
        simp only [Ln.gap, gapV, if_neg ne]
        simp; omega
  gap_on := fun {l r lo hi} h h1 h2 => by
    cases r with
    | none =>
      cases l with
      | none => rfl
      | some y =>
        have a := (h1 y rfl).1
        simp [Ln.beyond] at a
        simp [Ln.gap, gapV]; omega
    | some x =>
      have c := h2 x rfl
      simp [Ln.beyond] at c
      cases l with
      | none => simp [Ln.gap, gapV]; omega
      | some y =>
        have a := (h1 y rfl).1
        simp [Ln.beyond] at a
        have ne : ¬ y.1 = x.1 := by omega
        simp only [Ln.gap, gapV, if_neg ne]
        simp; omega
section
variable {α : Type} [Rg α]
open Kd
theorem lt_asym {a b : α} (h : lt a b = true) : lt b a = false := by
  cases e : lt b a with
  | false => rfl
  | true =>
    have := tran _ _ _ h e
    rw [irr] at this
    cases this
theorem holds_yes {ks : List α} {n : Int} (h : holdsK ks n = true) : ∃ b, Kb.asPt n = some b ∧ b ∈ ks := by
  unfold holdsK at h
  cases e : Kb.asPt (α := α) n with
  | none => rw [e] at h; cases h
  | some b => rw [e] at h; exact ⟨b, rfl, of_decide_eq_true h⟩
theorem holds_no {ks : List α} {n : Int} (h : holdsK ks n = false) {b : α} (e : Kb.asPt n = some b) : ¬ b ∈ ks := by
  unfold holdsK at h
  rw [e] at h
  exact of_decide_eq_false h
theorem holds_of {ks : List α} {n : Int} {b : α} (e : Kb.asPt n = some b) (m : b ∈ ks) : holdsK ks n = true := by
  unfold holdsK
  rw [e]
  exact decide_eq_true m
theorem holds_not {ks : List α} {n : Int} (h : ∀ b, Kb.asPt n = some b → ¬ b ∈ ks) : holdsK ks n = false := by
  unfold holdsK
  cases e : Kb.asPt (α := α) n with
  | none => rfl
  | some b => exact decide_eq_false (h b e)
theorem lastK_most : ∀ {ks : List α} {z : α}, Up ks → ks.getLast? = some z → ∀ y ∈ ks, y = z ∨ lt y z = true
  | [], _, _, h, _, _ => by cases h
  | [a], z, _, h, y, hy => by
    rw [List.mem_singleton.mp hy]
    exact .inl (by simpa using h)
  | a :: b :: r, z, p, h, y, hy => by
    have h2 : (b :: r).getLast? = some z := by rw [List.getLast?_cons_cons] at h; exact h
    have ih := lastK_most (List.pairwise_cons.mp p).2 h2
    rcases List.mem_cons.mp hy with rfl | hy
    · have h3 := (List.pairwise_cons.mp p).1 b List.mem_cons_self
      rcases ih b List.mem_cons_self with e | e
      · rw [← e]; exact .inr h3
      · exact .inr (tran _ _ _ h3 e)
    · exact ih y hy
theorem headK_least {ks : List α} {z : α} (p : Up ks) (h : ks.head? = some z) : ∀ y ∈ ks, y = z ∨ lt z y = true := by
  intro y hy
  cases ks with
  | nil => cases h
  | cons a r =>
    have e : a = z := by simpa using h
    subst e
    rcases List.mem_cons.mp hy with rfl | hy
    · exact .inl rfl
    · exact .inr ((List.pairwise_cons.mp p).1 y hy)
theorem lastF {ks : List α} {c : α → Bool} {z : α} (p : Up ks) (h : (ks.filter c).getLast? = some z) : z ∈ ks ∧ c z = true ∧ ∀ y ∈ ks, c y = true → y = z ∨ lt y z = true := by
  obtain ⟨m, cz⟩ := List.mem_filter.mp (List.mem_of_getLast? h)
  exact ⟨m, cz, fun y hy cy => lastK_most (List.Pairwise.sublist List.filter_sublist p) h y (List.mem_filter.mpr ⟨hy, cy⟩)⟩
theorem headF {ks : List α} {c : α → Bool} {z : α} (p : Up ks) (h : (ks.filter c).head? = some z) : z ∈ ks ∧ c z = true ∧ ∀ y ∈ ks, c y = true → y = z ∨ lt z y = true := by
  obtain ⟨m, cz⟩ := List.mem_filter.mp (List.mem_of_head? h)
  exact ⟨m, cz, fun y hy cy => headK_least (List.Pairwise.sublist List.filter_sublist p) h y (List.mem_filter.mpr ⟨hy, cy⟩)⟩
theorem lastF_none {ks : List α} {c : α → Bool} (h : (ks.filter c).getLast? = none) : ∀ y ∈ ks, c y = false := by
  intro y hy
  have e := List.getLast?_eq_none_iff.mp h
  have := List.filter_eq_nil_iff.mp e y hy
  simpa using this
theorem headF_none {ks : List α} {c : α → Bool} (h : (ks.filter c).head? = none) : ∀ y ∈ ks, c y = false := by
  intro y hy
  have e := List.head?_eq_none_iff.mp h
  have := List.filter_eq_nil_iff.mp e y hy
  simpa using this
/-! ### the first and the last cell that a range meets -/
theorem no_ah {b : α} {n : Int} (e : Kb.asPt n = some b) : Ln.ahead b n = false := by rw [Rg.ah_lt e, irr]
theorem no_by {b : α} {n : Int} (e : Kb.asPt n = some b) : Ln.beyond b n = false := by rw [Rg.by_gt e, irr]
/-- a number of the range that is a point is not beyond it, nor ahead of it -/
theorem at_no_by {b : α} {lo hi : Int} (le : lo ≤ hi) (e : Kb.asPt lo = some b) : Ln.beyond b hi = false := by
  cases h : Ln.beyond b hi with
  | false => rfl
  | true =>
    have := Rg.by_mono le h
    rw [no_by e] at this
    cases this
theorem to_no_ah {b : α} {lo hi : Int} (le : lo ≤ hi) (e : Kb.asPt hi = some b) : Ln.ahead b lo = false := by
  cases h : Ln.ahead b lo with
  | false => rfl
  | true =>
    have := Rg.ah_mono le h
    rw [no_ah e] at this
    cases this
def FirstOk (ks : List α) (l : Option α) (lo : Int) (c : Cell α) : Prop := (∃ b, Kb.asPt lo = some b ∧ b ∈ ks ∧ c = .pt b) ∨ (holdsK ks lo = false ∧ ∃ r, c = .gap (((ks.filter fun a => Ln.ahead a lo).getLast?).or l) r)
theorem first_cell {lo hi : Int} (le : lo ≤ hi) : ∀ (ks : List α) (l : Option α), Up ks → (∀ x, l = some x → Ln.ahead x lo = true) → ∃ c rest, (cellsFrom l ks).filter (meetC lo hi) = c :: rest ∧ FirstOk ks l lo c
  | [], l, _, hl => by
    have g : meetC lo hi (.gap l none) = true := Rg.gap_in le hl (fun y h => by cases h)
    refine ⟨.gap l none, [], ?_, .inr ⟨holds_not fun b _ m => (by cases m), none, rfl⟩⟩
    show List.filter (meetC lo hi) [.gap l none] = _
    rw [List.filter_cons_of_pos g]
    rfl
  | a :: ks, l, u, hl => by
    obtain ⟨u1, u2⟩ := List.pairwise_cons.mp u
    show ∃ c rest, List.filter (meetC lo hi) (.gap l (some a) :: .pt a :: cellsFrom (some a) ks) = c :: rest ∧ _
    cases h : Ln.ahead a lo with
    | true =>
      have g : ¬ meetC lo hi (.gap l (some a)) = true := by
        show ¬ Ln.gap l (some a) lo hi = true
        rw [Rg.gap_r h]; exact Bool.false_ne_true
      have p : ¬ meetC lo hi (.pt a) = true := by
        show ¬ (!Ln.ahead a lo && !Ln.beyond a hi) = true
        rw [h]; exact Bool.false_ne_true
      rw [List.filter_cons_of_neg g, List.filter_cons_of_neg p]
      obtain ⟨c, rest, e, ok⟩ := first_cell le ks (some a) u2 fun x hx => by cases hx; exact h
      refine ⟨c, rest, e, ?_⟩
      rcases ok with ⟨b, hb, m, rfl⟩ | ⟨no, r, rfl⟩
      · exact .inl ⟨b, hb, List.mem_cons_of_mem _ m, rfl⟩
      · refine .inr ⟨holds_not fun b hb m => ?_, r, ?_⟩
        · rcases List.mem_cons.mp m with rfl | m
          · rw [no_ah hb] at h; cases h
          · exact holds_no no hb m
        · rw [List.filter_cons_of_pos (p := fun a => Ln.ahead a lo) h]
          cases q : ks.filter fun a => Ln.ahead a lo with
          | nil => rfl
          | cons x xs => rw [List.getLast?_cons_cons, ← q]; cases z : (ks.filter fun a => Ln.ahead a lo).getLast? with
            | none => rw [q] at z; simp at z
            | some y => rfl
    | false =>
      have none_ah : ∀ y ∈ a :: ks, Ln.ahead y lo = false := fun y hy => by
        rcases List.mem_cons.mp hy with rfl | hy
        · exact h
        · cases e : Ln.ahead y lo with
          | false => rfl
          | true =>
            have := Rg.ah_down (u1 y hy) e
            rw [h] at this
            cases this
      have fl : (a :: ks).filter (fun a => Ln.ahead a lo) = [] := filtK_no none_ah
      by_cases hb : Kb.asPt lo = some a
      · have g : ¬ meetC lo hi (.gap l (some a)) = true := by
          show ¬ Ln.gap l (some a) lo hi = true
          rw [Rg.gap_at hb]; exact Bool.false_ne_true
        have p : meetC lo hi (.pt a) = true := by
          show (!Ln.ahead a lo && !Ln.beyond a hi) = true
          rw [h, at_no_by le hb]; rfl
        rw [List.filter_cons_of_neg g, List.filter_cons_of_pos p]
        exact ⟨_, _, rfl, .inl ⟨a, hb, List.mem_cons_self, rfl⟩⟩
      · have g : meetC lo hi (.gap l (some a)) = true := Rg.gap_in le hl fun y hy => by cases hy; exact ⟨h, hb⟩
        rw [List.filter_cons_of_pos g]
        refine ⟨_, _, rfl, .inr ⟨holds_not fun b hb' m => ?_, some a, ?_⟩⟩
        · rcases List.mem_cons.mp m with rfl | m
          · exact hb hb'
          · have := Rg.ah_lt (a := a) hb'
            rw [h, u1 b m] at this
            cases this
        · rw [fl]
          rfl
theorem none_beyond {lo hi : Int} : ∀ (ks : List α) (x : α), (∀ y ∈ ks, lt x y = true) → Up ks → (Ln.beyond x hi = true ∨ Kb.asPt hi = some x) → (cellsFrom (some x) ks).filter (meetC lo hi) = []
  | [], x, _, _, h => by
    have g : ¬ meetC lo hi (.gap (some x) none) = true := by
      show ¬ Ln.gap (some x) none lo hi = true
      rcases h with h | h
      · rw [Rg.gap_l (fun y hy => by cases hy) h]; exact Bool.false_ne_true
      · rw [Rg.gap_to h]; exact Bool.false_ne_true
    show List.filter (meetC lo hi) [.gap (some x) none] = _
    rw [List.filter_cons_of_neg g]
    rfl
  | a :: ks, x, hx, u, h => by
    obtain ⟨u1, u2⟩ := List.pairwise_cons.mp u
    have xa := hx a List.mem_cons_self
    have g : ¬ meetC lo hi (.gap (some x) (some a)) = true := by
      show ¬ Ln.gap (some x) (some a) lo hi = true
      rcases h with h | h
      · rw [Rg.gap_l (fun y hy => by cases hy; exact xa) h]; exact Bool.false_ne_true
      · rw [Rg.gap_to h]; exact Bool.false_ne_true
    have ba : Ln.beyond a hi = true := by
      rcases h with h | h
      · exact Rg.by_up xa h
      · rw [Rg.by_gt h]; exact xa
    have p : ¬ meetC lo hi (.pt a) = true := by
      show ¬ (!Ln.ahead a lo && !Ln.beyond a hi) = true
      rw [ba, Bool.not_true, Bool.and_false]; exact Bool.false_ne_true
    show List.filter (meetC lo hi) (.gap (some x) (some a) :: .pt a :: cellsFrom (some a) ks) = _
    rw [List.filter_cons_of_neg g, List.filter_cons_of_neg p]
    exact none_beyond ks a u1 u2 (.inl ba)
def LastOk (ks : List α) (hi : Int) (c : Cell α) : Prop := (∃ b, Kb.asPt hi = some b ∧ b ∈ ks ∧ c = .pt b) ∨ (holdsK ks hi = false ∧ ∃ l, c = .gap l ((ks.filter fun a => Ln.beyond a hi).head?))
theorem last_cell {lo hi : Int} (le : lo ≤ hi) : ∀ (ks : List α) (l : Option α), Up ks → (∀ x, l = some x → Ln.beyond x hi = false ∧ Kb.asPt hi ≠ some x) → ∃ c, ((cellsFrom l ks).filter (meetC lo hi)).getLast? = some c ∧ LastOk ks hi c
  | [], l, _, hl => by
    have g : meetC lo hi (.gap l none) = true := Rg.gap_on le hl (fun y h => by cases h)
    refine ⟨.gap l none, ?_, .inr ⟨holds_not fun b _ m => (by cases m), l, rfl⟩⟩
    show (List.filter (meetC lo hi) [.gap l none]).getLast? = _
    rw [List.filter_cons_of_pos g]
    rfl
  | a :: ks, l, u, hl => by
    obtain ⟨u1, u2⟩ := List.pairwise_cons.mp u
    show ∃ c, (List.filter (meetC lo hi) (.gap l (some a) :: .pt a :: cellsFrom (some a) ks)).getLast? = some c ∧ _
    cases h : Ln.beyond a hi with
    | true =>
      have g : meetC lo hi (.gap l (some a)) = true := Rg.gap_on le hl fun y hy => by cases hy; exact h
      have p : ¬ meetC lo hi (.pt a) = true := by
        show ¬ (!Ln.ahead a lo && !Ln.beyond a hi) = true
        rw [h, Bool.not_true, Bool.and_false]; exact Bool.false_ne_true
      rw [List.filter_cons_of_pos g, List.filter_cons_of_neg p, none_beyond ks a u1 u2 (.inl h)]
      refine ⟨_, rfl, .inr ⟨holds_not fun b hb m => ?_, l, ?_⟩⟩
      · have bb : Ln.beyond b hi = true := by
          rcases List.mem_cons.mp m with rfl | m
          · exact h
          · exact Rg.by_up (u1 b m) h
        rw [no_by hb] at bb
        cases bb
      · rw [List.filter_cons_of_pos (p := fun a => Ln.beyond a hi) h]
        rfl
    | false =>
      by_cases hb : Kb.asPt hi = some a
      · have p : meetC lo hi (.pt a) = true := by
          show (!Ln.ahead a lo && !Ln.beyond a hi) = true
          rw [h, to_no_ah le hb]; rfl
        refine ⟨.pt a, ?_, .inl ⟨a, hb, List.mem_cons_self, rfl⟩⟩
        by_cases g : meetC lo hi (.gap l (some a)) = true
        · rw [List.filter_cons_of_pos g, List.filter_cons_of_pos p, none_beyond ks a u1 u2 (.inr hb)]
          rfl
        · rw [List.filter_cons_of_neg g, List.filter_cons_of_pos p, none_beyond ks a u1 u2 (.inr hb)]
          rfl
      · obtain ⟨c, e, ok⟩ := last_cell le ks (some a) u2 fun x hx => by cases hx; exact ⟨h, hb⟩
        refine ⟨c, ?_, ?_⟩
        · have app : (Cell.gap l (some a) :: .pt a :: cellsFrom (some a) ks) = [.gap l (some a), .pt a] ++ cellsFrom (some a) ks := rfl
          rw [app, List.filter_append, List.getLast?_append, e]
          rfl
        · rcases ok with ⟨b, hb', m, rfl⟩ | ⟨no, l', rfl⟩
          · exact .inl ⟨b, hb', List.mem_cons_of_mem _ m, rfl⟩
          · refine .inr ⟨holds_not fun b hb' m => ?_, l', ?_⟩
            · rcases List.mem_cons.mp m with rfl | m
              · exact hb hb'
              · exact holds_no no hb' m
            · rw [List.filter_cons_of_neg (p := fun a => Ln.beyond a hi) (by rw [h]; exact Bool.false_ne_true)]
/-! ### the ends of a reach -/
def LeftIs (ks : List α) (lo : Int) (l : Option α) (h : Bool) : Prop :=
  (∃ b, Kb.asPt lo = some b ∧ b ∈ ks ∧ l = some b ∧ h = true) ∨
  (h = false ∧ (∀ b, Kb.asPt lo = some b → ¬ b ∈ ks) ∧ ((l = none ∧ ∀ y ∈ ks, Ln.ahead y lo = false) ∨ ∃ z, z ∈ ks ∧ l = some z ∧ Ln.ahead z lo = true ∧ ∀ y ∈ ks, Ln.ahead y lo = true → y = z ∨ lt y z = true))
def RightIs (ks : List α) (hi : Int) (r : Option α) (h : Bool) : Prop :=
  (∃ b, Kb.asPt hi = some b ∧ b ∈ ks ∧ r = some b ∧ h = true) ∨
  (h = false ∧ (∀ b, Kb.asPt hi = some b → ¬ b ∈ ks) ∧ ((r = none ∧ ∀ y ∈ ks, Ln.beyond y hi = false) ∨ ∃ z, z ∈ ks ∧ r = some z ∧ Ln.beyond z hi = true ∧ ∀ y ∈ ks, Ln.beyond y hi = true → y = z ∨ lt z y = true))
theorem left_is {ks : List α} (u : Up ks) (lo : Int) : LeftIs ks lo (leftK ks lo) (holdsK ks lo) := by
  cases h : holdsK ks lo with
  | true =>
    obtain ⟨b, e, m⟩ := holds_yes h
    exact .inl ⟨b, e, m, by unfold leftK; rw [if_pos h, e], rfl⟩
  | false =>
    have el : leftK ks lo = (ks.filter fun a => Ln.ahead a lo).getLast? := by unfold leftK; rw [if_neg (by rw [h]; exact Bool.false_ne_true)]
    refine .inr ⟨rfl, fun b e => holds_no h e, ?_⟩
    rw [el]
    cases q : (ks.filter fun a => Ln.ahead a lo).getLast? with
    | none => exact .inl ⟨rfl, lastF_none q⟩
    | some z =>
      obtain ⟨m, c, most⟩ := lastF u q
      exact .inr ⟨z, m, rfl, c, most⟩
theorem right_is {ks : List α} (u : Up ks) (hi : Int) : RightIs ks hi (rightK ks hi) (holdsK ks hi) := by
  cases h : holdsK ks hi with
  | true =>
    obtain ⟨b, e, m⟩ := holds_yes h
    exact .inl ⟨b, e, m, by unfold rightK; rw [if_pos h, e], rfl⟩
  | false =>
    have el : rightK ks hi = (ks.filter fun a => Ln.beyond a hi).head? := by unfold rightK; rw [if_neg (by rw [h]; exact Bool.false_ne_true)]
    refine .inr ⟨rfl, fun b e => holds_no h e, ?_⟩
    rw [el]
    cases q : (ks.filter fun a => Ln.beyond a hi).head? with
    | none => exact .inl ⟨rfl, headF_none q⟩
    | some z =>
      obtain ⟨m, c, least⟩ := headF u q
      exact .inr ⟨z, m, rfl, c, least⟩
/-- a reach is that from the first to the last cell that the range meets -/
theorem reach_first {ks : List α} (u : Up ks) {lo hi : Int} (le : lo ≤ hi) : ∃ c rest, (allC ks).filter (meetC lo hi) = c :: rest ∧ ((∃ b, c = .pt b ∧ leftK ks lo = some b ∧ holdsK ks lo = true) ∨ ∃ r, c = .gap (leftK ks lo) r ∧ holdsK ks lo = false) := by
  obtain ⟨c, rest, e, ok⟩ := first_cell le ks none u (fun x h => by cases h)
  refine ⟨c, rest, e, ?_⟩
  rcases ok with ⟨b, hb, m, rfl⟩ | ⟨no, r, rfl⟩
  · have h := holds_of hb m
    exact .inl ⟨b, rfl, by unfold leftK; rw [if_pos h, hb], h⟩
  · refine .inr ⟨r, ?_, no⟩
    have el : leftK ks lo = (ks.filter fun a => Ln.ahead a lo).getLast? := by unfold leftK; rw [if_neg (by rw [no]; exact Bool.false_ne_true)]
    rw [el]
    cases (ks.filter fun a => Ln.ahead a lo).getLast? <;> rfl
theorem reach_last {ks : List α} (u : Up ks) {lo hi : Int} (le : lo ≤ hi) : ∃ c, ((allC ks).filter (meetC lo hi)).getLast? = some c ∧ ((∃ b, c = .pt b ∧ rightK ks hi = some b ∧ holdsK ks hi = true) ∨ ∃ l, c = .gap l (rightK ks hi) ∧ holdsK ks hi = false) := by
  obtain ⟨c, e, ok⟩ := last_cell le ks none u (fun x h => by cases h)
  refine ⟨c, e, ?_⟩
  rcases ok with ⟨b, hb, m, rfl⟩ | ⟨no, l, rfl⟩
  · have h := holds_of hb m
    exact .inl ⟨b, rfl, by unfold rightK; rw [if_pos h, hb], h⟩
  · refine .inr ⟨l, ?_, no⟩
    have el : rightK ks hi = (ks.filter fun a => Ln.beyond a hi).head? := by unfold rightK; rw [if_neg (by rw [no]; exact Bool.false_ne_true)]
    rw [el]
/-- a standing point within a reach lies in the range -/
theorem held_in {ks : List α} (u : Up ks) {lo hi : Int} {a : α} (m : a ∈ ks) (h : heldK (leftK ks lo) (rightK ks hi) (holdsK ks lo) (holdsK ks hi) a = true) : Ln.ahead a lo = false ∧ Ln.beyond a hi = false := by
  unfold heldK at h
  rw [Bool.and_eq_true] at h
  obtain ⟨h1, h2⟩ := h
  constructor
  · cases e : Ln.ahead a lo with
    | false => rfl
    | true =>
      rcases left_is u lo with ⟨b, hb, mb, el, _⟩ | ⟨eh, no, ⟨el, all⟩ | ⟨z, mz, el, az, most⟩⟩
      · rw [el] at h1
        have : lt a b = true := by rw [← Rg.ah_lt hb]; exact e
        simp [leftOkK, this] at h1
      · rw [all a m] at e; cases e
      · rw [el, eh] at h1
        rcases most a m e with rfl | q
        · simp [leftOkK] at h1
        · simp [leftOkK, q] at h1
  · cases e : Ln.beyond a hi with
    | false => rfl
    | true =>
      rcases right_is u hi with ⟨b, hb, mb, el, _⟩ | ⟨eh, no, ⟨el, all⟩ | ⟨z, mz, el, az, least⟩⟩
      · rw [el] at h2
        have : lt b a = true := by rw [← Rg.by_gt hb]; exact e
        have n1 := lt_asym this
        have n2 : ¬ a = b := fun z => by rw [z, irr] at this; cases this
        simp [rightOkK, n1, n2] at h2
      · rw [all a m] at e; cases e
      · rw [el, eh] at h2
        rcases least a m e with rfl | q
        · simp [rightOkK, irr] at h2
        · simp [rightOkK, lt_asym q] at h2
/-- a reach is a part of another one -/
def partL (l1 : Option α) (h1 : Bool) (l2 : Option α) (h2 : Bool) : Bool := match l2 with
  | none => true
  | some z => match l1 with
    | none => false
    | some y => !(lt y z || (decide (y = z) && (h1 && !h2)))
def partR (r1 : Option α) (h1 : Bool) (r2 : Option α) (h2 : Bool) : Bool := match r2 with
  | none => true
  | some z => match r1 with
    | none => false
    | some y => !(lt z y || (decide (y = z) && (h1 && !h2)))
theorem partL_of {l1 l2 : Option α} {h1 h2 : Bool} (h : ∀ z, l2 = some z → ∃ y, l1 = some y ∧ (lt z y = true ∨ (y = z ∧ (h1 = false ∨ h2 = true)))) : partL l1 h1 l2 h2 = true := by
  cases l2 with
  | none => rfl
  | some z =>
    obtain ⟨y, rfl, q⟩ := h z rfl
    rcases q with q | ⟨rfl, q⟩
    · have n : ¬ y = z := fun e => by rw [e, irr] at q; cases q
      simp [partL, lt_asym q, n]
    · rcases q with rfl | rfl <;> simp [partL, irr]
theorem partR_of {l1 l2 : Option α} {h1 h2 : Bool} (h : ∀ z, l2 = some z → ∃ y, l1 = some y ∧ (lt y z = true ∨ (y = z ∧ (h1 = false ∨ h2 = true)))) : partR l1 h1 l2 h2 = true := by
  cases l2 with
  | none => rfl
  | some z =>
    obtain ⟨y, rfl, q⟩ := h z rfl
    rcases q with q | ⟨rfl, q⟩
    · have n : ¬ y = z := fun e => by rw [e, irr] at q; cases q
      simp [partR, lt_asym q, n]
    · rcases q with rfl | rfl <;> simp [partR, irr]
/-- more points stand, a lesser range: the reach is a part -/
theorem part_left {k1 k2 : List α} (u1 : Up k1) (u2 : Up k2) {lo lo' : Int} (le : lo' ≤ lo) (sub : ∀ a ∈ k2, a ∈ k1) : partL (leftK k1 lo) (holdsK k1 lo) (leftK k2 lo') (holdsK k2 lo') = true := by
  refine partL_of fun z hz => ?_
  -- z stands, and is ahead of lo or its point
  have zs : z ∈ k1 ∧ (Ln.ahead z lo = true ∨ (Kb.asPt lo = some z ∧ holdsK k2 lo' = true)) := by
    rcases left_is u2 lo' with ⟨b, hb, mb, el, eh⟩ | ⟨eh, no, ⟨el, all⟩ | ⟨y, my, el, ay, most⟩⟩
    · rw [el] at hz
      cases hz
      refine ⟨sub _ mb, ?_⟩
      rcases Int.lt_or_eq_of_le le with l | rfl
      · left
        have s := Rg.as_all (α := α) lo' lo
        rw [hb] at s
        cases e : Kb.asPt (α := α) lo with
        | none => rw [e] at s; cases s
        | some c => rw [Rg.ah_lt e]; exact Rg.as_lt l hb e
      · exact .inr ⟨hb, eh⟩
    · rw [el] at hz; cases hz
    · rw [el] at hz
      cases hz
      exact ⟨sub _ my, .inl (Rg.ah_mono le ay)⟩
  obtain ⟨mz, zs⟩ := zs
  rcases left_is u1 lo with ⟨b, hb, mb, el, eh⟩ | ⟨eh, no, ⟨el, all⟩ | ⟨y, my, el, ay, most⟩⟩
  · refine ⟨b, el, ?_⟩
    rcases zs with a | ⟨e, h⟩
    · left
      rw [← Rg.ah_lt hb]
      exact a
    · rw [hb] at e
      cases e
      exact .inr ⟨rfl, .inr h⟩
  · rcases zs with a | ⟨e, h⟩
    · rw [all z mz] at a; cases a
    · exact absurd mz (no z e)
  · refine ⟨y, el, ?_⟩
    rcases zs with a | ⟨e, h⟩
    · rcases most z mz a with rfl | q
      · exact .inr ⟨rfl, .inl eh⟩
      · exact .inl q
    · exact absurd mz (no z e)
theorem part_right {k1 k2 : List α} (u1 : Up k1) (u2 : Up k2) {hi hi' : Int} (le : hi ≤ hi') (sub : ∀ a ∈ k2, a ∈ k1) : partR (rightK k1 hi) (holdsK k1 hi) (rightK k2 hi') (holdsK k2 hi') = true := by
  refine partR_of fun z hz => ?_
  have zs : z ∈ k1 ∧ (Ln.beyond z hi = true ∨ (Kb.asPt hi = some z ∧ holdsK k2 hi' = true)) := by
    rcases right_is u2 hi' with ⟨b, hb, mb, el, eh⟩ | ⟨eh, no, ⟨el, all⟩ | ⟨y, my, el, ay, most⟩⟩
    · rw [el] at hz
      cases hz
      refine ⟨sub _ mb, ?_⟩
      rcases Int.lt_or_eq_of_le le with l | rfl
      · left
        have s := Rg.as_all (α := α) hi' hi
        rw [hb] at s
        cases e : Kb.asPt (α := α) hi with
        | none => rw [e] at s; cases s
        | some c => rw [Rg.by_gt e]; exact Rg.as_lt l e hb
      · exact .inr ⟨hb, eh⟩
    · rw [el] at hz; cases hz
    · rw [el] at hz
      cases hz
      exact ⟨sub _ my, .inl (Rg.by_mono le ay)⟩
  obtain ⟨mz, zs⟩ := zs
  rcases right_is u1 hi with ⟨b, hb, mb, el, eh⟩ | ⟨eh, no, ⟨el, all⟩ | ⟨y, my, el, ay, most⟩⟩
  · refine ⟨b, el, ?_⟩
    rcases zs with a | ⟨e, h⟩
    · left
      rw [← Rg.by_gt hb]
      exact a
    · rw [hb] at e
      cases e
      exact .inr ⟨rfl, .inr h⟩
  · rcases zs with a | ⟨e, h⟩
    · rw [all z mz] at a; cases a
    · exact absurd mz (no z e)
  · refine ⟨y, el, ?_⟩
    rcases zs with a | ⟨e, h⟩
    · rcases most z mz a with rfl | q
      · exact .inr ⟨rfl, .inl eh⟩
      · exact .inl q
    · exact absurd mz (no z e)
end
/-! ### a point more, a point less -/
section
variable {α : Type} [Ln α]
open Kd
theorem with_mem {as : List α} {x : α} (up : Up as) : ∀ y, y ∈ withK as x ↔ y ∈ as ∨ y = x := by
  intro y
  unfold withK
  rw [List.mem_append, List.mem_cons]
  constructor
  · rintro (h | rfl | h)
    · exact .inl (List.mem_of_mem_take h)
    · exact .inr rfl
    · exact .inl (List.mem_of_mem_drop h)
  · rintro (h | rfl)
    · obtain ⟨i, hi⟩ := List.getElem?_of_mem h
      by_cases c : i < lessK as x
      · exact .inl (List.mem_of_getElem? (i := i) (by rw [List.getElem?_take_of_lt c]; exact hi))
      · by_cases m : x ∈ as
        · have ex := at_less up m
          by_cases e : i = lessK as x
          · subst e
            rw [ex] at hi
            exact .inr (.inl (Option.some.inj hi).symm)
          · refine .inr (.inr (List.mem_of_getElem? (i := i - (lessK as x + 1)) ?_))
            rw [if_pos m, List.getElem?_drop, show lessK as x + 1 + (i - (lessK as x + 1)) = i by omega]
            exact hi
        · refine .inr (.inr (List.mem_of_getElem? (i := i - lessK as x) ?_))
          rw [if_neg m, Nat.add_zero, List.getElem?_drop, show lessK as x + (i - lessK as x) = i by omega]
          exact hi
    · exact .inr (.inl rfl)
theorem with_up {as : List α} {x : α} (up : Up as) : Up (withK as x) := by
  unfold withK Up
  have h1 : ∀ y ∈ as.take (lessK as x), lt y x = true := fun y hy => by
    rw [take_less up] at hy
    exact (List.mem_filter.mp hy).2
  have h2 : ∀ y ∈ as.drop (lessK as x + (if x ∈ as then 1 else 0)), lt x y = true := fun y hy => by
    obtain ⟨j, hj⟩ := List.getElem?_of_mem hy
    rw [List.getElem?_drop] at hj
    have lj := (List.getElem?_eq_some_iff.mp hj).1
    have ge : ¬ lt y x = true := fun z => by
      have := (lessK_get up hj).mpr z
      omega
    have ne : y ≠ x := fun e => by
      subst e
      have l := less_at up hj
      have m : y ∈ as := List.mem_of_getElem? hj
      rw [if_pos m] at l
      omega
    rcases tri y x ne with z | z
    · exact absurd z ge
    · exact z
  rw [List.pairwise_append]
  refine ⟨List.Pairwise.sublist (List.take_sublist _ _) up, List.pairwise_cons.mpr ⟨h2, List.Pairwise.sublist (List.drop_sublist _ _) up⟩, fun a ha b hb => ?_⟩
  rcases List.mem_cons.mp hb with rfl | hb
  · exact h1 a ha
  · exact tran _ _ _ (h1 a ha) (h2 b hb)
theorem without_mem {as : List α} {x : α} : ∀ y, y ∈ withoutK as x ↔ y ∈ as ∧ y ≠ x := by
  intro y
  unfold withoutK
  rw [List.mem_filter]
  simp
theorem without_up {as : List α} {x : α} (up : Up as) : Up (withoutK as x) := List.Pairwise.sublist List.filter_sublist up
/-- ascending lists with the same things are the same -/
theorem up_ext : ∀ {as bs : List α}, Up as → Up bs → (∀ x, x ∈ as ↔ x ∈ bs) → as = bs
  | [], [], _, _, _ => rfl
  | [], b :: bs, _, _, h => by have := (h b).mpr List.mem_cons_self; cases this
  | a :: as, [], _, _, h => by have := (h a).mp List.mem_cons_self; cases this
  | a :: as, b :: bs, ua, ub, h => by
    obtain ⟨a1, a2⟩ := List.pairwise_cons.mp ua
    obtain ⟨b1, b2⟩ := List.pairwise_cons.mp ub
    have e : a = b := by
      rcases List.mem_cons.mp ((h a).mp List.mem_cons_self) with e | m
      · exact e
      · rcases List.mem_cons.mp ((h b).mpr List.mem_cons_self) with e | m2
        · exact e.symm
        · have := tran _ _ _ (b1 a m) (a1 b m2)
          rw [irr] at this
          cases this
    subst e
    rw [up_ext a2 b2 fun x => ?_]
    constructor
    · intro m
      rcases List.mem_cons.mp ((h x).mp (List.mem_cons_of_mem _ m)) with rfl | z
      · have := a1 x m
        rw [irr] at this
        cases this
      · exact z
    · intro m
      rcases List.mem_cons.mp ((h x).mpr (List.mem_cons_of_mem _ m)) with rfl | z
      · have := b1 x m
        rw [irr] at this
        cases this
      · exact z
end
section
variable {α : Type} [Rg α]
open Kd
/-- one after another taken away -/
theorem without_all : ∀ (ss as : List α), ss.foldl withoutK as = keptK as ss
  | [], as => by
    show as = as.filter _
    rw [List.filter_eq_self.mpr]
    intro a _
    simp
  | s :: ss, as => by
    rw [List.foldl_cons, without_all ss]
    unfold keptK withoutK
    rw [List.filter_filter]
    refine List.filter_congr fun a _ => ?_
    simp only [List.mem_cons]
    by_cases h1 : a = s <;> by_cases h2 : a ∈ ss <;> simp [h1, h2]
end
end Gx

/-! repr of any data: None, bools, ints, texts, lists, tuples -/
namespace Gx
open PySem L2 PySem.Spec PyProof.Rows
def rReprV (K : PySem.W.Frag) : List V → Hp → VK → Prop := fun xs H Q => ∃ x d, xs = [x] ∧ Dp K H x d ∧ SeqAt.shaped d = true ∧ d.showable = true ∧ d.shown.length ≤ sizeLine ∧ Q (.str d.shown) H
theorem cr_reprV {X : Cx} {j : Nat} (gd : X.A.guards = some []) (hr : Room j X.A) : CallR X (.builtin "repr") (rReprV X.K) := by
  intro pins s σ H xs us Q I rel h
  obtain ⟨x, d, rfl, dp, sh, sw, sz, q⟩ := h
  have old := cr_repr (X := X) gd hr
  cases dp with
  | lst a b => exact old pins s σ H _ us Q I rel ⟨_, _, rfl, .lst a b, sh, sw, sz, q⟩
  | tup a b => exact old pins s σ H _ us Q I rel ⟨_, _, rfl, .tup a b, sh, sw, sz, q⟩
  | non =>
    cases rel with
    | cons r1 r2 =>
      cases r2
      cases r1
      exact PySem.P.repr_of_none ⟨.str _, H, I.tok _, ⟨_, rfl⟩, q⟩
  | bl b =>
    cases rel with
    | cons r1 r2 =>
      cases r2
      cases r1
      refine PySem.P.repr_of_bool ⟨.str _, H, I.tok _, ⟨_, rfl⟩, ?_⟩
      cases b <;> exact q
  | int i =>
    cases rel with
    | cons r1 r2 =>
      cases r2
      obtain ⟨t, rfl⟩ := r1
      exact PySem.P.repr_of_int (by simpa [PyData.showable] using sw) ⟨.str _, H, I.tok _, ⟨_, rfl⟩, q⟩
  | str x =>
    cases rel with
    | cons r1 r2 =>
      cases r2
      obtain ⟨t, rfl⟩ := r1
      exact PySem.P.repr_of_str ⟨.str _, H, I.tok _, ⟨_, rfl⟩, q⟩ sz
theorem g_reprV {K : PySem.W.Frag} {H : Hp} {Q : VK} {x : V} {d : PyData} {n m : Nat} (h : Dp K H x d) (f : Fine n m d) (hn : n ≤ 64) (hm : m ≤ 100000) (q : Q (.str d.shown) H) : rReprV K [x] H Q := ⟨x, d, rfl, h, f.shaped hn, small_show d f.sm, f.text hm, q⟩
end Gx

/-! Joins of statements; two promises of a guarded def as one; what a reach shows -/
namespace Gx
open PySem L2
theorem g_cutS {t : TS} {D : Ends} {σ : L2.St} {H : Hp} (N : L2.St → Hp → Prop) (h : ∀ D' : Ends, D'.rt = D.rt → (∀ σ' H', N σ' H' → D'.nx σ' H') → t D' σ H) (q : ∀ σ' H', N σ' H' → D.nx σ' H') : t D σ H := h D rfl q
section
variable {P : Program} {w : World} {K : PySem.W.Frag} {mg : Str → Option Value} {base : Heap}
def spOr (s1 s2 : Sp) : Sp := fun vs H Q E => s1 vs H Q E ∨ s2 vs H Q E
theorem fnG_or {k : Nat} {f : Addr} {fd : FuncData} {ps : List Str} {s1 s2 : Sp} (F1 : FnG P w K mg base k f fd ps s1) (F2 : FnG P w K mg base k f fd ps s2) : FnG P w K mg base k f fd ps (spOr s1 s2) := by
  refine ⟨fun vs H Q E h => ?_, fun A outer s H args us vs Q E gd hr he hb hv h => ?_⟩
  · rcases h with h | h
    · exact F1.size _ _ _ _ h
    · exact F2.size _ _ _ _ h
  · rcases h with h | h
    · exact F1.goes A outer s H args us vs Q E gd hr he hb hv h
    · exact F2.goes A outer s H args us vs Q E gd hr he hb hv h
end
section
variable {α : Type} [Rg α]
open Kd
theorem leftK_mem {ks : List α} (u : Up ks) {lo : Int} {a : α} (h : leftK ks lo = some a) : a ∈ ks := by
  rcases left_is u lo with ⟨b, hb, m, el, _⟩ | ⟨_, _, ⟨el, _⟩ | ⟨z, m, el, _⟩⟩
  · rw [el] at h; cases h; exact m
  · rw [el] at h; cases h
  · rw [el] at h; cases h; exact m
theorem rightK_mem {ks : List α} (u : Up ks) {hi : Int} {a : α} (h : rightK ks hi = some a) : a ∈ ks := by
  rcases right_is u hi with ⟨b, hb, m, el, _⟩ | ⟨_, _, ⟨el, _⟩ | ⟨z, m, el, _⟩⟩
  · rw [el] at h; cases h; exact m
  · rw [el] at h; cases h
  · rw [el] at h; cases h; exact m
theorem fine_reachK {ks : List α} (u : Up ks) (f : ∀ a ∈ ks, Fine 1 3 (D a)) (lo hi : Int) : Fine 2 13 (reachK ks lo hi) := by
  refine fine_tuple (n := 1) (m := 3) (xs := [_, _, _, _]) fun x hx => ?_
  rcases List.mem_cons.mp hx with rfl | hx
  · exact fine_oP fun a e => f a (leftK_mem u e)
  rcases List.mem_cons.mp hx with rfl | hx
  · exact fine_oP fun a e => f a (rightK_mem u e)
  rcases List.mem_cons.mp hx with rfl | hx
  · exact (fine_bool (n := 0) _).mono (by decide) (by decide)
  rcases List.mem_cons.mp hx with rfl | hx
  · exact (fine_bool (n := 0) _).mono (by decide) (by decide)
  · cases hx
end
theorem srt_len {ms ns : List Int} (p : ms.Perm ns) (h : ns.length = 4) (u : ms.Pairwise (· ≤ ·)) : ∃ a b c d, ms = [a, b, c, d] ∧ a ≤ b ∧ b ≤ c ∧ c ≤ d := by
  have l := p.length_eq
  rw [h] at l
  match ms, l with
  | [a, b, c, d], _ =>
    obtain ⟨u1, u2⟩ := List.pairwise_cons.mp u
    obtain ⟨u2, u3⟩ := List.pairwise_cons.mp u2
    obtain ⟨u3, _⟩ := List.pairwise_cons.mp u3
    exact ⟨a, b, c, d, rfl, u1 b List.mem_cons_self, u2 c List.mem_cons_self, u3 d List.mem_cons_self⟩
theorem srt_len3 {ms ns : List Int} (p : ms.Perm ns) (h : ns.length = 3) (u : ms.Pairwise (· ≤ ·)) : ∃ a b c, ms = [a, b, c] ∧ a ≤ b ∧ b ≤ c := by
  have l := p.length_eq
  rw [h] at l
  match ms, l with
  | [a, b, c], _ =>
    obtain ⟨u1, u2⟩ := List.pairwise_cons.mp u
    obtain ⟨u2, _⟩ := List.pairwise_cons.mp u2
    exact ⟨a, b, c, rfl, u1 b List.mem_cons_self, u2 c List.mem_cons_self⟩
end Gx

/-! Lists of data of any kind: compared, searched, filtered, joined, gone through -/
namespace Gx
open PySem L2 PySem.Spec PyProof.Rows
/-- a kind of data -/
class Da (β : Type) where
  dec : DecidableEq β
  D : β → PyData
  inj : ∀ a b, D a = D b → a = b
  bar : ∀ a, bare (D a) = true
  lay : ∀ a, (D a).canLay0 = true
  dep : ∀ a, (D a).depth ≤ 8
  nol : ∀ a, noLst (D a) = true
def cellDec {α : Type} [Kd α] : DecidableEq (Cell α)
  | .gap a b, .gap c d => if h : a = c ∧ b = d then .isTrue (by rw [h.1, h.2]) else .isFalse (by rintro e; cases e; exact h ⟨rfl, rfl⟩)
  | .pt a, .pt b => if h : a = b then .isTrue (by rw [h]) else .isFalse (by rintro e; cases e; exact h rfl)
  | .gap _ _, .pt _ => .isFalse nofun
  | .pt _, .gap _ _ => .isFalse nofun
instance {α : Type} [Kd α] : DecidableEq (Cell α) := cellDec
section
variable {α : Type} [Ln α]
theorem oK_injC {o o' : Option α} (h : (oK o : PyData) = oK o') : o = o' := by
  cases o with
  | none =>
    cases o' with
    | none => rfl
    | some b => exact absurd h.symm (Kd.nn b)
  | some a =>
    cases o' with
    | none => exact absurd h (Kd.nn a)
    | some b => rw [Kd.inj a b h]
theorem bare_o (o : Option α) : bare (oK o) = true := by
  cases o with
  | none => simp [oK, bare]
  | some a => exact Kd.bar a
theorem lay_o (o : Option α) : (oK o).canLay0 = true := by
  cases o with
  | none => simp [oK, PyData.canLay0]
  | some a => exact Kd.lay a
theorem dep_o (o : Option α) : (oK o).depth ≤ 1 := by
  cases o with
  | none => simp [oK, PyData.depth]
  | some a => exact Kd.dep a
instance : Da (Cell α) where
  dec := cellDec
  D := cellD
  inj a b h := by
    cases a with
    | gap l r =>
      cases b with
      | gap l' r' =>
        simp only [cellD, gapK, PyData.tuple.injEq, List.cons.injEq] at h
        rw [oK_injC h.2.1, oK_injC h.2.2.1]
      | pt b => simp [cellD, gapK, pointK] at h
    | pt a =>
      cases b with
      | gap l' r' => simp [cellD, gapK, pointK] at h
      | pt b =>
        simp only [cellD, pointK, PyData.tuple.injEq, List.cons.injEq] at h
        rw [Kd.inj a b h.2.1]
  bar a := by
    cases a with
    | gap l r => simp [cellD, gapK, bare, bareAll, bare_o]
    | pt a => simp [cellD, pointK, bare, bareAll, Kd.bar]
  lay a := by
    cases a with
    | gap l r => simp [cellD, gapK, PyData.canLay0, PyData.canLayAll0, lay_o]; decide +kernel
    | pt a => simp [cellD, pointK, PyData.canLay0, PyData.canLayAll0, Kd.lay]; decide +kernel
  dep a := by
    cases a with
    | gap l r =>
      have h1 := dep_o l
      have h2 := dep_o r
      simp only [cellD, gapK, PyData.depth, PyData.depthAll]
      omega
    | pt a =>
      have h1 := Kd.dep a
      simp only [cellD, pointK, PyData.depth, PyData.depthAll]
      omega
  nol := nol_cellD
end
section
variable {β : Type} [Da β] {K : PySem.W.Frag} {H H' : Hp} {Q : VK}
open Da
instance daDec : DecidableEq β := Da.dec
theorem da_eqv (a b : β) : PyData.eqv (D a) (D b) = decide (a = b) := by
  by_cases h : a = b
  · rw [decide_eq_true h, eqv_yes (bar a) (bar b) (by rw [h])]
  · rw [decide_eq_false h, eqv_no (bar a) (bar b) fun z => h (inj a b z)]
theorem da_shape (a : β) : SeqAt.shaped (D a) = true := by
  have h := dep a
  have h2 : (D a).depth ≤ 64 := by omega
  unfold SeqAt.shaped
  rw [lay a, decide_eq_true h2] <;> rfl
theorem da_lays (as : List β) : PyData.canLayAll0 (as.map D) = true := by
  induction as with
  | nil => simp [PyData.canLayAll0]
  | cons a as ih => simp [PyData.canLayAll0, lay a, ih]
theorem da_shapes (as : List β) : SeqAt.shaped (.list (as.map D)) = true := by
  unfold SeqAt.shaped
  have h2 : PyData.depthAll (as.map D) ≤ 8 := depthAll_le fun x hx => by
    obtain ⟨n, _, rfl⟩ := List.mem_map.mp hx
    exact dep n
  have h3 : PyData.depthAll (as.map D) + 1 ≤ 64 := by omega
  simp [PyData.canLay0, PyData.depth, da_lays as, h3]
theorem da_bares (as : List β) : bare (.list (as.map D)) = true := by
  simp only [bare]
  exact bareAll_iff.mpr fun x hx => by
    obtain ⟨n, _, rfl⟩ := List.mem_map.mp hx
    exact bar n
theorem da_injs : ∀ {as bs : List β}, as.map D = bs.map D → as = bs
  | [], [], _ => rfl
  | [], _ :: _, h => by simp at h
  | _ :: _, [], h => by simp at h
  | a :: as, b :: bs, h => by
    rw [List.map_cons, List.map_cons] at h
    injection h with h1 h2
    rw [inj a b h1, da_injs h2]
theorem da_eqvs (as bs : List β) : PyData.eqv (.list (as.map D)) (.list (bs.map D)) = decide (as = bs) := by
  by_cases h : as = bs
  · rw [decide_eq_true h, eqv_yes (da_bares _) (da_bares _) (by rw [h])]
  · rw [decide_eq_false h, eqv_no (da_bares _) (da_bares _) fun z => h (da_injs (by injection z))]
theorem da_nols (as : List β) : noLstAll (as.map D) = true := noLstAll_iff.mpr fun d hd => by
  obtain ⟨n, _, rfl⟩ := List.mem_map.mp hd
  exact nol n
theorem da_any (as : List β) (a : β) : ((as.map D).any fun z => PyData.eqv z (D a)) = decide (a ∈ as) := by
  rw [List.any_map]
  induction as with
  | nil => simp
  | cons b as ih =>
    rw [List.any_cons, ih]
    show (PyData.eqv (D b) (D a) || _) = _
    rw [da_eqv]
    by_cases h : b = a
    · subst h
      simp
    · have h2 : ¬ a = b := fun z => h z.symm
      simp [h, h2]
/-- a list of such data in the heap -/
def DtL (K : PySem.W.Frag) (H : Hp) (p : Addr) (as : List β) : Prop := ∃ xs, H p = some (.lst xs) ∧ DpAll K H xs (as.map D)
theorem DtL.same {p : Addr} {as : List β} (h : DtL K H p as) (s : Same H H') : DtL K H' p as := by
  obtain ⟨xs, e, d⟩ := h
  exact ⟨xs, s _ _ e, dp_sameAll s _ _ d⟩
theorem DtL.dp {p : Addr} {as : List β} (h : DtL K H p as) : Dp K H (.ref p) (.list (as.map D)) := by
  obtain ⟨xs, e, d⟩ := h
  exact .lst (SqL.of e) d
theorem dts_len {xs : List V} {as : List β} (d : DpAll K H xs (as.map D)) : xs.length = as.length := by rw [dpAll_len d, List.length_map]
theorem dts_at {xs : List V} {as : List β} {i : Nat} {x : V} (d : DpAll K H xs (as.map D)) (h : xs[i]? = some x) : ∃ b, as[i]? = some b ∧ Dp K H x (D b) := datas_at d h
theorem g_eqL {p q : Addr} {as bs : List β} (h1 : DtL K H p as) (h2 : DtL K H q bs) (k : Q (.bl (decide (as = bs))) H) : rEqD K (.ref p) (.ref q) H Q := by
  refine g_eqD h1.dp h2.dp (da_shapes _) (da_shapes _) ?_
  rw [da_eqvs]
  exact k
theorem g_neL {p q : Addr} {as bs : List β} (h1 : DtL K H p as) (h2 : DtL K H q bs) (k : Q (.bl (!decide (as = bs))) H) : rNeD K (.ref p) (.ref q) H Q := by
  refine g_neD h1.dp h2.dp (da_shapes _) (da_shapes _) ?_
  rw [da_eqvs]
  exact k
theorem g_eqNilL {p q : Addr} {as : List β} (h1 : DtL K H p as) (e : H q = some (.lst [])) (k : Q (.bl (decide (as = []))) H) : rEqD K (.ref p) (.ref q) H Q := g_eqL h1 ⟨[], e, .nil⟩ k
theorem g_neNilL {p q : Addr} {as : List β} (h1 : DtL K H p as) (e : H q = some (.lst [])) (k : Q (.bl (!decide (as = []))) H) : rNeD K (.ref p) (.ref q) H Q := g_neL h1 ⟨[], e, .nil⟩ k
theorem g_eqV {x y : V} {a b : β} (h1 : Dp K H x (D a)) (h2 : Dp K H y (D b)) (k : Q (.bl (decide (a = b))) H) : rEqD K x y H Q := by
  refine g_eqD h1 h2 (da_shape _) (da_shape _) ?_
  rw [da_eqv]
  exact k
theorem g_neV {x y : V} {a b : β} (h1 : Dp K H x (D a)) (h2 : Dp K H y (D b)) (k : Q (.bl (!decide (a = b))) H) : rNeD K x y H Q := by
  refine g_neD h1 h2 (da_shape _) (da_shape _) ?_
  rw [da_eqv]
  exact k
theorem g_inL {x : V} {p : Addr} {a : β} {as : List β} (h1 : Dp K H x (D a)) (h2 : DtL K H p as) (k : Q (.bl (decide (a ∈ as))) H) : rInDL K false x (.ref p) H Q := by
  refine ⟨_, _, h1, h2.dp, da_shape a, da_shapes as, Nat.le_trans (dep a) (by decide), ?_⟩
  rw [if_neg (by decide), da_any]
  exact k
theorem g_notInL {x : V} {p : Addr} {a : β} {as : List β} (h1 : Dp K H x (D a)) (h2 : DtL K H p as) (k : Q (.bl (!decide (a ∈ as))) H) : rInDL K true x (.ref p) H Q := by
  refine ⟨_, _, h1, h2.dp, da_shape a, da_shapes as, Nat.le_trans (dep a) (by decide), ?_⟩
  rw [if_pos rfl, da_any]
  exact k
theorem g_catL {l b : Addr} {as bs : List β} (h1 : DtL K H l as) (h2 : DtL K H b bs) (hl : as.length + bs.length ≤ 100000) (k : ∀ p H', H p = none → Same H H' → DtL K H' p (as ++ bs) → Q (.ref p) H') : rCat (.ref l) (.ref b) H Q := by
  obtain ⟨xs, e1, d1⟩ := h1
  obtain ⟨ys, e2, d2⟩ := h2
  have l1 := dts_len d1
  have l2 := dts_len d2
  refine g_cat e1 e2 (by omega) fun p H' hp S e => k p H' hp S ⟨_, e, ?_⟩
  rw [List.map_append]
  exact dpAll_append (dp_sameAll S _ _ d1) (dp_sameAll S _ _ d2)
variable {H1 : Hp} {σ : L2.St} {te : TE} {tt : TT} {g : TG} {vs : List Nat}
/-- those of a list that pass a test -/
theorem lc_filtL {p : Addr} {as : List β} (h : DtL K H1 p as) (hn : as.length ≤ 100000) (c : β → Bool)
    (turn : ∀ (x : V) (b : β) H' (Nx : V → Hp → Prop) (No : Hp → Prop), b ∈ as → Dp K H' x (D b) → Same H1 H' → (∀ H4, Same H' H4 → c b = true → Nx x H4) → (∀ H4, Same H' H4 → c b = false → No H4) →
      g x (wipe σ vs) H' fun σ2 H2 => wipe σ2 vs = wipe σ vs ∧ tt σ2 H2 fun b H3 => if b = true then te σ2 H3 Nx else No H3)
    (done : ∀ p H', H1 p = none → Same H1 H' → DtL K H' p (as.filter c) → Q (.ref p) H') : (∃ xs, SqL K H1 p xs) ∧ LC g tt te vs (Itl K p) σ H1 Q := by
  obtain ⟨xs, e, d⟩ := h
  have ln := dts_len d
  exact ⟨⟨_, SqL.of e⟩, lc_filtD D nol (SqL.of e) d (by omega) c turn fun p acc H' h1 s e2 d2 => done p H' h1 s ⟨acc, e2, d2⟩⟩
/-- .. something of each that passes -/
theorem lc_someL {γ : Type} [Da γ] {p : Addr} {as : List β} (h : DtL K H1 p as) (hn : as.length ≤ 100000) (f : β → Option γ)
    (turn : ∀ (x : V) (b : β) H' (Nx : V → Hp → Prop) (No : Hp → Prop), b ∈ as → Dp K H' x (D b) → Same H1 H' → (∀ y c H4, Same H' H4 → f b = some c → Dp K H4 y (D c) → Nx y H4) → (∀ H4, Same H' H4 → f b = none → No H4) →
      g x (wipe σ vs) H' fun σ2 H2 => wipe σ2 vs = wipe σ vs ∧ tt σ2 H2 fun b H3 => if b = true then te σ2 H3 Nx else No H3)
    (done : ∀ p H', H1 p = none → Same H1 H' → DtL K H' p (as.filterMap f) → Q (.ref p) H') : (∃ xs, SqL K H1 p xs) ∧ LC g tt te vs (Itl K p) σ H1 Q := by
  obtain ⟨xs, e, d⟩ := h
  have ln := dts_len d
  refine ⟨⟨_, SqL.of e⟩, lc_src (n := xs.length) (src_list (SqL.of e)) (by omega) (fun i acc H' => DpAll K H' acc (((as.take i).filterMap f).map D)) (fun _ _ _ _ _ _ e _ _ b a => dp_butAll e b _ _ (da_nols _) a) (fun _ _ => .nil) (fun i x acc H' Nx No lt s it a hl k1 k2 => ?_) fun p acc H' h1 s e a _ => done p H' h1 s ⟨acc, e, by rw [ln, List.take_length] at a; exact a⟩⟩
  obtain ⟨b, hb, hx⟩ := dts_at (dp_sameAll s _ _ d) it
  have tk : as.take (i + 1) = as.take i ++ [b] := by
    rw [List.take_succ, hb]
    rfl
  refine turn x b H' Nx No (List.mem_of_getElem? hb) hx s (fun y c H4 s4 h hy => k1 y H4 s4 ?_) (fun H4 s4 h => k2 H4 s4 ?_)
  · rw [tk, List.filterMap_append, List.map_append]
    simp only [List.filterMap_cons, h, List.filterMap_nil, List.map_cons, List.map_nil]
    exact dpAll_append (dp_sameAll s4 _ _ a) (.cons hy .nil)
  · rw [tk, List.filterMap_append, List.map_append]
    simp only [List.filterMap_cons, h, List.filterMap_nil, List.map_nil, List.append_nil]
    exact dp_sameAll s4 _ _ a
theorem fw_dts {p : Addr} {as : List β} {tb : TS} {D' : Ends} (h : DtL K H p as) (Pv : Nat → L2.St → Hp → Prop) (sm : ∀ i σ H', Pv i σ H' → Same H H') (h0 : Pv 0 σ H)
    (hs : ∀ i x (a : β) σ H', as[i]? = some a → Pv i σ H' → Dp K H' x (D a) → g x σ H' fun σ2 H2 => tb { D' with nx := Pv (i + 1), ct := Pv (i + 1), bk := D'.nx } σ2 H2) (hd : ∀ σ H', Pv as.length σ H' → D'.nx σ H') : FW g tb D' (Itl K p) σ H := by
  obtain ⟨xs, e, d⟩ := h
  have ln := dts_len d
  refine fw_list (xs := xs) Pv h0 (fun i σ H' _ pv => SqL.of (sm i σ H' pv _ _ e)) (fun i x σ H' hx pv => ?_) (fun σ H' pv => hd σ H' (by rw [ln] at pv; exact pv))
  obtain ⟨a, ha, dx⟩ := dts_at (dp_sameAll (sm i σ H' pv) _ _ d) hx
  exact hs i x a σ H' ha pv dx
/-- an item, the last item -/
theorem g_ixD {q : Addr} {as : List β} {i : Int} (h : DtL K H q as) (h0 : 0 ≤ i) (h1 : i < as.length) (k : ∀ v a, as[i.toNat]? = some a → Dp K H v (D a) → Q v H) : rIxL K (.ref q) (.int i) H Q := by
  obtain ⟨xs, e, d⟩ := h
  have len := dts_len d
  have hj : i.toNat < xs.length := by omega
  have ei : ((i.toNat : Nat) : Int) = i := by omega
  have z := atI_nat (List.getElem?_eq_getElem hj)
  rw [ei] at z
  obtain ⟨a, ha, dx⟩ := dts_at d (List.getElem?_eq_getElem hj)
  exact ⟨q, xs, i, _, rfl, rfl, SqL.of e, z, k _ a ha dx⟩
theorem g_endD {q : Addr} {as : List β} {a : β} (h : DtL K H q as) (e : as.getLast? = some a) (k : ∀ v, Dp K H v (D a) → Q v H) : rIxL K (.ref q) (.int (-1)) H Q := by
  obtain ⟨xs, e1, d⟩ := h
  have gl : (as.map D).getLast? = some (D a) := by rw [List.getLast?_map, e]; rfl
  obtain ⟨v, hv, dv⟩ := dpAll_last d gl
  exact g_ixL (SqL.of e1) (atI_neg1 hv) (k v dv)
theorem g_lenD {q : Addr} {as : List β} (h : DtL K H q as) (k : Q (.int (as.length : Int)) H) : rLenQ K [V.ref q] H Q := by
  obtain ⟨xs, e, d⟩ := h
  refine g_len (SqL.of e) ?_
  rw [dts_len d]
  exact k
end
/-- points are data -/
instance (priority := 50) daKd {α : Type} [k : Kd α] : Da α where
  dec := k.dec
  D := k.D
  inj := k.inj
  bar := k.bar
  lay := k.lay
  dep a := Nat.le_trans (k.dep a) (by decide)
  nol := k.nol
theorem dt_of_pts {α : Type} [Kd α] {K : PySem.W.Frag} {H : Hp} {p : Addr} {as : List α} (h : PtsL K H p as) : DtL K H p as := h
theorem pts_of_dt {α : Type} [Kd α] {K : PySem.W.Frag} {H : Hp} {p : Addr} {as : List α} (h : DtL K H p as) : PtsL K H p as := h
end Gx
namespace Gx
open PySem L2
instance daOpt {α : Type} [Ln α] : Da (Option α) where
  dec := inferInstance
  D := oK
  inj _ _ h := oK_injC h
  bar := bare_o
  lay := lay_o
  dep a := Nat.le_trans (dep_o a) (by decide)
  nol := nol_o
end Gx
namespace Gx
open PySem L2
/-- two promises of a def as one -/
theorem fn_or {P : Program} {w : World} {K : PySem.W.Frag} {mg : Str → Option Value} {base : Heap} {CX : CXT} {k : Nat} {f : Addr} {fd : FuncData} {ps : List Str} {s1 s2 : Sp} (F1 : FnOk P w K mg base CX k f fd ps s1) (F2 : FnOk P w K mg base CX k f fd ps s2) : FnOk P w K mg base CX k f fd ps (spOr s1 s2) := by
  refine ⟨fun vs H Q E h => ?_, fun A outer s H args us vs Q E hr he hb hv h => ?_⟩
  · rcases h with h | h
    · exact F1.len _ _ _ _ h
    · exact F2.len _ _ _ _ h
  · rcases h with h | h
    · exact F1.run A outer s H args us vs Q E hr he hb hv h
    · exact F2.run A outer s H args us vs Q E hr he hb hv h
end Gx

/-! Things of any kind: which of them are points -/
namespace Gx
open PySem L2 PySem.Spec PyProof.Rows
def isBoolD : PyData → Bool
  | .bool _ => true
  | _ => false
def isIntD : PyData → Bool
  | .int _ => true
  | _ => false
def isTupD : PyData → Bool
  | .tuple _ => true
  | _ => false
section
variable {K : PySem.W.Frag} {H H' : Hp}
theorem sqL_ty {a : Addr} {xs : List V} (h : SqL K H a xs) : TyX K H (.ref a) (.type "list") := by
  rcases h with (e | ⟨ob, e⟩) | ⟨ob, _, _, e, c, _⟩
  · exact .base (.lst e)
  · exact .base (.frz e)
  · exact .kList e c
theorem dp_ty {x : V} {d : PyData} (h : Dp K H x d) : ∃ t, TyX K H x t ∧ PySem.W.kitOne K t (.type "bool") = some (isBoolD d) ∧ PySem.W.kitOne K t (.type "int") = some (isIntD d || isBoolD d) ∧ PySem.W.kitOne K t (.type "tuple") = some (isTupD d) := by
  cases h with
  | non => exact ⟨_, .base .non, show _ = some false from kit_ty (by decide +kernel), show _ = some false from kit_ty (by decide +kernel), show _ = some false from kit_ty (by decide +kernel)⟩
  | bl c => exact ⟨_, .base (.bl c), show _ = some true from kit_ty (by decide +kernel), show _ = some true from kit_ty (by decide +kernel), show _ = some false from kit_ty (by decide +kernel)⟩
  | int i => exact ⟨_, .base (.int i), show _ = some false from kit_ty (by decide +kernel), show _ = some true from kit_ty (by decide +kernel), show _ = some false from kit_ty (by decide +kernel)⟩
  | str x => exact ⟨_, .base (.str x), show _ = some false from kit_ty (by decide +kernel), show _ = some false from kit_ty (by decide +kernel), show _ = some false from kit_ty (by decide +kernel)⟩
  | lst a b => exact ⟨_, sqL_ty a, show _ = some false from kit_ty (by decide +kernel), show _ = some false from kit_ty (by decide +kernel), show _ = some false from kit_ty (by decide +kernel)⟩
  | tup a b => exact ⟨_, sqT_ty a, show _ = some false from kit_ty (by decide +kernel), show _ = some false from kit_ty (by decide +kernel), show _ = some true from kit_ty (by decide +kernel)⟩
theorem dp_whole {x : V} {d : PyData} (h : Dp K H x d) : WholeV K H x (isIntD d) := by
  cases h with
  | non => exact .other (.base .non) (kit_ty (by decide +kernel))
  | bl c => exact .bl c
  | int i => exact .int i
  | str x => exact .other (.base (.str x)) (kit_ty (by decide +kernel))
  | lst a b => exact .other (sqL_ty a) (kit_ty (by decide +kernel))
  | tup a b => exact .other (sqT_ty a) (kit_ty (by decide +kernel))
/-- a thing, and the data that it is compared as: none for what is no point of any line -/
inductive ThK (K : PySem.W.Frag) (H : Hp) : V → Option PyData → Prop
  | other {x : V} {t : Value} (ty : TyX K H x t) (n1 : PySem.W.kitOne K t (.type "bool") = some false) (n2 : PySem.W.kitOne K t (.type "int") = some false) (n3 : PySem.W.kitOne K t (.type "tuple") = some false) : ThK K H x none
  | bl (c : Bool) : ThK K H (.bl c) none
  | int (i : Int) : ThK K H (.int i) (some (.int i))
  | tup {r : Addr} {xs : List V} {ds : List PyData} (e : SqT K H r xs) (d : DpAll K H xs ds) (few : ds.length ≤ 10) (sh : SeqAt.shaped (.tuple ds) = true) (br : ds.any isBoolD = false → bareAll ds = true) :
      ThK K H (.ref r) (if ds.any isBoolD = true then none else some (.tuple ds))
theorem thk_same {x : V} {o : Option PyData} (s : Same H H') (h : ThK K H x o) : ThK K H' x o := by
  cases h with
  | other ty n1 n2 n3 => exact .other (tyX_same s ty) n1 n2 n3
  | bl c => exact .bl c
  | int i => exact .int i
  | tup e d few sh br => exact .tup (same_sqT s e) (dp_sameAll s _ _ d) few sh br
/-- is the thing one of these -/
def anyO (ds : List PyData) : Option PyData → Bool
  | none => false
  | some d => ds.any fun z => PyData.eqv z d
/-- points answer whether a thing is one of them -/
def HasTh (α : Type) [Ln α] : Prop := ∀ {K : PySem.W.Frag} {H : Hp} {x : V} {o : Option PyData} (as : List α), ThK K H x o → (∃ a : α, Dp K H x (Kd.D a) ∧ decide (a ∈ as) = anyO (as.map Kd.D) o) ∨ (Ln.pv α K H x false ∧ anyO (as.map Kd.D) o = false)
theorem has_int : HasTh Int := by
  intro K H x o as h
  cases h with
  | other ty n1 n2 n3 => exact .inr ⟨WholeV.other ty n2, rfl⟩
  | bl c => exact .inr ⟨WholeV.bl c, rfl⟩
  | int i => exact .inl ⟨i, .int i, (kd_any as i).symm⟩
  | @tup r xs ds e d few sh br =>
    refine .inr ⟨WholeV.other (sqT_ty e) (kit_ty (by decide +kernel)), ?_⟩
    split
    · rfl
    · show ((as.map Kd.D).any fun z => PyData.eqv z (.tuple _)) = false
      rw [List.any_map, List.any_eq_false]
      intro a _
      show ¬ PyData.eqv (.int a) (.tuple ds) = true
      simp [PyData.eqv]
theorem two_of {ds : List PyData} (h : (decide (ds.length = 2) && (ds.map isIntD).all id) = true) : ∃ i j : Int, ds = [.int i, .int j] := by
  rw [Bool.and_eq_true, decide_eq_true_eq] at h
  obtain ⟨h1, h2⟩ := h
  match ds, h1, h2 with
  | [a, b], _, h2 =>
    simp at h2
    cases a <;> simp [isIntD] at h2
    cases b <;> simp [isIntD] at h2
    exact ⟨_, _, rfl⟩
theorem has_pr : HasTh Pr := by
  intro K H x o as h
  cases h with
  | other ty n1 n2 n3 => exact .inr ⟨PairV.other ty n3, rfl⟩
  | bl c => exact .inr ⟨PairV.other (.base (.bl c)) (kit_ty (by decide +kernel)), rfl⟩
  | int i =>
    refine .inr ⟨PairV.other (.base (.int i)) (kit_ty (by decide +kernel)), ?_⟩
    show ((as.map Kd.D).any fun z => PyData.eqv z (.int i)) = false
    rw [List.any_map, List.any_eq_false]
    intro a _
    show ¬ PyData.eqv (prD a) (.int i) = true
    simp [prD, PyData.eqv]
  | @tup r xs ds e d few sh br =>
    have ln := dpAll_len d
    have pv : PairV K H (.ref r) (decide (ds.length = 2) && (ds.map isIntD).all id) := by
      rw [← ln]
      refine .tup (bs := ds.map isIntD) e (by rw [List.length_map, ln]) fun i x b h1 h2 => ?_
      obtain ⟨d', h3, h4⟩ := dpAll_get d h1
      rw [List.getElem?_map, h3] at h2
      have h2 : some (isIntD d') = some b := h2
      injection h2 with h2
      rw [← h2]
      exact dp_whole h4
    cases c : (decide (ds.length = 2) && (ds.map isIntD).all id) with
    | true =>
      obtain ⟨i, j, rfl⟩ := two_of c
      refine .inl ⟨(i, j), .tup e d, ?_⟩
      rw [if_neg (by simp [isBoolD])]
      exact (kd_any as (i, j)).symm
    | false =>
      rw [c] at pv
      refine .inr ⟨pv, ?_⟩
      by_cases b : ds.any isBoolD = true
      · rw [if_pos b]
        rfl
      · rw [if_neg b]
        have br := br (by simpa using b)
        show ((as.map Kd.D).any fun z => PyData.eqv z (.tuple ds)) = false
        rw [List.any_map, List.any_eq_false]
        intro a _ z
        have z : PyData.eqv (prD a) (.tuple ds) = true := z
        have no : PyData.eqv (prD a) (.tuple ds) = false := by
          refine eqv_no (show bare (prD a) = true from Kd.bar a) (show bareAll ds = true from br) fun q => ?_
          have q : ds = [.int a.1, .int a.2] := by
            have q : PyData.tuple [.int a.1, .int a.2] = .tuple ds := q
            injection q with q
            exact q.symm
          rw [q] at c
          simp [isIntD] at c
        rw [no] at z
        cases z
end
end Gx

/-! Lines of both kinds at once, by their points as data -/
namespace Gk
open PySem L2 Gx
open C8 (Cal Met Mak pe_c pe_mt pe_mt0 pe_mk pe_gc)
section
variable {P : Program} {w : World} {K : PySem.W.Frag} {mg : Str → Option Value} {base : Heap}
/-- the data of points -/
def PtD (ds : List PyData) : Prop := (∃ as : List Int, ds = as.map Kd.D) ∨ ∃ as : List Pr, ds = as.map Kd.D
/-- a line of one of the kinds, its points as data -/
def LineD (K : PySem.W.Frag) (SI SP : Addr → Prop) (H : Hp) (p : Addr) (ds : List PyData) : Prop := (∃ as : List Int, LnS K SI H p as ∧ Up as ∧ ds = as.map Kd.D) ∨ ∃ as : List Pr, LnS K SP H p as ∧ Up as ∧ ds = as.map Kd.D
theorem LineD.same {SI SP : Addr → Prop} {H H' : Hp} {p : Addr} {ds : List PyData} (h : LineD K SI SP H p ds) (s : Same H H') : LineD K SI SP H' p ds := by
  rcases h with ⟨as, l, r⟩ | ⟨as, l, r⟩
  · exact .inl ⟨as, l.same s, r⟩
  · exact .inr ⟨as, l.same s, r⟩
theorem LineD.pts {SI SP : Addr → Prop} {H : Hp} {p : Addr} {ds : List PyData} (h : LineD K SI SP H p ds) : PtD ds := by
  rcases h with ⟨as, _, _, e⟩ | ⟨as, _, _, e⟩
  · exact .inl ⟨as, e⟩
  · exact .inr ⟨as, e⟩
theorem LineD.ins {SI SP : Addr → Prop} {H : Hp} {p : Addr} {ds : List PyData} (h : LineD K SI SP H p ds) : ∃ C dx fs, (SI C ∨ SP C) ∧ H p = some (.ins C dx fs) := by
  rcases h with ⟨as, l, _⟩ | ⟨as, l, _⟩
  · obtain ⟨C, dx, q, hC, hp, _⟩ := up_same_fld l
    exact ⟨C, dx, _, .inl hC, hp⟩
  · obtain ⟨C, dx, q, hC, hp, _⟩ := up_same_fld l
    exact ⟨C, dx, _, .inr hC, hp⟩
theorem ptd_bare {ds : List PyData} (h : PtD ds) : bare (.list ds) = true := by
  rcases h with ⟨as, rfl⟩ | ⟨as, rfl⟩
  · exact kd_bares as
  · exact kd_bares as
theorem ptd_shape {ds : List PyData} (h : PtD ds) : SeqAt.shaped (.list ds) = true := by
  rcases h with ⟨as, rfl⟩ | ⟨as, rfl⟩
  · exact kd_shapes as
  · exact kd_shapes as
theorem ptd_nol {ds : List PyData} (h : PtD ds) : noLstAll ds = true := by
  rcases h with ⟨as, rfl⟩ | ⟨as, rfl⟩
  · exact kd_nols as
  · exact kd_nols as
/-- one of such points -/
theorem ptd_one {ds : List PyData} (h : PtD ds) {d : PyData} (m : d ∈ ds) : SeqAt.shaped d = true ∧ bare d = true ∧ ((∃ i : Int, d = .int i) ∨ ∃ p : Pr, d = prD p) := by
  rcases h with ⟨as, rfl⟩ | ⟨as, rfl⟩
  · obtain ⟨a, _, rfl⟩ := List.mem_map.mp m
    exact ⟨kd_shape a, Kd.bar a, .inl ⟨a, rfl⟩⟩
  · obtain ⟨a, _, rfl⟩ := List.mem_map.mp m
    exact ⟨kd_shape a, Kd.bar a, .inr ⟨a, rfl⟩⟩
/-- a thing is in a line exactly if it is one of its points -/
def spHasT (K : PySem.W.Frag) (SI SP : Addr → Prop) : Sp := fun vs H Q _ => ∃ (p : Addr) (x : V) (o : Option PyData) (ds : List PyData), vs = [.ref p, x] ∧ LineD K SI SP H p ds ∧ ThK K H x o ∧ ∀ H', Same H H' → Q (.bl (anyO ds o)) H'
theorem ok_hasT {f : Addr} {fd : FuncData} {SI SP : Addr → Prop} (hI : FnOk P w K mg base CX0 3 f fd ["self", "thing"] (spHasK Int K SI)) (hP : FnOk P w K mg base CX0 3 f fd ["self", "thing"] (spHasK Pr K SP)) : FnOk P w K mg base CX0 3 f fd ["self", "thing"] (spHasT K SI SP) := by
  refine (fn_or hI hP).imp fun vs H Q E h => ?_
  obtain ⟨p, x, o, ds, rfl, l, th, k⟩ := h
  rcases l with ⟨as, l, up, rfl⟩ | ⟨as, l, up, rfl⟩
  · refine .inl ⟨p, x, as, rfl, l, up, ?_⟩
    rcases has_int as th with ⟨a, dx, e⟩ | ⟨pv, e⟩
    · exact .inl ⟨a, dx, fun H' S => by rw [e]; exact k H' S⟩
    · exact .inr ⟨pv, fun H' S => by rw [← e]; exact k H' S⟩
  · refine .inr ⟨p, x, as, rfl, l, up, ?_⟩
    rcases has_pr as th with ⟨a, dx, e⟩ | ⟨pv, e⟩
    · exact .inl ⟨a, dx, fun H' S => by rw [e]; exact k H' S⟩
    · exact .inr ⟨pv, fun H' S => by rw [← e]; exact k H' S⟩
/-- a new list of the points -/
def spPtsT (K : PySem.W.Frag) (SI SP : Addr → Prop) : Sp := fun vs H Q _ => ∃ (p : Addr) (ds : List PyData), vs = [.ref p] ∧ LineD K SI SP H p ds ∧ ∀ l xs H', H l = none → Same H H' → H' l = some (.lst xs) → DpAll K H' xs ds → Q (.ref l) H'
theorem ok_ptsT {f : Addr} {fd : FuncData} {SI SP : Addr → Prop} (hI : FnOk P w K mg base CX0 1 f fd ["self"] (spPtsK Int K SI)) (hP : FnOk P w K mg base CX0 1 f fd ["self"] (spPtsK Pr K SP)) : FnOk P w K mg base CX0 1 f fd ["self"] (spPtsT K SI SP) := by
  refine (fn_or hI hP).imp fun vs H Q E h => ?_
  obtain ⟨p, ds, rfl, l, k⟩ := h
  rcases l with ⟨as, l, up, rfl⟩ | ⟨as, l, up, rfl⟩
  · exact .inl ⟨p, as, rfl, l, fun l H' n S ⟨xs, e, d⟩ => k l xs H' n S e d⟩
  · exact .inr ⟨p, as, rfl, l, fun l H' n S ⟨xs, e, d⟩ => k l xs H' n S e d⟩
theorem strOk_num (n : Int) : PyData.strOk (numS n) = true := by
  unfold PyData.strOk
  have e := tl_numS n
  rw [Array.all_eq_true_iff_forall_mem]
  intro c hc
  have hc : c ∈ numI n := by rw [← e]; exact Array.mem_toList_iff.mpr hc
  have h1 : ¬ (c ≠ 45 ∧ (c < 48 ∨ 57 < c)) := fun z => numI_free z.1 z.2 n hc
  simp only [decide_eq_true_eq]
  omega
end
section
variable {K : PySem.W.Frag} {H H1 : Hp} {Q : VK} {σ : L2.St} {te : TE} {tt : TT} {g : TG} {vs : List Nat} {J : It} {n : Nat} {item : Nat → V → Hp → Prop}
/-- a 1 for each that passes -/
theorem lc_ones (src : Src J H1 n item) (hn : n ≤ 100000) (c : Nat → Bool)
    (turn : ∀ i x H' (Nx : V → Hp → Prop) (No : Hp → Prop), i < n → Same H1 H' → item i x H' → (∀ H4, Same H' H4 → c i = true → Nx (.int 1) H4) → (∀ H4, Same H' H4 → c i = false → No H4) →
      g x (wipe σ vs) H' fun σ2 H2 => wipe σ2 vs = wipe σ vs ∧ tt σ2 H2 fun b H3 => if b = true then te σ2 H3 Nx else No H3)
    (done : ∀ p (as : List Int) H', H1 p = none → Same H1 H' → PtsL K H' p as → (as = [] ↔ ∀ i, i < n → c i = false) → Q (.ref p) H') : LC g tt te vs J σ H1 Q := by
  refine lc_src src hn (fun i acc H' => ∃ m : Nat, acc = (List.replicate m (1 : Int)).map V.int ∧ (m = 0 ↔ ∀ j, j < i → c j = false)) (fun _ _ _ _ _ _ _ _ _ _ a => a) (fun _ _ => ⟨0, rfl, ⟨fun _ j h => by omega, fun _ => rfl⟩⟩) (fun i x acc H' Nx No lt s it a hl k1 k2 => ?_) fun p acc H' h1 s e a _ => ?_
  · obtain ⟨m, rfl, hm⟩ := a
    refine turn i x H' Nx No lt s it (fun H4 s4 h => k1 _ H4 s4 ⟨m + 1, by rw [List.replicate_succ', List.map_append]; rfl, ⟨fun z => by omega, fun z => ?_⟩⟩) (fun H4 s4 h => k2 H4 s4 ⟨m, rfl, hm.trans ⟨fun z j hj => ?_, fun z j hj => z j (by omega)⟩⟩)
    · have := z i (by omega)
      rw [h] at this
      cases this
    · rcases Nat.lt_or_ge j i with q | q
      · exact z j q
      · have : j = i := by omega
        rw [this]
        exact h
  · obtain ⟨m, rfl, hm⟩ := a
    refine done p (List.replicate m (1 : Int)) H' h1 s (ptsI e) (Iff.trans ⟨fun z => ?_, fun z => by rw [z]; rfl⟩ hm)
    cases m with
    | zero => rfl
    | succ m => rw [List.replicate_succ] at z; cases z
theorem g_isiT {x : V} {tp : Addr} {cs : List V} {t : Value} {us : List Value} {b : Bool} (h : H tp = some (.tup cs)) (p : Paired ClsV cs us) (ty : TyX K H x t) (e : PySem.W.kitAny K t us = some b) (q : Q (.bl b) H) : rIsiT K [x, .ref tp] H Q := ⟨x, tp, cs, t, us, b, rfl, h, p, ty, e, q⟩
theorem kit_two {t c d : Value} {b1 b2 : Bool} (h1 : PySem.W.kitOne K t c = some b1) (h2 : PySem.W.kitOne K t d = some b2) : PySem.W.kitAny K t [c, d] = some (b1 || b2) := by
  cases b1 with
  | true => exact kitAny_cons h1 (fun z => by cases z) fun _ => rfl
  | false => exact kitAny_cons h1 (fun _ => by cases b2 with
    | true => exact kitAny_cons h2 (fun z => by cases z) fun _ => rfl
    | false => exact kitAny_cons h2 (fun _ => kitAny_nil) fun z => by cases z) fun z => by cases z
end
end Gk

set_option maxHeartbeats 2000000
/-! Objects compared by their own ==, and != by it; their own len; constants of a class -/
namespace GxNe
open PySem PySem.Spec PyProof.Rows PySem.SeqAt
section
variable {M : Model} {prog : Program} {w : World} {A : Around} {E : Value → Shared → Prop} {s : Shared} {K : PySem.W.Frag} {x C f : Addr} {ox : Obj} {od : Option Obj} {b tb : Value}
theorem entry_ne {Q : Fin → Shared → Prop} (hu : A.units < cLine) (X : K.In s.heap) (I : PySem.W.InstAt s.heap x ox C od) (he : PySem.W.findIn K (.ref C) "__eq__" = some (some (.ref f))) (hf : PySem.W.isFn K (.ref f) = true)
    (h : wpAny (model prog w) A (call (.ref f) [.ref x, b]) (fun v s' => ∃ t, v = .bool t ∧ Q (.done (.ret (.bool (!t)))) s') E s) : wpAny (model prog w) A (Builtin.«object.__ne__» ⟨[.ref x, b], []⟩) Q E s := by
  unfold Builtin.«object.__ne__»
  repeat (first
    | with_reducible refine wpAny_cRoomFor hu ?_
    | (refine wpAny_bind (m := callSpecialIfBound? (.ref x) (Str.ofString "__eq__") [b])
        (PySem.W.ifBound_K X I he hf (wpAny_mono h (fun r s' hr => by
          obtain ⟨t, rfl, hq⟩ := hr
          repeat (first | exact hq | exact wpAny_pure hq | exact wpAny_truthy_bool hq | (refine wpAny_bind (m := truthy (.bool _)) (wpAny_truthy_bool ?_)) | wp_step)) fun _ _ e => e)))
    | wp_step)
theorem call_objNe {Q : Value → Shared → Prop} (hu : A.in1.units < cLine) (X : K.In s.heap) (I : PySem.W.InstAt s.heap x ox C od) (hm : PySem.W.mroIn K C (.type "object") = some true) (he : PySem.W.findIn K (.ref C) "__eq__" = some (some (.ref f))) (hf : PySem.W.isFn K (.ref f) = true)
    (h : wpAny (model prog w) A.in1 (call (.ref f) [.ref x, b]) (fun v s' => ∃ t, v = .bool t ∧ Q (.bool (!t)) s') E s) : wpAny (model prog w) A (call (.builtin "object.__ne__") [.ref x, b]) Q E s :=
  wpAny_call (codeAny_call_builtin F.cmp_object.ne.plain F.cmpEntry_ne (PySem.W.check_slot F.cmpKind_ne F.cmpSplit_ne (I.type.andThen (PySem.W.looks_mroIn X hm)) (F.cmpArgs_ne _ _) (entry_ne (A := A.in1) hu X I he hf h)))
theorem ifBound_objNe {args : List Value} {Q : Option Value → Shared → Prop} (X : K.In s.heap) (I : PySem.W.InstAt s.heap x ox C od) (hs : PySem.W.findIn K (.ref C) "__ne__" = some (some (.builtin "object.__ne__")))
    (h : wpAny M A (call (.builtin "object.__ne__") (.ref x :: args)) (fun v => Q (some v)) E s) : wpAny M A (callSpecialIfBound? (.ref x) "__ne__" args) Q E s := by
  simp only [callSpecialIfBound?, bindSpecialIfBound?]
  refine wpAny_holding (wpAny_bind (wpAny_bind (wpAny_bind (I.type.here ((PySem.W.looks_findIn X hs).here ?_)))))
  refine wpAny_bind (wpAny_askSetting (wpAny_ite ?_))
  have fin : wpAny M A (call (.builtin "object.__ne__") ([.ref x] ++ args) >>= fun v => pure (some v)) Q E s := wpAny_bind (wpAny_mono h (fun v s' h' => wpAny_pure h') fun _ _ h' => h')
  split
  · exact wpAny_bind (wpAny_of_eq (F.cmp_object.ne.bind _) (wpAny_pure (by exact fin)))
  · exact wpAny_tryCatch (wpAny_bind (wpAny_of_eq (F.cmp_object.ne.bind _) (wpAny_pure (by exact fin))))
theorem cmpNe_K {Q : Value → Shared → Prop} (hu0 : A.units < cLine) (hu : A.in1.units < cLine) (X : K.In s.heap) (I : PySem.W.InstAt s.heap x ox C od) (hb : PySem.W.Looks (model prog w) s.heap (typeOf b) tb) (hn : PySem.W.notFirst K C tb = true)
    (hm : PySem.W.mroIn K C (.type "object") = some true) (hs : PySem.W.findIn K (.ref C) "__ne__" = some (some (.builtin "object.__ne__"))) (he : PySem.W.findIn K (.ref C) "__eq__" = some (some (.ref f))) (hf : PySem.W.isFn K (.ref f) = true)
    (h : wpAny (model prog w) A.in1 (call (.ref f) [.ref x, b]) (fun v s' => ∃ t, v = .bool t ∧ Q (.bool (!t)) s') E s) : wpAny (model prog w) A (richCompare .NotEq (.ref x) b) Q E s := by
  have one : wpAny (model prog w) A (tryCompare (.ref x) "__ne__" b) (fun r s' => ∃ v, r = some v ∧ Q v s') E s := by
    unfold tryCompare
    refine wpAny_bind (ifBound_objNe X I hs (call_objNe hu X I hm he hf (wpAny_mono h (fun v s' hv => ?_) fun _ _ e => e)))
    obtain ⟨t, rfl, hq⟩ := hv
    exact ⟨t, rfl, wpAny_pure ⟨_, rfl, hq⟩⟩
  unfold richCompare
  simp only [oneThing_ref, cmpInfo_NotEq]
  refine wpAny_holding (wpAny_bind (wpAny_cRoomFor hu0 ?_))
  refine wpAny_bind (I.type.here (wpAny_bind (hb.here ?_)))
  split
  · rename_i q
    have e : PySem.W.subIn K tb (.ref C) = some false := by
      rcases Bool.or_eq_true_iff.mp hn with e | e
      · rw [beq_iff_eq.mp e] at q; simp at q
      · exact beq_iff_eq.mp e
    refine wpAny_bind ((PySem.W.looks_subIn X e).here ?_)
    simp only [Bool.false_eq_true, if_false]
    refine wpAny_bind (wpAny_mono one (fun r s' z => ?_) fun _ _ e => e)
    obtain ⟨v, rfl, hq⟩ := z
    exact wpAny_pure hq
  · refine wpAny_bind (wpAny_pure ?_)
    simp only [Bool.false_eq_true, if_false]
    refine wpAny_bind (wpAny_mono one (fun r s' z => ?_) fun _ _ e => e)
    obtain ⟨v, rfl, hq⟩ := z
    exact wpAny_pure hq
end
end GxNe
namespace Gx
open PySem L2 PySem.Spec PyProof.Rows
open C8 (Cal Met Mak)
section
variable {X : Cx} {k j : Nat} {S : Addr → Prop} {sp : Addr → Sp}
/-- x == y (x != y), both of the same class among some -/
def rOwnE (S : Addr → Prop) (sp : Addr → Sp) (neg : Bool) : R2 := fun x y H Q => ∃ a b C dx dy fs gs, x = .ref a ∧ y = .ref b ∧ H a = some (.ins C dx fs) ∧ H b = some (.ins C dy gs) ∧ S C ∧ sp C [.ref a, .ref b] H (fun r H' => ∃ t, r = .bl t ∧ Q (.bl (if neg = true then !t else t)) H') (fun _ _ _ => False)
theorem own_run1 {f : Addr} {fd : FuncData} {ps : List Str} {sp : Sp} {pins : List (Addr × Obj)} {σ : L2.St} {H : Hp} {s : Shared} {vs : List V} {us : List Value} {Q : VK} (F : FnOk X.prog X.w X.K X.mg X.base CX0 k f fd ps sp) (hr : Room (k + 1) X.A) (hb : Binds X.K fd ps [])
    (I : Inv X pins σ H s) (r : Vals vs us) (h : sp vs H Q (fun _ _ _ => False)) : wpAny (model X.prog X.w) X.A.in1 (call (.ref f) us) (EP X pins σ Q) X.xe s := by
  have hl := F.len _ _ _ _ h
  refine wpAny_call (codeAny_mono (F.run X.A.in1 X.stack s H ⟨us, []⟩ us vs Q (fun _ _ _ => False) hr.in1 I.env0.in1 (by
    have := hb s us I.kIn (by rw [List.append_nil, ← r.length]; exact hl)
    simpa using this) r h) fun r s' hq => ?_)
  cases r with
  | error e => exact hq.elim
  | ok fl =>
    cases fl with
    | ret w => exact I.after hq
    | next => exact False.elim hq
    | brk => exact False.elim hq
    | cont => exact False.elim hq
theorem op_ownEqF (c : MetF X.prog X.w X.K X.mg X.base CX0 k S "__eq__" sp) (hr : Room j X.A) (hk : k ≤ j) : OpR X (compareOp .Eq) (rOwnE S sp false) := by
  intro pins s σ H x y v u Q I rx ry h
  obtain ⟨a, b, C, dx, dy, fs, gs, rfl, rfl, ha, hb', hC, q⟩ := h
  cases rx
  cases ry
  obtain ⟨f, fd, ps, cl, me, F, hb⟩ := c.ex C hC
  obtain ⟨mA, J, _⟩ := ins_get I.hok ha
  obtain ⟨mB, J', _⟩ := ins_get I.hok hb'
  obtain ⟨od, J, _⟩ := J.look
  obtain ⟨od', J', _⟩ := J'.look
  obtain ⟨m, hF⟩ := I.fr
  show wpAny (model X.prog X.w) X.A (richCompare .Eq (.ref a) (.ref b)) _ _ _
  refine PySem.W.cmp_K (op := .Eq) (tb := .ref C) hr.units0 hF I.ok.mod.kin J J'.type (by simp [PySem.W.notFirst]) me.at_ me.fn (wpAny_mono (own_run (vs := [.ref a, .ref b]) F (hr.mono hk) hb I (.cons rfl (.cons rfl .nil)) q) (fun z s' hz => ?_) fun _ _ e => e)
  obtain ⟨r, H', I', rz, t, rfl, q'⟩ := hz
  cases rz
  exact ⟨.bl t, H', I', rfl, q'⟩
/-- the classes have no != of their own -/
def NoNe (K : PySem.W.Frag) (C : Addr) : Prop := PySem.W.findIn K (.ref C) "__ne__" = some (some (.builtin "object.__ne__")) ∧ PySem.W.mroIn K C (.type "object") = some true
theorem op_ownNeF (c : MetF X.prog X.w X.K X.mg X.base CX0 k S "__eq__" sp) (n : ∀ C, S C → NoNe X.K C) (hr : Room j X.A) (hk : k + 1 ≤ j) : OpR X (compareOp .NotEq) (rOwnE S sp true) := by
  intro pins s σ H x y v u Q I rx ry h
  obtain ⟨a, b, C, dx, dy, fs, gs, rfl, rfl, ha, hb', hC, q⟩ := h
  cases rx
  cases ry
  obtain ⟨f, fd, ps, cl, me, F, hb⟩ := c.ex C hC
  obtain ⟨mA, J, _⟩ := ins_get I.hok ha
  obtain ⟨mB, J', _⟩ := ins_get I.hok hb'
  obtain ⟨od, J, _⟩ := J.look
  obtain ⟨od', J', _⟩ := J'.look
  obtain ⟨nn, hm⟩ := n C hC
  have hrk : Room (k + 1) X.A := hr.mono hk
  show wpAny (model X.prog X.w) X.A (richCompare .NotEq (.ref a) (.ref b)) _ _ _
  refine GxNe.cmpNe_K (tb := .ref C) hr.units0 hrk.in1.units0 I.kIn J J'.type (by simp [PySem.W.notFirst]) hm nn me.at_ me.fn (wpAny_mono (own_run1 (vs := [.ref a, .ref b]) F hrk hb I (.cons rfl (.cons rfl .nil)) q) (fun z s' hz => ?_) fun _ _ e => e)
  obtain ⟨r, H', I', rz, t, rfl, q'⟩ := hz
  cases rz
  exact ⟨t, rfl, .bl (!t), H', I', rfl, q'⟩
/-- x == y, y of a class under that of x: y's own == is asked first -/
def rOwnR (C D : Addr) (sp : Sp) : R2 := fun x y H Q => ∃ a b dx dy fs gs, x = .ref a ∧ y = .ref b ∧ H a = some (.ins C dx fs) ∧ H b = some (.ins D dy gs) ∧ sp [.ref b, .ref a] H (fun r H' => ∃ t, r = .bl t ∧ Q (.bl t) H') (fun _ _ _ => False)
theorem op_ownEqR {C D : Addr} {sp : Sp} (c : Met X.prog X.w X.K X.mg X.base k D "__eq__" sp []) (ne : (Value.ref C != Value.ref D) = true) (su : PySem.W.subIn X.K (.ref D) (.ref C) = some true) (hr : Room j X.A) (hk : k ≤ j) : OpR X (compareOp .Eq) (rOwnR C D sp) := by
  intro pins s σ H x y v u Q I rx ry h
  obtain ⟨a, b, dx, dy, fs, gs, rfl, rfl, ha, hb', q⟩ := h
  cases rx
  cases ry
  obtain ⟨f, fd, ps, ds, cl, me, F, hb, hd⟩ := c.ex
  cases hd
  obtain ⟨mA, J, _⟩ := ins_get I.hok ha
  obtain ⟨mB, J', _⟩ := ins_get I.hok hb'
  obtain ⟨od, J, _⟩ := J.look
  obtain ⟨od', J', _⟩ := J'.look
  show wpAny (model X.prog X.w) X.A (richCompare .Eq (.ref a) (.ref b)) _ _ _
  have one : wpAny (model X.prog X.w) X.A (tryCompare (.ref b) "__eq__" (.ref a)) (fun r s' => ∃ v, r = some v ∧ EP X pins σ Q v s') X.xe s := by
    unfold tryCompare
    refine wpAny_bind (PySem.W.ifBound_K I.kIn J' me.at_ me.fn (wpAny_mono (own_run (vs := [.ref b, .ref a]) F (hr.mono hk) hb I (.cons rfl (.cons rfl .nil)) q) (fun z s' hz => ?_) fun _ _ e => e))
    obtain ⟨r, H', I', rz, t, rfl, q'⟩ := hz
    cases rz
    exact wpAny_pure ⟨_, rfl, .bl t, H', I', rfl, q'⟩
  unfold richCompare
  simp only [oneThing_ref, cmpInfo_Eq]
  refine wpAny_holding (wpAny_bind (wpAny_cRoomFor hr.units0 ?_))
  refine wpAny_bind (J.type.here (wpAny_bind (J'.type.here ?_)))
  rw [if_pos ne]
  refine wpAny_bind ((PySem.W.looks_subIn I.kIn su).here ?_)
  simp only [if_true]
  refine wpAny_bind (wpAny_mono one (fun r s' z => ?_) fun _ _ e => e)
  obtain ⟨v, rfl, hq⟩ := z
  exact wpAny_bind (wpAny_rule (wpAny_pure hq))
/-- len(x), x an object with a len of its own -/
def rLenF (S : Addr → Prop) (sp : Addr → Sp) : List V → Hp → VK → Prop := fun xs H Q => ∃ a C dx fs, xs = [.ref a] ∧ H a = some (.ins C dx fs) ∧ S C ∧ sp C [.ref a] H (fun r H' => ∃ n : Int, r = .int n ∧ 0 ≤ n ∧ n < 2 ^ 63 ∧ Q (.int n) H') (fun _ _ _ => False)
theorem cr_lenF (c : MetF X.prog X.w X.K X.mg X.base CX0 k S "__len__" sp) (hr : Room j X.A) (hk : k + 1 ≤ j) : CallR X (.builtin "len") (rLenF S sp) := by
  intro pins s σ H xs us Q I rx h
  obtain ⟨a, C, dx, fs, rfl, ha, hC, q⟩ := h
  cases rx with
  | cons r1 r2 =>
    cases r2
    cases r1
    obtain ⟨f, fd, ps, cl, me, F, hb⟩ := c.ex C hC
    obtain ⟨mA, J, _⟩ := ins_get I.hok ha
    obtain ⟨od, J, _⟩ := J.look
    obtain ⟨m, hF⟩ := I.fr
    refine PySem.W.len_K hF I.ok.mod.kin J me.at_ me.fn (wpAny_mono (own_run1 (vs := [.ref a]) F (hr.mono hk) hb I (.cons rfl .nil) q) (fun z s' hz => ?_) fun _ _ e => e)
    obtain ⟨r, H', I', rz, n, rfl, n0, n1, q'⟩ := hz
    obtain ⟨t, rfl⟩ := rz
    exact ⟨⟨n0, n1⟩, .int n, H', I'.tok _, ⟨_, rfl⟩, q'⟩
end
section
variable {σ : L2.St} {H : Hp} {Q : VK} {S : Addr → Prop} {sp : Addr → Sp} {a b C dx dy : Addr} {fs gs : List (Str × V)} {K : PySem.W.Frag}
theorem g_ownEq {neg : Bool} (h1 : H a = some (.ins C dx fs)) (h2 : H b = some (.ins C dy gs)) (hC : S C) (q : sp C [.ref a, .ref b] H (fun r H' => ∃ t, r = .bl t ∧ Q (.bl (if neg = true then !t else t)) H') (fun _ _ _ => False)) : rOwnE S sp neg (.ref a) (.ref b) H Q := ⟨a, b, C, dx, dy, fs, gs, rfl, rfl, h1, h2, hC, q⟩
theorem g_lenF (h1 : H a = some (.ins C dx fs)) (hC : S C) (q : sp C [.ref a] H (fun r H' => ∃ n : Int, r = .int n ∧ 0 ≤ n ∧ n < 2 ^ 63 ∧ Q (.int n) H') (fun _ _ _ => False)) : rLenF S sp [.ref a] H Q := ⟨a, C, dx, fs, rfl, h1, hC, q⟩
theorem g_ownR {D : Addr} {sp : Sp} (h1 : H a = some (.ins C dx fs)) (h2 : H b = some (.ins D dy gs)) (q : sp [.ref b, .ref a] H (fun r H' => ∃ t, r = .bl t ∧ Q (.bl t) H') (fun _ _ _ => False)) : rOwnR C D sp (.ref a) (.ref b) H Q := ⟨a, b, dx, dy, fs, gs, rfl, rfl, h1, h2, q⟩
/-- list(range(n)), list(range(m, n)) -/
def LRg (x : V) (H : Hp) (Q : VK) : Prop := ∃ n, x = .int n ∧ RgOk 0 n ∧ ∀ q, H q = none → Q (.ref q) (upd H q (.lst (rgV 0 n)))
theorem g_lstRg1 {ta : TE} (q : ta σ H fun x H1 => LRg x H1 Q) : tLstRg (tRg1 ta) σ H Q := q
theorem g_lrg {n : Int} (h0 : 0 ≤ n) (h1 : n ≤ 16777216) (k : ∀ p H', H p = none → Same H H' → H' p = some (.lst (rgV 0 n)) → Q (.ref p) H') : LRg (.int n) H Q :=
  ⟨n, rfl, RgOk.of_le (Int.le_refl _) h1 (by decide) h0, fun q hq => k q _ hq (same_new hq) upd_same⟩
theorem rgV_ints (n : Int) : rgV 0 n = ((List.range n.toNat).map fun i : Nat => (i : Int)).map V.int := by
  unfold rgV
  rw [List.map_map, Int.sub_zero]
  refine List.map_congr_left fun i _ => ?_
  show V.int (0 + (i : Int)) = V.int (i : Int)
  rw [Int.zero_add]
def ConQ (K : PySem.W.Frag) (f : Str) (x : V) (H : Hp) (Q : VK) : Prop := ∃ a C dx fs v u, x = .ref a ∧ H a = some (.ins C dx fs) ∧ Cls K C ∧ Con K C f v u ∧ fs.lookup f = none ∧ Q v H
theorem g_tcon {f : Str} {ta : TE} (q : ta σ H fun x H1 => ConQ K f x H1 Q) : tCon K ta f σ H Q := q
theorem g_con {f : Str} {v : V} {u : Value} (h1 : H a = some (.ins C dx fs)) (c : Cls K C) (k : Con K C f v u) (l : fs.lookup f = none) (q : Q v H) : ConQ K f (.ref a) H Q := ⟨a, C, dx, fs, v, u, rfl, h1, c, k, l, q⟩
end
end Gx

set_option maxHeartbeats 4000000
/-! Membership in a dict; steps for dicts, for walks over texts as lists of signs -/
namespace Gx
open PySem L2 PySem.Spec PyProof.Rows SX TL
section
variable {X : Cx}
def rDIn (neg : Bool) : R2 := fun y x H Q => ∃ a o, x = .ref a ∧ DGet H a y o ∧ Q (.bl (if neg = true then !o.isSome else o.isSome)) H
theorem op_in_dict (hu : X.A.units + 1 < cLine) : OpR X (compareOp .In) (rDIn false) := by
  intro pins s σ H y x v u Q I ry rx h
  obtain ⟨a, ov, rfl, g, q⟩ := h
  cases rx
  exact d_in hu I g ry fun s3 I3 => ⟨.bl ov.isSome, H, I3, rfl, q⟩
theorem op_notIn_dict (hu : X.A.units + 1 < cLine) : OpR X (compareOp .NotIn) (rDIn true) := by
  intro pins s σ H y x v u Q I ry rx h
  obtain ⟨a, ov, rfl, g, q⟩ := h
  cases rx
  exact d_notIn hu I g ry fun s3 I3 => ⟨.bl (!ov.isSome), H, I3, rfl, q⟩
end
section
variable {σ : L2.St} {H : Hp} {Q : VK} {K : PySem.W.Frag} {J : It} {n : Nat} {te td ty : TE}
theorem src_strL {a : List Nat} {H1 : Hp} : Src (Its (S a)) H1 (a.map fun c => V.str (S [c])).length (fun i v _ => (a.map fun c => V.str (S [c]))[i]? = some v) := by
  have e : (a.map fun c => V.str (S [c])).length = (S a).cps.size := by rw [List.length_map]; exact (S_len a).symm
  rw [e]
  intro i H s
  refine ⟨fun hi => ⟨hi, fun v H' y => ?_⟩, fun hi => hi⟩
  obtain ⟨rfl, c, hc, rfl⟩ := y
  refine ⟨Same.refl _, ?_⟩
  have h2 : a[i]? = some c := by simpa [S] using hc
  show (a.map fun c => V.str (S [c]))[i]? = some _
  rw [List.getElem?_map, h2]
  rfl
theorem starts_minus (a : List Nat) : Txt.startswith (S a) "-" = decide (a.take 1 = [45]) := by
  unfold Txt.startswith Builtin.Str.subAt
  have e1 : (Str.ofString "-").length = 1 := rfl
  have e2 : (Str.ofString "-").cps = #[45] := by decide +kernel
  rw [e1, e2, S_len]
  cases a with
  | nil => rfl
  | cons c r =>
    have e3 : (S (c :: r)).cps.extract 0 (0 + 1) = #[c] := by
      apply Array.ext'
      simp [S]
    rw [e3]
    have l : decide (0 + 1 ≤ (c :: r).length) = true := decide_eq_true (by rw [List.length_cons]; omega)
    rw [l, Bool.true_and]
    by_cases h : c = 45
    · subst h
      rfl
    · rw [decide_eq_false (show ¬ List.take 1 (c :: r) = [45] from fun z => h (List.cons.inj z).1)]
      have : ¬ #[c] = #[45] := fun z => h (by simpa using z)
      simpa using this
theorem g_neS {p q : Addr} {ns ms : List Str} (h1 : SqL K H p (ns.map V.str)) (h2 : SqL K H q (ms.map V.str)) (o1 : ∀ x ∈ ns, PyData.strOk x = true) (o2 : ∀ x ∈ ms, PyData.strOk x = true) (k : Q (.bl (!decide (ns = ms))) H) : rNeD K (.ref p) (.ref q) H Q := by
  refine g_neD (dp_strs h1) (dp_strs h2) (shaped_strs _ o1) (shaped_strs _ o2) ?_
  rw [eqv_strs]
  exact k
theorem g_disp {trs : List (TE × TE)} (q : ∀ p, H p = none → tPairs trs σ (upd H p (.dK [])) fun ps H2 => H2 p = some (.dK []) ∧ ∃ kvs : List (Key × V), ps = kvs.map (fun kv => (kV kv.1, kv.2)) ∧ kvs.length ≤ 15 ∧ Q (.ref p) (upd H2 p (.dK (mergeK [] kvs)))) : tDisp trs σ H Q := q
theorem g_dget (q : td σ H fun x H1 => ty σ H1 fun y H2 => ∃ a v, x = .ref a ∧ DGet H2 a y (some v) ∧ Q v H2) : tDGet td ty σ H Q := q
end
end Gx

/-! Dicts of whole numbers by whole numbers: sorted keys, items as a list, what repr shows, == -/
namespace Gx
open PySem L2 PySem.Spec PyProof.Rows
/-- a table: keys and values, in the sequence of the dict -/
abbrev Tab := List (Int × Int)
def tabK (t : Tab) : List (Key × V) := t.map fun p => (.inl p.1, .int p.2)
def tabD (t : Tab) : PyData := .dict (t.map fun p => (.int p.1, .int p.2))
def keysT (t : Tab) : List Int := t.map (·.1)
def getT (t : Tab) (k : Int) : Option Int := (t.find? fun p => decide (p.1 = k)).map (·.2)
def putT (t : Tab) (k v : Int) : Tab := if (t.any fun p => decide (p.1 = k)) = true then t.map (fun p => if p.1 = k then (p.1, v) else p) else t ++ [(k, v)]
theorem tab_val (k : Int) : ∀ t : Tab, valV (tabK t) (.inl k) = (getT t k).map V.int
  | [] => rfl
  | p :: r => by
    have ih := tab_val k r
    by_cases h : p.1 = k
    · have e1 : valV (tabK (p :: r)) (.inl k) = some (.int p.2) := valV_pos (show (Sum.inl p.1 : Key) = .inl k by rw [h])
      have e2 : getT (p :: r) k = some p.2 := by simp [getT, h]
      rw [e1, e2]
      rfl
    · have e1 : valV (tabK (p :: r)) (.inl k) = valV (tabK r) (.inl k) := valV_neg (fun z => h (Sum.inl.inj z))
      have e2 : getT (p :: r) k = getT r k := by simp [getT, h]
      rw [e1, e2, ih]
theorem tab_put (t : Tab) (k v : Int) : putK (tabK t) (.inl k) (.int v) = tabK (putT t k v) := by
  have e : ((tabK t).any fun kv => decide (kv.1 = (.inl k : Key))) = t.any fun p => decide (p.1 = k) := by
    unfold tabK
    rw [List.any_map]
    congr 1
    funext p
    simp
  unfold putK putT
  rw [e]
  split
  · unfold tabK
    rw [List.map_map, List.map_map]
    refine List.map_congr_left fun p _ => ?_
    by_cases h : p.1 = k
    · simp [h]
    · simp [h]
  · unfold tabK
    rw [List.map_append]
    rfl
theorem tab_len (t : Tab) : (tabK t).length = t.length := List.length_map _
section
variable {X : Cx} {pins : List (Addr × Obj)} {σ : L2.St} {H : Hp} {s : Shared} {a : Addr} {t : Tab}
/-- such a dict in the heap: its entries one by one -/
theorem tab_at (I : Inv X pins σ H s) (h : Rd H a (.dK (tabK t))) : t.length ≤ sizeLine ∧ (a == sysModules) = false ∧ ∃ vs : List (Key × Value), vs.length = t.length ∧ (∀ (i : Nat) q, vs[i]? = some q → ∃ p u, t[i]? = some p ∧ q = (.inl p.1, .int p.2 u)) ∧ s.heap.DictOf (mixKind X.prog X.w) a vs := by
  obtain ⟨z, lo, vs, rel, dd⟩ := dk_rd I.hok h
  rw [tab_len] at z
  have e : ∀ {t : Tab} {vs : List (Key × Value)}, KV (tabK t) vs → vs.length = t.length ∧ ∀ (i : Nat) q, vs[i]? = some q → ∃ p u, t[i]? = some p ∧ q = (.inl p.1, .int p.2 u) := by
    intro t
    induction t with
    | nil =>
      intro vs r
      cases r
      exact ⟨rfl, fun i q z => by simp at z⟩
    | cons p t ih =>
      intro vs r
      cases r with
      | @cons _ q _ qs h1 h2 =>
        obtain ⟨l, g⟩ := ih h2
        refine ⟨by rw [List.length_cons, List.length_cons, l], fun i y hy => ?_⟩
        cases i with
        | zero =>
          obtain rfl := Option.some.inj hy
          obtain ⟨k1, u, k2⟩ := h1
          exact ⟨p, u, rfl, by rw [← k2]; exact Prod.ext k1.symm rfl⟩
        | succ i => exact g i y hy
  obtain ⟨l, g⟩ := e rel
  exact ⟨z, lo, vs, l, g, dd⟩
end
section
variable {X : Cx}
/-- sorted(d), any number of keys -/
def rSortTab : List V → Hp → VK → Prop := fun xs H Q => ∃ (a : Addr) (t : Tab), xs = [.ref a] ∧ Rd H a (.dK (tabK t)) ∧ ∀ (ys : List Int) (p : Addr), ys.Perm (keysT t) → ys.Pairwise (· ≤ ·) → H p = none → Q (.ref p) (upd H p (.lst (ys.map V.int)))
theorem cr_sortTab (calm : X.calm = true) : CallR X (.builtin "sorted") rSortTab := by
  intro pins s σ H xs us Q I r ask
  obtain ⟨d, t, rfl, hd, go⟩ := ask
  obtain rfl := Vals.ref1 r
  obtain ⟨z, lo, vs, lv, ent, dd⟩ := tab_at I hd
  obtain ⟨ep, at_⟩ := dd.dictAt
  have short : vs.length ≤ sizeLine := by rw [lv]; exact z
  refine Calls.call_function_entry kind_sorted plain_sorted entry_sorted (args_sorted1 _) ?_
  unfold Builtin.«sorted»
  refine wpAny_bind (wpAny_bind (wpAny_pure (wpAny_pure ?_)))
  refine wpAny_bind (PySem.W.kdu_collect (PySem.W.kdl_dict lo) (I.ok.hd calm) at_ short fun h2 tk acc keep each => ?_)
  have la : acc.toList.length = (keysT t).length := by
    unfold keysT
    rw [Array.length_toList, each.1, lv, List.length_map]
  have nums : IntsAre acc.toList (keysT t) := ints_each la fun j v e => by
    obtain ⟨k, x, e1, e2⟩ := each.2 j v (by rw [← Array.getElem?_toList]; exact e)
    obtain ⟨p, u, hp, eq⟩ := ent j _ e1
    obtain ⟨rfl, _⟩ := Prod.mk.inj eq
    have e3 : keyIs (.inl p.1) v = true := e2
    rcases keyIs_shape e3 with ⟨i, tt, ek, ev⟩ | ⟨y, tt, ek, ev⟩
    · obtain rfl := Sum.inl.inj ek
      exact ⟨p.1, tt, by unfold keysT; rw [List.getElem?_map, hp]; rfl, ev⟩
    · cases ek
  have I2 : Inv X pins σ H { s with heap := h2, toks := tk } := I.kept keep
  have la2 : acc.toList.length ≤ sizeLine := by
    rw [la]
    unfold keysT
    rw [List.length_map]
    exact z
  refine wpAny_bind (wpAny_newList ?_ la2)
  have laid : (h2.push (seqObj "list" acc.toList.toArray 0)).get? h2.objs.size = some (seqObj "list" acc.toList.toArray 0) := Heap.get?_push_size _ rfl
  refine wpAny_bind (wpAny_holding (wpAny_call_entry (s := { s with heap := h2.push (seqObj "list" acc.toList.toArray 0), toks := tk }) slot_list_sort ⟨_, laid, rfl⟩ entry_list_sort
    (SrtO.list_sort_ord SrtO.swo_int laid la2 (fun two => SrtO.ints_sortable nums two) fun out o1 o2 => ⟨_, rfl, ?_⟩) (args_list_sort _)))
  obtain ⟨k1, k2, k3⟩ := SrtO.ints_out nums o1 o2
  obtain ⟨ep2, sorted_⟩ := sortedHeap_at (vs := acc.toList) (out := out.toArray) laid
  have fits : ((out.map SrtO.iv).map V.int).length ≤ sizeLine := by
    rw [List.length_map, k2.length_eq, ← la]
    exact la2
  refine wpAny_pure ⟨_, rfl, .ref h2.objs.size, upd H h2.objs.size (.lst ((out.map SrtO.iv).map V.int)), I2.laid (t' := tk) (fun b u e => ?_) (Nat.le_refl _) ⟨fits, out, ep2, vals_of_ints k1, sorted_⟩, rfl, go _ _ k2 k3 (I2.hok.fresh (Nat.le_refl _))⟩
  have hb : b < h2.objs.size := Heap.lt_size e
  rw [sortedHeap_old (Nat.ne_of_lt hb) (by rw [size_push']; exact Nat.lt_succ_of_lt hb)]
  exact Heap.get?_push_of_some _ e
/-- d.items() -/
def rItemsK : V → List V → Hp → VK → Prop := fun x xs H Q => ∃ (a : Addr) (t : Tab), x = .ref a ∧ xs = [] ∧ H a = some (.dK (tabK t)) ∧ ∀ p, H p = none → Q (.ref p) (upd H p (L2.DX.itemsO p a))
theorem mt_itemsK : MtR X "dict.items" rItemsK := by
  intro pins s σ H x xs v us Q I rx rxs ask
  obtain ⟨d, t, rfl, rfl, hd, go⟩ := ask
  cases rx
  cases rxs
  obtain ⟨z, lo, vs, lv, ent, o, es, ep, ho, ex, da, _⟩ := tab_at I (.inl hd)
  refine _root_.DT.callItems (es := es) (ep := ep) lo ⟨o, ho, ex, da⟩ ?_
  have free : H s.heap.objs.size = none := I.hok.fresh (Nat.le_refl _)
  exact ⟨.ref s.heap.objs.size, _, I.laid (t' := s.toks) (fun b u e => Heap.get?_push_of_some _ e) (Nat.le_refl _) (L2.DX.itemsO_ok (Heap.get?_push_size _ rfl)), rfl, go _ free⟩
/-- list(v), v the items of a dict: new pairs -/
def rListItems : List V → Hp → VK → Prop := fun xs H Q => ∃ (p a : Addr) (t : Tab), xs = [.ref p] ∧ H p = some (L2.DX.itemsO p a) ∧ H a = some (.dK (tabK t)) ∧
  ∀ (l : Addr) (ts : List Addr) (H' : Hp), H l = none → Same H H' → H' l = some (.lst (ts.map V.ref)) → ts.length = t.length → (∀ (i : Nat) b, ts[i]? = some b → ∃ q, t[i]? = some q ∧ H' b = some (.tup [.int q.1, .int q.2])) → Q (.ref l) H'
theorem cr_listItems (calm : X.calm = true) : CallR X (.type "list") rListItems := by
  intro pins s σ H xs us Q I r ask
  obtain ⟨p, a, t, rfl, hp, ha, go⟩ := ask
  obtain rfl := Vals.ref1 r
  have view : s.heap.IsItemsView p a := (show ObjOk X.prog X.w H s.heap p (L2.DX.itemsO p a) from I.hok p _ hp).1
  obtain ⟨z, lo, vs, lv, ent, dd⟩ := tab_at I (.inl ha)
  obtain ⟨ep, at_⟩ := dd.dictAt
  refine PySem.W.kdx_call (I.ok.hd calm) view at_ (by rw [lv]; exact z) fun h2 tk acc c as keep hS len g hacc => ?_
  have free : H s.heap.objs.size = none := I.hok.fresh (Nat.le_refl _)
  have nd : as.Nodup := List.Pairwise.imp (fun h => Nat.ne_of_lt h) g.rise
  have I2 : Inv X pins σ H { s with heap := h2, toks := tk } := I.kept (t' := tk) keep
  have lt : as.length = t.length := by rw [len, lv]
  have rv : Vals (as.map V.ref) acc.toList := by
    rw [hacc]
    exact vals_maps V.ref Value.ref as fun _ _ => rfl
  have I3 : Inv X pins σ (upd H s.heap.objs.size (.lst (as.map V.ref))) { s with heap := h2, toks := tk } :=
    I2.take (h' := h2) (t' := tk) (fun b ob _ e => e) (I.fpOk (Nat.le_refl _) free) ⟨by rw [List.length_map, lt]; exact z, acc.toList, c, rv, by rw [Array.toArray_toList]; exact hS⟩
  obtain ⟨H3, I4, old, tup⟩ := L2.DX.takeT (P := fun b ws => ∃ (j : Nat) (q : Int × Int), as[j]? = some b ∧ t[j]? = some q ∧ ws = [.int q.1, .int q.2]) I as _ I3 nd fun b hb => by
    obtain ⟨j, hj⟩ := List.mem_iff_getElem?.mp hb
    obtain ⟨key, k, x, e1, e2, e3⟩ := g.pairs j b hj
    obtain ⟨q, u, hq, eq⟩ := ent j _ e1
    obtain ⟨rfl, rfl⟩ := Prod.mk.inj eq
    have up := g.above b hb
    have e4 : keyIs (.inl q.1) key = true := e2
    rcases keyIs_shape e4 with ⟨i, tt, ek, ev⟩ | ⟨y, tt, ek, ev⟩
    · obtain rfl := Sum.inl.inj ek
      refine ⟨Nat.le_of_lt up, ?_, _, ⟨j, q, hj, hq, rfl⟩, fun H4 => ⟨(by show 2 ≤ sizeLine; decide), [key, .int q.2 u], .cons ⟨tt, ev⟩ (.cons ⟨u, rfl⟩ .nil), ⟨_, e3, rfl, 0, rfl⟩⟩⟩
      rw [upd_ne (Nat.ne_of_gt up)]
      exact I.hok.fresh (Nat.le_of_lt up)
    · cases ek
  refine ⟨.ref s.heap.objs.size, H3, I4, rfl, go _ as H3 free (fun b o e => old b o (by rw [upd_ne (ne_of_none e free)]; exact e)) (old _ _ upd_same) lt fun i b hb => ?_⟩
  obtain ⟨ws, ⟨j, q, hj, hq, rfl⟩, e⟩ := tup b (List.mem_of_getElem? hb)
  have ij : i = j := (List.getElem?_inj (List.getElem?_eq_some_iff.mp hb).1 nd).mp (hb.trans hj.symm)
  subst ij
  exact ⟨q, hq, e⟩
/-- repr(d) -/
def rReprTab : List V → Hp → VK → Prop := fun xs H Q => ∃ (a : Addr) (t : Tab), xs = [.ref a] ∧ Rd H a (.dK (tabK t)) ∧ (tabD t).showable = true ∧ (tabD t).shown.length ≤ sizeLine ∧ Q (.str (tabD t).shown) H
theorem tab_reads {pins : List (Addr × Obj)} {σ : L2.St} {H : Hp} {s : Shared} {a : Addr} {t : Tab} (I : Inv X pins σ H s) (h : Rd H a (.dK (tabK t))) : Reads s.heap (.ref a) (tabD t) [a] ∧ a ≠ sysModules := by
  obtain ⟨z, lo, vs, lv, ent, o, es, ep, ho, ex, da, ko, pr, _⟩ := tab_at I h
  have all : ∀ {es : List DictEntry} {vs : List (Key × Value)} {t : Tab}, Pairs (mixKind X.prog X.w) es vs → vs.length = t.length → (∀ (i : Nat) q, vs[i]? = some q → ∃ p u, t[i]? = some p ∧ q = (.inl p.1, .int p.2 u)) →
      ReadsAll s.heap (es.map (·.key)) (t.map fun p => .int p.1) [] ∧ ReadsAll s.heap (es.map (·.val)) (t.map fun p => .int p.2) [] := by
    intro es vs t pr
    induction pr generalizing t with
    | nil =>
      intro l _
      cases t with
      | nil => exact ⟨.nil, .nil⟩
      | cons p t => cases l
    | @cons e kv es kvs h1 h2 _ ih =>
      intro l g
      cases t with
      | nil => cases l
      | cons p t =>
        obtain ⟨p2, u, hp, eq⟩ := g 0 kv rfl
        obtain rfl := Option.some.inj hp
        subst eq
        obtain ⟨i1, i2⟩ := ih (Nat.succ.inj l) fun i q hq => g (i + 1) q hq
        have e1 : keyIs (.inl p.1) e.key = true := h1
        rcases keyIs_shape e1 with ⟨i, tt, ek, ev⟩ | ⟨y, tt, ek, ev⟩
        · obtain rfl := Sum.inl.inj ek
          refine ⟨?_, ?_⟩
          · have c := ReadsAll.cons (Reads.int (h := s.heap) p.1 tt) i1
            rw [List.map_cons, ev]
            exact c
          · have c := ReadsAll.cons (Reads.int (h := s.heap) p.2 u) i2
            rw [List.map_cons, h2]
            exact c
        · cases ek
  obtain ⟨r1, r2⟩ := all pr lv ent
  have ne : a ≠ sysModules := fun z => by
    rw [z] at lo
    exact absurd lo (by simp)
  refine ⟨?_, ne⟩
  have m1 : (t.map fun p => ((.int p.1, .int p.2) : PyData × PyData)).map (·.1) = t.map fun p => .int p.1 := by simp
  have m2 : (t.map fun p => ((.int p.1, .int p.2) : PyData × PyData)).map (·.2) = t.map fun p => .int p.2 := by simp
  exact Reads.dict ho ex.1 da (m1 ▸ r1) (m2 ▸ r2)
theorem cr_reprTab {j : Nat} (gd : X.A.guards = some []) (hr : Room j X.A) : CallR X (.builtin "repr") rReprTab := by
  intro pins s σ H xs us Q I rel ask
  obtain ⟨a, t, rfl, hd, sw, sz, q⟩ := ask
  obtain rfl := Vals.ref1 rel
  obtain ⟨rd, ne⟩ := tab_reads I hd
  have dp : (tabD t).depth ≤ 1 := by
    have key : ∀ t : Tab, PyData.depthKv (t.map fun p => ((.int p.1, .int p.2) : PyData × PyData)) = 0 := by
      intro t
      induction t with
      | nil => simp [PyData.depthKv]
      | cons p t ih => simp [PyData.depthKv, PyData.depth, ih]
    unfold tabD
    simp [PyData.depth, key]
  refine repr_of_reads' rd sw (fun _ m => ne (List.mem_singleton.mp m).symm) gd (by have := hr.un; omega) (fun _ _ z => z) (fun h' u tk kept => ?_) sz
  exact ⟨.str (tabD t).shown, H, I.kept kept, ⟨u, rfl⟩, q⟩
/-- two tables are alike -/
def likeT (t u : Tab) : Bool := t.length == u.length && t.all fun p => decide (getT u p.1 = some p.2)
def rEqTab : R2 := fun x y H Q => ∃ (a b : Addr) (t u : Tab), x = .ref a ∧ y = .ref b ∧ Rd H a (.dK (tabK t)) ∧ Rd H b (.dK (tabK u)) ∧ Q (.bl (likeT t u)) H
theorem op_eqTab (hu : X.A.units + 64 < cLine) : OpR X (compareOp .Eq) rEqTab := by
  intro pins s σ H x y v w' Q I rx ry ask
  obtain ⟨a, b, t, u, rfl, rfl, ha, hb, q⟩ := ask
  cases rx
  cases ry
  obtain ⟨z1, lo1, vs1, l1, e1, d1⟩ := tab_at I ha
  obtain ⟨z2, lo2, vs2, l2, e2, d2⟩ := tab_at I hb
  have val2 : ∀ k, (∀ j, getT u k = some j → ∃ w, PySem.valueAt vs2 (.inl k) = some (.int j w)) ∧ (getT u k = none → PySem.valueAt vs2 (.inl k) = none) := by
    have key : ∀ {u : Tab} {vs : List (Key × Value)}, vs.length = u.length → (∀ (i : Nat) q, vs[i]? = some q → ∃ p w, u[i]? = some p ∧ q = (.inl p.1, .int p.2 w)) → ∀ k, (∀ j, getT u k = some j → ∃ w, PySem.valueAt vs (.inl k) = some (.int j w)) ∧ (getT u k = none → PySem.valueAt vs (.inl k) = none) := by
      intro u
      induction u with
      | nil =>
        intro vs l g k
        cases vs with
        | nil => exact ⟨fun j h => (by cases h), fun _ => rfl⟩
        | cons _ _ => cases l
      | cons p u ih =>
        intro vs l g k
        cases vs with
        | nil => cases l
        | cons q vs =>
          obtain ⟨p2, w, hp, eq⟩ := g 0 q rfl
          obtain rfl := Option.some.inj hp
          subst eq
          have ih := ih (Nat.succ.inj l) (fun i q hq => g (i + 1) q hq) k
          by_cases h : p.1 = k
          · have a1 : getT (p :: u) k = some p.2 := by simp [getT, h]
            have a2 : PySem.valueAt (((.inl p.1 : Key), (Value.int p.2 w)) :: vs) (.inl k) = some (.int p.2 w) := by simp [PySem.valueAt, h]
            rw [a1, a2]
            exact ⟨fun j hj => ⟨w, by rw [Option.some.inj hj]⟩, fun z => (by cases z)⟩
          · have a1 : getT (p :: u) k = getT u k := by simp [getT, h]
            have a2 : PySem.valueAt (((.inl p.1 : Key), (Value.int p.2 w)) :: vs) (.inl k) = PySem.valueAt vs (.inl k) := by simp [PySem.valueAt, h]
            rw [a1, a2]
            exact ih
    exact key l2 e2
  have hits : PySem.W.KeqHits X.A.in1 s vs2 vs1 (t.all fun p => decide (getT u p.1 = some p.2)) := by
    have key : ∀ {t : Tab} {vs : List (Key × Value)}, vs.length = t.length → (∀ (i : Nat) q, vs[i]? = some q → ∃ p w, t[i]? = some p ∧ q = (.inl p.1, .int p.2 w)) → PySem.W.KeqHits X.A.in1 s vs2 vs (t.all fun p => decide (getT u p.1 = some p.2)) := by
      intro t
      induction t with
      | nil =>
        intro vs l g
        cases vs with
        | nil => exact .nil
        | cons _ _ => cases l
      | cons p t ih =>
        intro vs l g
        cases vs with
        | nil => cases l
        | cons q vs =>
          obtain ⟨p2, w, hp, eq⟩ := g 0 q rfl
          obtain rfl := Option.some.inj hp
          subst eq
          have ih := ih (Nat.succ.inj l) fun i q hq => g (i + 1) q hq
          rw [List.all_cons]
          cases hg : getT u p.1 with
          | none =>
            have e : decide ((none : Option Int) = some p.2) = false := rfl
            rw [e, Bool.false_and]
            exact .miss ((val2 p.1).2 hg)
          | some j =>
            obtain ⟨w2, hv⟩ := (val2 p.1).1 j hg
            refine .hit hv ?_ ih
            have e : decide (some j = some p.2) = (p.2 == j) := by
              by_cases h : p.2 = j
              · subst h
                simp
              · have h2 : ¬ j = p.2 := fun z => h z.symm
                simp [h, h2]
            rw [e]
            exact SeqAt.EqAt.int_int p.2 w j w2
    exact key l1 e1
  refine PySem.W.keq_eq lo1 lo2 d1 d2 (by omega) (fun _ => hits) ⟨.bl _, H, I, rfl, ?_⟩
  rw [l1, l2]
  exact q
end
end Gx

set_option maxHeartbeats 2000000
/-! Dicts of whole numbers by whole numbers and texts; what repr shows of any thing; str of data -/
namespace Gx
open PySem L2 PySem.Spec PyProof.Rows
/-- a table with keys of both kinds -/
abbrev MTab := List (Key × Int)
def keyD : Key → PyData
  | .inl i => .int i
  | .inr x => .str x
def mtabK (t : MTab) : List (Key × V) := t.map fun p => (p.1, .int p.2)
def mtabD (t : MTab) : PyData := .dict (t.map fun p => (keyD p.1, .int p.2))
theorem mtab_len (t : MTab) : (mtabK t).length = t.length := List.length_map _
section
variable {X : Cx} {pins : List (Addr × Obj)} {σ : L2.St} {H : Hp} {s : Shared} {a : Addr} {t : MTab}
theorem mtab_at (I : Inv X pins σ H s) (h : Rd H a (.dK (mtabK t))) : t.length ≤ sizeLine ∧ (a == sysModules) = false ∧ ∃ vs : List (Key × Value), vs.length = t.length ∧ (∀ (i : Nat) q, vs[i]? = some q → ∃ p u, t[i]? = some p ∧ q = (p.1, .int p.2 u)) ∧ s.heap.DictOf (mixKind X.prog X.w) a vs := by
  obtain ⟨z, lo, vs, rel, dd⟩ := dk_rd I.hok h
  rw [mtab_len] at z
  have e : ∀ {t : MTab} {vs : List (Key × Value)}, KV (mtabK t) vs → vs.length = t.length ∧ ∀ (i : Nat) q, vs[i]? = some q → ∃ p u, t[i]? = some p ∧ q = (p.1, .int p.2 u) := by
    intro t
    induction t with
    | nil =>
      intro vs r
      cases r
      exact ⟨rfl, fun i q z => by simp at z⟩
    | cons p t ih =>
      intro vs r
      cases r with
      | @cons _ q _ qs h1 h2 =>
        obtain ⟨l, g⟩ := ih h2
        refine ⟨by rw [List.length_cons, List.length_cons, l], fun i y hy => ?_⟩
        cases i with
        | zero =>
          obtain rfl := Option.some.inj hy
          obtain ⟨k1, u, k2⟩ := h1
          exact ⟨p, u, rfl, by rw [← k2]; exact Prod.ext k1.symm rfl⟩
        | succ i => exact g i y hy
  obtain ⟨l, g⟩ := e rel
  exact ⟨z, lo, vs, l, g, dd⟩
theorem mtab_reads (I : Inv X pins σ H s) (h : Rd H a (.dK (mtabK t))) : Reads s.heap (.ref a) (mtabD t) [a] ∧ a ≠ sysModules := by
  obtain ⟨z, lo, vs, lv, ent, o, es, ep, ho, ex, da, ko, pr, _⟩ := mtab_at I h
  have all : ∀ {es : List DictEntry} {vs : List (Key × Value)} {t : MTab}, Pairs (mixKind X.prog X.w) es vs → vs.length = t.length → (∀ (i : Nat) q, vs[i]? = some q → ∃ p u, t[i]? = some p ∧ q = (p.1, .int p.2 u)) →
      ReadsAll s.heap (es.map (·.key)) (t.map fun p => keyD p.1) [] ∧ ReadsAll s.heap (es.map (·.val)) (t.map fun p => .int p.2) [] := by
    intro es vs t pr
    induction pr generalizing t with
    | nil =>
      intro l _
      cases t with
      | nil => exact ⟨.nil, .nil⟩
      | cons p t => cases l
    | @cons e kv es kvs h1 h2 _ ih =>
      intro l g
      cases t with
      | nil => cases l
      | cons p t =>
        obtain ⟨p2, u, hp, eq⟩ := g 0 kv rfl
        obtain rfl := Option.some.inj hp
        subst eq
        obtain ⟨i1, i2⟩ := ih (Nat.succ.inj l) fun i q hq => g (i + 1) q hq
        have e1 : keyIs p.1 e.key = true := h1
        refine ⟨?_, ?_⟩
        · rw [List.map_cons, List.map_cons]
          rcases keyIs_shape e1 with ⟨i, tt, ek, ev⟩ | ⟨y, tt, ek, ev⟩
          · rw [ek, ev]
            exact ReadsAll.cons (Reads.int (h := s.heap) i tt) i1
          · rw [ek, ev]
            exact ReadsAll.cons (Reads.str (h := s.heap) y tt) i1
        · have c := ReadsAll.cons (Reads.int (h := s.heap) p.2 u) i2
          rw [List.map_cons, h2]
          exact c
  obtain ⟨r1, r2⟩ := all pr lv ent
  have ne : a ≠ sysModules := fun z => by
    rw [z] at lo
    exact absurd lo (by simp)
  refine ⟨?_, ne⟩
  have m1 : (t.map fun p => ((keyD p.1, .int p.2) : PyData × PyData)).map (·.1) = t.map fun p => keyD p.1 := by simp
  have m2 : (t.map fun p => ((keyD p.1, .int p.2) : PyData × PyData)).map (·.2) = t.map fun p => .int p.2 := by simp
  exact Reads.dict ho ex.1 da (m1 ▸ r1) (m2 ▸ r2)
end
/-- what repr shows of a thing -/
inductive ShK (K : PySem.W.Frag) (H : Hp) : V → Str → Prop
  | dat {x : V} {d : PyData} (h : Dp K H x d) (sh : SeqAt.shaped d = true) (sw : d.showable = true) (sz : d.shown.length ≤ sizeLine) : ShK K H x d.shown
  | tab {a : Addr} {t : MTab} (h : Rd H a (.dK (mtabK t))) (sw : (mtabD t).showable = true) (sz : (mtabD t).shown.length ≤ sizeLine) : ShK K H (.ref a) (mtabD t).shown
theorem shK_same {K : PySem.W.Frag} {H H' : Hp} {x : V} {y : Str} (S : Same H H') (h : ShK K H x y) : ShK K H' x y := by
  cases h with
  | dat h sh sw sz => exact .dat (dp_same S _ _ h) sh sw sz
  | tab h sw sz =>
    refine .tab ?_ sw sz
    rcases h with h | ⟨o, h⟩
    · exact .inl (S _ _ h)
    · exact .inr ⟨o, S _ _ h⟩
def rReprS (K : PySem.W.Frag) : List V → Hp → VK → Prop := fun xs H Q => ∃ x y, xs = [x] ∧ ShK K H x y ∧ Q (.str y) H
theorem cr_reprS {X : Cx} {j : Nat} (gd : X.A.guards = some []) (hr : Room j X.A) : CallR X (.builtin "repr") (rReprS X.K) := by
  intro pins s σ H xs us Q I rel h
  obtain ⟨x, y, rfl, sh, q⟩ := h
  cases sh with
  | dat h sh sw sz => exact cr_reprV gd hr pins s σ H _ us Q I rel ⟨_, _, rfl, h, sh, sw, sz, q⟩
  | @tab a t hd sw sz =>
    obtain rfl := Vals.ref1 rel
    obtain ⟨rd, ne⟩ := mtab_reads I hd
    have dp : (mtabD t).depth ≤ 1 := by
      have key : ∀ t : MTab, PyData.depthKv (t.map fun p => ((keyD p.1, .int p.2) : PyData × PyData)) = 0 := by
        intro t
        induction t with
        | nil => simp [PyData.depthKv]
        | cons p t ih =>
          obtain ⟨k, v⟩ := p
          have ih' : PyData.depthKv (List.map (fun p => ((keyD p.1, .int p.2) : PyData × PyData)) t) = 0 := ih
          rw [List.map_cons]
          have e0 : (keyD k).depth = 0 := by cases k <;> simp [keyD, PyData.depth]
          unfold PyData.depthKv
          simp only [e0, ih']
          simp [PyData.depth]
      unfold mtabD
      simp [PyData.depth, key]
    refine repr_of_reads' rd sw (fun _ m => ne (List.mem_singleton.mp m).symm) gd (by have := hr.un; omega) (fun _ _ z => z) (fun h' u tk kept => ?_) sz
    exact ⟨.str (mtabD t).shown, H, I.kept kept, ⟨u, rfl⟩, q⟩
theorem g_reprS {K : PySem.W.Frag} {H : Hp} {Q : VK} {x : V} {y : Str} (h : ShK K H x y) (q : Q (.str y) H) : rReprS K [x] H Q := ⟨x, y, rfl, h, q⟩
theorem sh_fine {K : PySem.W.Frag} {H : Hp} {x : V} {n m : Nat} {d : PyData} (h : Dp K H x d) (f : Fine n m d) (hn : n ≤ 64) (hm : m ≤ 100000) : ShK K H x d.shown := .dat h (f.shaped hn) (small_show d f.sm) (f.text hm)
/-- str of whole numbers and tuples, lists -/
def rStrV (K : PySem.W.Frag) : List V → Hp → VK → Prop := fun xs H Q => ∃ x d, xs = [x] ∧ Dp K H x d ∧ (∀ y, d ≠ .str y) ∧ (∀ b, d ≠ .bool b) ∧ d ≠ .none ∧ SeqAt.shaped d = true ∧ d.showable = true ∧ d.shown.length ≤ sizeLine ∧ Q (.str d.shown) H
theorem cr_strV {X : Cx} {j : Nat} (gd : X.A.guards = some []) (hr : Room j X.A) : CallR X (.type "str") (rStrV X.K) := by
  intro pins s σ H xs us Q I rel h
  obtain ⟨x, d, rfl, dp, no1, no2, no3, sh, sw, sz, q⟩ := h
  have refs : ∀ {a : Addr} {d : PyData}, Dp X.K H (.ref a) d → SeqAt.shaped d = true → d.showable = true → d.shown.length ≤ sizeLine → Q (.str d.shown) H → us = [.ref a] → wpAny (model X.prog X.w) X.A (call (.type "str") us) (EP X pins σ Q) X.xe s := by
    intro a d dp sh sw sz q e
    subst e
    obtain ⟨as, rd⟩ := Dp.reads I d _ _ dp rfl
    have dd := SeqAt.depth_of_shaped sh
    have u := hr.un
    exact str_of_reads rd sw (PyData.noDict_hsm (PyData.hasDict_of_canLay d (SeqAt.canLay_of_shaped sh))) gd (by omega) (fun _ _ z => z) (fun h' u tk kept => ⟨.str d.shown, H, I.kept kept, ⟨u, rfl⟩, q⟩) sz
  cases dp with
  | non => exact absurd rfl no3
  | bl b => exact absurd rfl (no2 b)
  | str x => exact absurd rfl (no1 x)
  | int i =>
    cases rel with
    | cons r1 r2 =>
      cases r2
      obtain ⟨t, rfl⟩ := r1
      exact PySem.P.str_of_int (by simpa [PyData.showable] using sw) ⟨.str _, H, I.tok _, ⟨_, rfl⟩, q⟩
  | lst a b => exact refs (.lst a b) sh sw sz q (Vals.ref1 rel)
  | tup a b => exact refs (.tup a b) sh sw sz q (Vals.ref1 rel)
/-- a pair of whole numbers -/
def isPairD : PyData → Bool
  | .tuple ds => decide (ds.length = 2) && (ds.map isIntD).all id
  | _ => false
theorem dp_pair {K : PySem.W.Frag} {H : Hp} {x : V} {d : PyData} (h : Dp K H x d) : PairV K H x (isPairD d) := by
  cases h with
  | non => exact .other (.base .non) (kit_ty (by decide +kernel))
  | bl c => exact .other (.base (.bl c)) (kit_ty (by decide +kernel))
  | int i => exact .other (.base (.int i)) (kit_ty (by decide +kernel))
  | str x => exact .other (.base (.str x)) (kit_ty (by decide +kernel))
  | lst a b => exact .other (sqL_ty a) (kit_ty (by decide +kernel))
  | @tup r xs ds e d =>
    have ln := dpAll_len d
    have pv : PairV K H (.ref r) (decide (xs.length = 2) && (ds.map isIntD).all id) :=
      .tup (bs := ds.map isIntD) e (by rw [List.length_map, ln]) fun i x b h1 h2 => by
        obtain ⟨d', h3, h4⟩ := dpAll_get d h1
        rw [List.getElem?_map, h3] at h2
        have h2 : some (isIntD d') = some b := h2
        injection h2 with h2
        rw [← h2]
        exact dp_whole h4
    rw [ln] at pv
    exact pv
theorem rd_dict {K : PySem.W.Frag} {H : Hp} {a : Addr} {kvs : List (Key × V)} (h : Rd H a (.dK kvs)) : TyX K H (.ref a) (.type "dict") := by
  rcases h with h | ⟨o, h⟩
  · exact .base (.dK h)
  · exact .fDict h
end Gx

/-! Classes whose init may raise, made in a try; == and != of things of any kind; isinstance of a caught error; lists that hold a dict -/
namespace Gx
open PySem L2 PySem.Spec PyProof.Rows
open C8 (Cal Met Mak)
/-! ### making with an init that may raise -/
section
variable {X : Cx} {CX : CXT} {k j : Nat} {f C : Addr} {fd : FuncData} {ps ks : List Str} {sp : Sp} {E : L2.St → XK} {x : Str} {p pos : Pos} {e : Expr} {es : List Expr} {kws : List Keyword} {t tk : TA} {g : List Value → List Value → List Value} {gV : List V → List V → List V}
structure MakX (P : Program) (w : World) (K : PySem.W.Frag) (mg : Str → Option Value) (base : Heap) (k : Nat) (x : Str) (C : Addr) (sp : Sp) : Prop where
  ex : ∃ (f : Addr) (fd : FuncData) (ps : List Str), Mk K C f ∧ FnOk P w K mg base (L2N.CX P w) k f fd ps sp ∧ mg x = some (.ref C) ∧ Binds K fd ps []
structure MakKX (P : Program) (w : World) (K : PySem.W.Frag) (mg : Str → Option Value) (base : Heap) (k : Nat) (x : Str) (C : Addr) (ks : List Str) (gV : List V → List V → List V) (sp : Sp) : Prop where
  ex : ∃ (f : Addr) (fd : FuncData) (ps : List Str) (g : List Value → List Value → List Value), Mk K C f ∧ FnOk P w K mg base (L2N.CX P w) k f fd ps sp ∧ mg x = some (.ref C) ∧ KBinds K fd ps ks g gV
theorem made_run {pins : List (Addr × Obj)} {σ : L2.St} {H : Hp} {s : Shared} {Q : VK} {us : List Value} {kw : List (Str × Value)} {vs : List V} (M : Mk X.K C f) (F : FnOk X.prog X.w X.K X.mg X.base CX k f fd ps sp) (hr : Room (k + 1) X.A) (hx : PassesAt CX X σ (E σ)) (I : Inv X pins σ H s)
    (hb : ∀ (s : Shared) (o : Addr), X.K.In s.heap → ∃ ws, BindsTo s fd ⟨.ref o :: us, kw⟩ (ps.zip ws) ∧ Vals (.ref o :: vs) ws)
    (h : ∀ x dx, H x = none → H dx = none → dx ≠ x → sp (.ref x :: vs) (upd (upd H dx (.own x)) x (.ins C dx [])) (fun v H2 => v = .non ∧ Q (.ref x) H2) (E σ)) :
    wpAny (model X.prog X.w) X.A (call (.ref C) us kw) (EP X pins σ Q) X.xe s := by
  have hq := h (s.heap.objs.size + 1) s.heap.objs.size (I.hok.fresh (Nat.le_succ _)) (I.hok.fresh (Nat.le_refl _)) (Nat.ne_of_lt (Nat.lt_succ_self _))
  have I2 := Inv.made (C := C) I
  obtain ⟨ws, b, r2⟩ := hb _ (s.heap.objs.size + 1) I2.kIn
  refine wpAny_call (make_map (f := f) I.kIn M.makes M.init (beq_iff_eq.mp M.fn) (codeAny_mono (F.run _ X.stack _ _ ⟨Value.ref (s.heap.objs.size + 1) :: us, kw⟩ ws _ _ (E σ) (hr.make C us kw)
    (I2.env0.make C us kw) b r2 hq) fun r s' hq' => ?_))
  cases r with
  | error e => exact hx pins _ _ e s' I2 hq'
  | ok fl =>
    cases fl with
    | ret u =>
      obtain ⟨v, H', I3, rv, ev, q3⟩ := I2.after hq'
      subst ev
      exact ⟨rv, ⟨V.ref (s.heap.objs.size + 1), H', I3, rfl, q3⟩⟩
    | next => exact False.elim hq'
    | brk => exact False.elim hq'
    | cont => exact False.elim hq'
def MakeSQ (C : Addr) (sp : Sp) (vs : List V) (E : XK) (H : Hp) (Q : VK) : Prop := ∀ x dx H', H x = none → Same H H' → H' x = some (.ins C dx []) → sp (.ref x :: vs) H' (fun v H2 => v = .non ∧ Q (.ref x) H2) E
def tMakeS (C : Addr) (sp : Sp) (E : L2.St → XK) (t : TA) : TE := fun σ H Q => t σ H fun vs H1 => MakeSQ C sp vs (E σ) H1 Q
def tMakeKS (C : Addr) (sp : Sp) (E : L2.St → XK) (tk : TA) : TE := fun σ H Q => tk σ H fun zs H1 => ∃ z, zs = [z] ∧ MakeSQ C sp [z] (E σ) H1 Q
theorem pe_mkX (c : MakX X.prog X.w X.K X.mg X.base k x C sp) (hr : Room j X.A) (hk : k + 1 ≤ j) (hg : Gl X x) (hx : ∀ σ, PassesAt (L2N.CX X.prog X.w) X σ (E σ)) (ha : PA X (e :: es) t)
    (hdb : (x == ("__debug__" : Str)) = false := by decide) (he : starEach (e :: es) X.env = (false, eval e X.env) :: starEach es X.env := by rfl) (hpl : (backTo pos (starEach es X.env)).any (·.1) = false := by rfl) :
    PE X (.Call (.Name x p) (e :: es) [] pos) (tMakeS C sp E t) := by
  obtain ⟨f, fd, ps, M, F, hm, b⟩ := c.ex
  refine ⟨fun pins s σ H Q I h => ?_⟩
  refine wpAny_Call_Name_kw (ld_glob I hg hm ?_ hdb)
  refine PySem.W.callWith_K (h₀ := X.base) I.ok.mod.kin M.kp (thn (ha.run pos pins s σ H _ I h) fun us s1 ⟨vs, H1, I1, r, q⟩ => ⟨I1.kIn, ?_⟩) he hpl
  refine made_run (vs := vs) M F (hr.mono hk) (hx σ) I1 (fun s o hK => ⟨.ref o :: us, ?_, .cons rfl r⟩) fun x dx h1 h2 _ => q x dx _ h1 (same_mut (same_new h2) h1) upd_same
  have hl : (Value.ref o :: us).length = ps.length := by
    have r2 : Vals (V.ref o :: vs) (Value.ref o :: us) := .cons rfl r
    have := F.len _ _ _ _ (q (s1.heap.objs.size + 1) s1.heap.objs.size _ (I1.hok.fresh (Nat.le_succ _)) (same_mut (same_new (o := HO.lst []) (I1.hok.fresh (Nat.le_refl _))) (I1.hok.fresh (Nat.le_succ _))) upd_same)
    rw [← r2.length]
    exact this
  have := b s (.ref o :: us) hK (by rw [List.append_nil]; exact hl)
  rw [List.append_nil] at this
  exact this
theorem pe_mkKX {kn : Str} (c : MakKX X.prog X.w X.K X.mg X.base k x C [kn] oneV sp) (hr : Room j X.A) (hk : k + 1 ≤ j) (hg : Gl X x) (hx : ∀ σ, PassesAt (L2N.CX X.prog X.w) X σ (E σ)) (hkw : PK X kws tk)
    (hdb : (x == ("__debug__" : Str)) = false := by decide) (hall : (backToKw pos (keywordEach kws X.env)).all (·.1.isSome) = true := by rfl) (hks : (backToKw pos (keywordEach kws X.env)).filterMap (·.1) = [kn] := by rfl)
    (hpl : ((backTo pos (starEach [] X.env)).any (·.1) || (backToKw pos (keywordEach kws X.env)).any (·.1.isNone)) = false := by rfl) :
    PE X (.Call (.Name x p) [] kws pos) (tMakeKS C sp E tk) := by
  obtain ⟨f, fd, ps, g, M, F, hm, b⟩ := c.ex
  refine ⟨fun pins s σ H Q I h => ?_⟩
  refine wpAny_Call_Name_kw (ld_glob I hg hm ?_ hdb)
  refine PySem.W.callWith_KW0 (h₀ := X.base) I.ok.mod.kin M.kp hall ?_ hpl
  refine thn (hkw.run pos pins s σ H _ I h) fun ws s2 ⟨zs, H2, I2, rz, z, ez, q2⟩ => ⟨I2.kIn, ?_⟩
  subst ez
  rw [hks]
  refine made_run (vs := [z]) M F (hr.mono hk) (hx σ) I2 (fun s o hK => ?_) fun x dx h1 h2 _ => q2 x dx _ h1 (same_mut (same_new h2) h1) upd_same
  have r1 : Vals [V.ref o] [Value.ref o] := .cons rfl .nil
  have r2 := b.rel r1 rz
  refine ⟨g [.ref o] ws, ?_, r2⟩
  refine b.to s [.ref o] ws hK ?_
  rw [← r2.length]
  exact (F.len [.ref (s2.heap.objs.size + 1), z] _ _ _ (q2 (s2.heap.objs.size + 1) s2.heap.objs.size _ (I2.hok.fresh (Nat.le_succ _)) (same_mut (same_new (o := HO.lst []) (I2.hok.fresh (Nat.le_refl _))) (I2.hok.fresh (Nat.le_succ _))) upd_same) :)
theorem g_tmakeS {σ : L2.St} {H : Hp} {Q : VK} (q : t σ H fun vs H1 => MakeSQ C sp vs (E σ) H1 Q) : tMakeS C sp E t σ H Q := q
def OneSQ (C : Addr) (sp : Sp) (E : XK) (zs : List V) (H : Hp) (Q : VK) : Prop := ∃ z, zs = [z] ∧ MakeSQ C sp [z] E H Q
theorem g_tmakeKS {σ : L2.St} {H : Hp} {Q : VK} (q : tk σ H fun zs H1 => OneSQ C sp (E σ) zs H1 Q) : tMakeKS C sp E tk σ H Q := q
theorem g_oneS {E : XK} {z : V} {H : Hp} {Q : VK} (q : MakeSQ C sp [z] E H Q) : OneSQ C sp E [z] H Q := ⟨z, rfl, q⟩
theorem g_makeS {E : XK} {vs : List V} {H : Hp} {Q : VK} (k : ∀ x dx H', H x = none → Same H H' → H' x = some (.ins C dx []) → sp (.ref x :: vs) H' (fun v H2 => v = .non ∧ Q (.ref x) H2) E) : MakeSQ C sp vs E H Q := k
end
/-! ### == and != of things of any kind -/
section
variable {X : Cx} {k j : Nat} {S : Addr → Prop} {sp : Addr → Sp}
theorem tyX_looks {pins : List (Addr × Obj)} {σ : L2.St} {H : Hp} {s : Shared} {x : V} {u t : Value} (I : Inv X pins σ H s) (rx : RelV x u) (ty : TyX X.K H x t) : PySem.W.Looks (model X.prog X.w) s.heap (typeOf u) t := by
  obtain ⟨P, k, hp, _⟩ := kit_of I rx ty
  exact k.ty _ _ I.kIn hp
/-- x == y (x != y) by x's own == -/
def rOwnQ (K : PySem.W.Frag) (S : Addr → Prop) (sp : Addr → Sp) (neg : Bool) : R2 := fun x y H Q => ∃ a C dx fs t, x = .ref a ∧ H a = some (.ins C dx fs) ∧ S C ∧ TyX K H y t ∧ PySem.W.notFirst K C t = true ∧ sp C [.ref a, y] H (fun r H' => ∃ t, r = .bl t ∧ Q (.bl (if neg = true then !t else t)) H') (fun _ _ _ => False)
theorem op_ownEqQ (c : MetF X.prog X.w X.K X.mg X.base CX0 k S "__eq__" sp) (hr : Room j X.A) (hk : k ≤ j) : OpR X (compareOp .Eq) (rOwnQ X.K S sp false) := by
  intro pins s σ H x y v u Q I rx ry h
  obtain ⟨a, C, dx, fs, t, rfl, ha, hC, ty, nf, q⟩ := h
  cases rx
  have lk := tyX_looks I ry ty
  obtain ⟨f, fd, ps, cl, me, F, hb⟩ := c.ex C hC
  obtain ⟨mA, J, _⟩ := ins_get I.hok ha
  obtain ⟨od, J, _⟩ := J.look
  obtain ⟨m, hF⟩ := I.fr
  show wpAny (model X.prog X.w) X.A (richCompare .Eq (.ref a) u) _ _ _
  refine PySem.W.cmp_K (op := .Eq) (tb := t) hr.units0 hF I.ok.mod.kin J lk nf me.at_ me.fn (wpAny_mono (own_run (vs := [.ref a, y]) F (hr.mono hk) hb I (.cons rfl (.cons ry .nil)) q) (fun z s' hz => ?_) fun _ _ e => e)
  obtain ⟨r, H', I', rz, t, rfl, q'⟩ := hz
  cases rz
  exact ⟨.bl t, H', I', rfl, q'⟩
theorem op_ownNeQ (c : MetF X.prog X.w X.K X.mg X.base CX0 k S "__eq__" sp) (n : ∀ C, S C → NoNe X.K C) (hr : Room j X.A) (hk : k + 1 ≤ j) : OpR X (compareOp .NotEq) (rOwnQ X.K S sp true) := by
  intro pins s σ H x y v u Q I rx ry h
  obtain ⟨a, C, dx, fs, t, rfl, ha, hC, ty, nf, q⟩ := h
  cases rx
  have lk := tyX_looks I ry ty
  obtain ⟨f, fd, ps, cl, me, F, hb⟩ := c.ex C hC
  obtain ⟨mA, J, _⟩ := ins_get I.hok ha
  obtain ⟨od, J, _⟩ := J.look
  obtain ⟨nn, hm⟩ := n C hC
  have hrk : Room (k + 1) X.A := hr.mono hk
  show wpAny (model X.prog X.w) X.A (richCompare .NotEq (.ref a) u) _ _ _
  refine GxNe.cmpNe_K (tb := t) hr.units0 hrk.in1.units0 I.kIn J lk nf hm nn me.at_ me.fn (wpAny_mono (own_run1 (vs := [.ref a, y]) F hrk hb I (.cons rfl (.cons ry .nil)) q) (fun z s' hz => ?_) fun _ _ e => e)
  obtain ⟨r, H', I', rz, t, rfl, q'⟩ := hz
  cases rz
  exact ⟨t, rfl, .bl (!t), H', I', rfl, q'⟩
/-- y of a class under that of x: y's own == is asked first -/
def rOwnW (K : PySem.W.Frag) (S : Addr → Prop) (sp : Addr → Sp) (neg : Bool) : R2 := fun x y H Q => ∃ a b C D dx dy fs gs, x = .ref a ∧ y = .ref b ∧ H a = some (.ins C dx fs) ∧ H b = some (.ins D dy gs) ∧ S D ∧ (Value.ref C != Value.ref D) = true ∧ PySem.W.subIn K (.ref D) (.ref C) = some true ∧
  sp D [.ref b, .ref a] H (fun r H' => ∃ t, r = .bl t ∧ Q (.bl (if neg = true then !t else t)) H') (fun _ _ _ => False)
theorem op_ownEqW (c : MetF X.prog X.w X.K X.mg X.base CX0 k S "__eq__" sp) (hr : Room j X.A) (hk : k ≤ j) : OpR X (compareOp .Eq) (rOwnW X.K S sp false) := by
  intro pins s σ H x y v u Q I rx ry h
  obtain ⟨a, b, C, D, dx, dy, fs, gs, rfl, rfl, ha, hb', hD, ne, su, q⟩ := h
  cases rx
  cases ry
  obtain ⟨f, fd, ps, cl, me, F, hb⟩ := c.ex D hD
  obtain ⟨mA, J, _⟩ := ins_get I.hok ha
  obtain ⟨mB, J', _⟩ := ins_get I.hok hb'
  obtain ⟨od, J, _⟩ := J.look
  obtain ⟨od', J', _⟩ := J'.look
  show wpAny (model X.prog X.w) X.A (richCompare .Eq (.ref a) (.ref b)) _ _ _
  have one : wpAny (model X.prog X.w) X.A (tryCompare (.ref b) "__eq__" (.ref a)) (fun r s' => ∃ v, r = some v ∧ EP X pins σ Q v s') X.xe s := by
    unfold tryCompare
    refine wpAny_bind (PySem.W.ifBound_K I.kIn J' me.at_ me.fn (wpAny_mono (own_run (vs := [.ref b, .ref a]) F (hr.mono hk) hb I (.cons rfl (.cons rfl .nil)) q) (fun z s' hz => ?_) fun _ _ e => e))
    obtain ⟨r, H', I', rz, t, rfl, q'⟩ := hz
    cases rz
    exact wpAny_pure ⟨_, rfl, .bl t, H', I', rfl, q'⟩
  unfold richCompare
  simp only [oneThing_ref, cmpInfo_Eq]
  refine wpAny_holding (wpAny_bind (wpAny_cRoomFor hr.units0 ?_))
  refine wpAny_bind (J.type.here (wpAny_bind (J'.type.here ?_)))
  rw [if_pos ne]
  refine wpAny_bind ((PySem.W.looks_subIn I.kIn su).here ?_)
  simp only [if_true]
  refine wpAny_bind (wpAny_mono one (fun r s' z => ?_) fun _ _ e => e)
  obtain ⟨v, rfl, hq⟩ := z
  exact wpAny_bind (wpAny_rule (wpAny_pure hq))
theorem op_ownNeW (c : MetF X.prog X.w X.K X.mg X.base CX0 k S "__eq__" sp) (n : ∀ C, S C → NoNe X.K C) (hr : Room j X.A) (hk : k + 1 ≤ j) : OpR X (compareOp .NotEq) (rOwnW X.K S sp true) := by
  intro pins s σ H x y v u Q I rx ry h
  obtain ⟨a, b, C, D, dx, dy, fs, gs, rfl, rfl, ha, hb', hD, ne, su, q⟩ := h
  cases rx
  cases ry
  obtain ⟨f, fd, ps, cl, me, F, hb⟩ := c.ex D hD
  obtain ⟨mA, J, _⟩ := ins_get I.hok ha
  obtain ⟨mB, J', _⟩ := ins_get I.hok hb'
  obtain ⟨od, J, _⟩ := J.look
  obtain ⟨od', J', _⟩ := J'.look
  obtain ⟨nn, hm⟩ := n D hD
  have hrk : Room (k + 1) X.A := hr.mono hk
  show wpAny (model X.prog X.w) X.A (richCompare .NotEq (.ref a) (.ref b)) _ _ _
  have one : wpAny (model X.prog X.w) X.A (tryCompare (.ref b) "__ne__" (.ref a)) (fun r s' => ∃ v, r = some v ∧ EP X pins σ Q v s') X.xe s := by
    unfold tryCompare
    refine wpAny_bind (GxNe.ifBound_objNe I.kIn J' nn (GxNe.call_objNe hrk.in1.units0 I.kIn J' hm me.at_ me.fn (wpAny_mono (own_run1 (vs := [.ref b, .ref a]) F hrk hb I (.cons rfl (.cons rfl .nil)) q) (fun z s' hz => ?_) fun _ _ e => e)))
    obtain ⟨r, H', I', rz, t, rfl, q'⟩ := hz
    cases rz
    exact ⟨t, rfl, wpAny_pure ⟨_, rfl, .bl (!t), H', I', rfl, q'⟩⟩
  unfold richCompare
  simp only [oneThing_ref, cmpInfo_NotEq]
  refine wpAny_holding (wpAny_bind (wpAny_cRoomFor hr.units0 ?_))
  refine wpAny_bind (J.type.here (wpAny_bind (J'.type.here ?_)))
  rw [if_pos ne]
  refine wpAny_bind ((PySem.W.looks_subIn I.kIn su).here ?_)
  simp only [if_true]
  refine wpAny_bind (wpAny_mono one (fun r s' z => ?_) fun _ _ e => e)
  obtain ⟨v, rfl, hq⟩ := z
  exact wpAny_bind (wpAny_rule (wpAny_pure hq))
/-- x == y, data or objects -/
def rAnyE (K : PySem.W.Frag) (S : Addr → Prop) (sp : Addr → Sp) : R2 := fun x y H Q => rOwnQ K S sp false x y H Q ∨ rOwnW K S sp false x y H Q ∨ rEqD K x y H Q
def rAnyN (K : PySem.W.Frag) (S : Addr → Prop) (sp : Addr → Sp) : R2 := fun x y H Q => rOwnQ K S sp true x y H Q ∨ rOwnW K S sp true x y H Q ∨ rNeD K x y H Q
theorem op_anyEq (c : MetF X.prog X.w X.K X.mg X.base CX0 k S "__eq__" sp) (hr : Room j X.A) (hk : k ≤ j) : OpR X (compareOp .Eq) (rAnyE X.K S sp) := by
  intro pins s σ H x y v u Q I rx ry h
  rcases h with h | h | h
  · exact op_ownEqQ c hr hk pins s σ H x y v u Q I rx ry h
  · exact op_ownEqW c hr hk pins s σ H x y v u Q I rx ry h
  · exact op_eqD hr.units pins s σ H x y v u Q I rx ry h
theorem op_anyNe (c : MetF X.prog X.w X.K X.mg X.base CX0 k S "__eq__" sp) (n : ∀ C, S C → NoNe X.K C) (hr : Room j X.A) (hk : k + 1 ≤ j) : OpR X (compareOp .NotEq) (rAnyN X.K S sp) := by
  intro pins s σ H x y v u Q I rx ry h
  rcases h with h | h | h
  · exact op_ownNeQ c n hr hk pins s σ H x y v u Q I rx ry h
  · exact op_ownNeW c n hr hk pins s σ H x y v u Q I rx ry h
  · exact op_neD hr.units pins s σ H x y v u Q I rx ry h
end
/-! ### isinstance of a caught error that has no dict -/
def rIsN (K : PySem.W.Frag) (a : Addr) (cls : Value) (d : Option Addr) : List V → Hp → VK → Prop := fun xs H Q => ∃ (D : Addr) (c : V) (u : Value) (b : Bool), xs = [.ref a, c] ∧ cls = .ref D ∧ d = none ∧ L2.ExcC K D ∧ ClsV c u ∧ PySem.W.kitOne K (.ref D) u = some b ∧ Q (.bl b) H
theorem call_isN {X : Cx} {a : Addr} {oe : Obj} {cls : Value} {d : Option Addr} {pn : List (Addr × Obj)} (hz : L2N.Zn cls d oe) (hf : ∃ vs, oe.data = .fields vs) : CallR (X.suite a ((a, oe) :: pn)) (.builtin "isinstance") (rIsN X.K a cls d) := by
  intro pins s σ H xs us Q I r h
  obtain ⟨D, c, u, b, rfl, rfl, rfl, C, k, e, q⟩ := h
  exact call_isE C hz.zc hf pins s σ H _ us Q I r ⟨c, u, b, rfl, fun u' r' => k.eq r', e, q⟩
theorem g_isN2 {K : PySem.W.Frag} {a D : Addr} {cls : Value} {d : Option Addr} {H : Hp} {Q : VK} {c : V} {u : Value} {b : Bool} (hc : cls = .ref D) (hd : d = none) (C : L2.ExcC K D) (k : ClsV c u) (e : PySem.W.kitOne K (.ref D) u = some b) (q : Q (.bl b) H) : rIsN K a cls d [.ref a, c] H Q := ⟨D, c, u, b, rfl, hc, hd, C, k, e, q⟩
/-! ### a list with a dict in it -/
def tLstX (t : TA) : TE := fun σ H Q => t σ H fun xs H1 => xs.length ≤ sizeLine ∧ ∀ p, H1 p = none → p ≠ sysModules → Q (.ref p) (upd H1 p (.lst xs))
theorem pe_lstX {X : Cx} {es : List Expr} {t : TA} {pos : Pos} (h : PA X es t) : PE X (.List es pos) (tLstX t) := by
  refine ⟨fun pins s σ H Q I hq => ?_⟩
  refine wpAny_List_spliced (thn (h.run pos pins s σ H _ I hq) fun us s1 ⟨xs, H1, I1, r, z, q⟩ => ⟨by rw [← r.length]; exact z, ?_⟩)
  have hf : H1 s1.heap.objs.size = none := I1.hok.fresh (Nat.le_refl _)
  refine ⟨.ref s1.heap.objs.size, upd H1 s1.heap.objs.size (.lst xs), I1.laid (t' := s1.toks) (fun b u e => Heap.get?_push_of_some _ e) (Nat.le_refl _) ?_, rfl, q _ hf (Nat.ne_of_gt I1.big)⟩
  exact ⟨z, us, 0, r, Heap.get?_push_size _ rfl⟩
def MkLX (xs : List V) (H : Hp) (Q : VK) : Prop := xs.length ≤ sizeLine ∧ ∀ p, H p = none → p ≠ sysModules → Q (.ref p) (upd H p (.lst xs))
theorem g_lstX {σ : L2.St} {H : Hp} {Q : VK} {t : TA} (q : t σ H fun xs H1 => MkLX xs H1 Q) : tLstX t σ H Q := q
theorem g_mkLX {xs : List V} {H : Hp} {Q : VK} (hl : xs.length ≤ 100000) (k : ∀ p H', H p = none → p ≠ sysModules → Same H H' → H' p = some (.lst xs) → Q (.ref p) H') : MkLX xs H Q := ⟨by rw [sizeLine_eq]; omega, fun p h n => k p _ h n (same_new h) upd_same⟩
/-- what repr shows of a thing, or of a list with an empty dict -/
def ShX (K : PySem.W.Frag) (H : Hp) (x : V) (y : Str) : Prop := ShK K H x y ∨ ∃ a b, x = .ref a ∧ a ≠ sysModules ∧ H a = some (.lst [.ref b]) ∧ Rd H b (.dK (mtabK [])) ∧ y = (PyData.list [mtabD []]).shown
theorem shX_same {K : PySem.W.Frag} {H H' : Hp} {x : V} {y : Str} (S : Same H H') (h : ShX K H x y) : ShX K H' x y := by
  rcases h with h | ⟨a, b, rfl, n, e, r, rfl⟩
  · exact .inl (shK_same S h)
  · refine .inr ⟨a, b, rfl, n, S _ _ e, ?_, rfl⟩
    rcases r with r | ⟨o, r⟩
    · exact .inl (S _ _ r)
    · exact .inr ⟨o, S _ _ r⟩
def rReprX (K : PySem.W.Frag) : List V → Hp → VK → Prop := fun xs H Q => ∃ x y, xs = [x] ∧ ShX K H x y ∧ Q (.str y) H
theorem cr_reprX {X : Cx} {j : Nat} (gd : X.A.guards = some []) (hr : Room j X.A) : CallR X (.builtin "repr") (rReprX X.K) := by
  intro pins s σ H xs us Q I rel h
  obtain ⟨x, y, rfl, sh, q⟩ := h
  rcases sh with sh | ⟨a, b, rfl, n, e, r, rfl⟩
  · exact cr_reprS gd hr pins s σ H _ us Q I rel ⟨_, _, rfl, sh, q⟩
  · obtain rfl := Vals.ref1 rel
    obtain ⟨rd, ne⟩ := mtab_reads I r
    obtain ⟨_, us, n1, rv, h1⟩ := (show ObjOk X.prog X.w H s.heap a (.lst [.ref b]) from I.hok a _ e)
    obtain ⟨u, rfl, ru⟩ := vals1 rv
    cases (show u = Value.ref b from ru)
    have rl : Reads s.heap (.ref a) (.list [mtabD []]) (a :: ([b] ++ [])) := Reads.list (vs := #[.ref b]) h1 rfl rfl (ReadsAll.cons rd ReadsAll.nil)
    have dep : (PyData.list [mtabD []]).depth ≤ 3 := by decide +kernel
    refine repr_of_reads' rl (by decide +kernel) (fun _ m => ?_) gd (by have := hr.un; exact Nat.lt_of_le_of_lt (Nat.add_le_add_left (Nat.add_le_add_right dep 1) _) (by omega)) (fun _ _ z => z) (fun h' u tk kept => ?_) (by decide +kernel)
    · rcases List.mem_cons.mp m with m | m
      · exact n m.symm
      · exact ne (List.mem_singleton.mp m).symm
    · exact ⟨.str _, H, I.kept kept, ⟨u, rfl⟩, q⟩
theorem g_reprX {K : PySem.W.Frag} {H : Hp} {Q : VK} {x : V} {y : Str} (h : ShX K H x y) (q : Q (.str y) H) : rReprX K [x] H Q := ⟨x, y, rfl, h, q⟩
end Gx

/-! Objects that are no ascending lists of points of a line -/
namespace Gx
open PySem L2 PySem.Spec PyProof.Rows
def isLstD : PyData → Bool
  | .list _ => true
  | _ => false
theorem dp_nolist {K : PySem.W.Frag} {H : Hp} {x : V} {d : PyData} (h : Dp K H x d) (n : isLstD d = false) : NoL K H x := by
  cases h with
  | non => exact ⟨_, .base .non, kit_ty (by decide +kernel)⟩
  | bl c => exact ⟨_, .base (.bl c), kit_ty (by decide +kernel)⟩
  | int i => exact ⟨_, .base (.int i), kit_ty (by decide +kernel)⟩
  | str x => exact ⟨_, .base (.str x), kit_ty (by decide +kernel)⟩
  | lst a b => cases n
  | tup a b => exact ⟨_, sqT_ty a, kit_ty (by decide +kernel)⟩
/-- points whose data tell what is no point -/
class Od (α : Type) extends Kb α where
  isD : PyData → Bool
  dp_pv : ∀ {K : PySem.W.Frag} {H : Hp} {x : V} {d : PyData}, Dp K H x d → Ln.pv α K H x (isD d)
  ty_pv : ∀ {K : PySem.W.Frag} {H : Hp} {x : V} {t : Value}, TyX K H x t → PySem.W.kitOne K t (.type "int") = some false → PySem.W.kitOne K t (.type "tuple") = some false → Ln.pv α K H x false
  is_pt : ∀ a : α, isD (Kd.D a) = true
  of_pt : ∀ d, isD d = true → ∃ a : α, d = Kd.D a
  is_no : ∀ d, isIntD d = false → isPairD d = false → isD d = false
  ok_str : ∀ a : α, PyData.strOk (Kd.D a).shown = true
  is_odd : ∀ a : α, isD (if isTupD (Kd.D a) = true then .int 7 else .tuple [.int 1, .int 2]) = false
theorem strOk_app {x y : Str} (h1 : PyData.strOk x = true) (h2 : PyData.strOk y = true) : PyData.strOk (x ++ y) = true := by
  unfold PyData.strOk at *
  have e : (x ++ y).cps = x.cps ++ y.cps := rfl
  rw [e, Array.all_append, h1, h2]
  rfl
theorem strOk_int (n : Int) : PyData.strOk (PyData.int n).shown = true := by
  show PyData.strOk (numS n) = true
  unfold PyData.strOk
  have e := tl_numS n
  rw [Array.all_eq_true_iff_forall_mem]
  intro c hc
  have hc : c ∈ numI n := by rw [← e]; exact Array.mem_toList_iff.mpr hc
  have h1 : ¬ (c ≠ 45 ∧ (c < 48 ∨ 57 < c)) := fun z => numI_free z.1 z.2 n hc
  simp only [decide_eq_true_eq]
  omega
instance odInt : Od Int where
  isD := isIntD
  dp_pv h := dp_whole h
  ty_pv ty n1 _ := WholeV.other ty n1
  is_pt _ := rfl
  of_pt d h := by
    cases d with
    | int i => exact ⟨i, rfl⟩
    | _ => cases h
  is_no _ h _ := h
  ok_str a := strOk_int a
  is_odd a := rfl
instance odPr : Od Pr where
  isD := isPairD
  dp_pv h := dp_pair h
  ty_pv ty _ n2 := PairV.other ty n2
  is_pt p := by
    show isPairD (.tuple [.int p.1, .int p.2]) = true
    simp [isPairD, isIntD]
  of_pt d h := by
    cases d with
    | tuple ds =>
      obtain ⟨i, j, rfl⟩ := two_of h
      exact ⟨(i, j), rfl⟩
    | _ => cases h
  is_no _ _ h := h
  is_odd p := rfl
  ok_str p := by
    show PyData.strOk (tupleText (PyData.shownAll [.int p.1, .int p.2])) = true
    have e : PyData.shownAll [.int p.1, .int p.2] = [(PyData.int p.1).shown, (PyData.int p.2).shown] := by simp only [PyData.shownAll]
    rw [e]
    unfold tupleText
    refine strOk_app (strOk_app (by decide +kernel) ?_) (show PyData.strOk ((")" : String) : Str) = true by decide +kernel)
    show PyData.strOk ((PyData.int p.1).shown ++ ", " ++ (PyData.int p.2).shown) = true
    exact strOk_app (strOk_app (strOk_int _) (by decide +kernel)) (strOk_int _)
section
variable {α : Type} [Od α] {K : PySem.W.Frag} {H : Hp}
open Kd
/-- neighbours ascend where all is right -/
theorem okIn_next {as ls : List α} (h : okIn as (ls.map some) = true) {i : Nat} {a b : α} (ha : ls[i]? = some a) (hb : ls[i + 1]? = some b) : lt a b = true := by
  unfold okIn at h
  rw [Bool.and_eq_true] at h
  have z := List.all_eq_true.mp h.2
  have e : (List.zipWith upO (ls.map some) ((ls.map some).drop 1))[i]? = some (upO (some a) (some b)) := by
    rw [List.getElem?_zipWith, List.getElem?_drop, List.getElem?_map, List.getElem?_map, ha]
    rw [show 1 + i = i + 1 by omega, hb]
    rfl
  exact z _ (List.mem_of_getElem? e)
theorem okIn_mem {as ls : List α} (h : okIn as (ls.map some) = true) {a : α} (m : a ∈ ls) : a ∈ as := by
  unfold okIn at h
  rw [Bool.and_eq_true] at h
  have z := List.all_eq_true.mp h.1 (some a) (List.mem_map.mpr ⟨a, m, rfl⟩)
  exact of_decide_eq_true z
/-- no ascending list of points of the line, and what repr shows of it -/
def BadI (K : PySem.W.Frag) (H : Hp) (as : List α) (x : V) : Prop := InV K H as x none ∧ ∃ y, ShK K H x y
theorem bad_no {as : List α} {x : V} {d : PyData} (h : Dp K H x d) (n : isLstD d = false) (s : ∃ y, ShK K H x y) : BadI K H as x := ⟨.inr (dp_nolist h n), s⟩
theorem bad_tab {as : List α} {a : Addr} {t : MTab} (h : Rd H a (.dK (mtabK t))) (s : ∃ y, ShK K H (.ref a) y) : BadI K H as (.ref a) := ⟨.inr ⟨_, rd_dict h, kit_ty (by decide +kernel)⟩, s⟩
theorem bad_one {as : List α} {a : Addr} {x : V} {d : PyData} (e : H a = some (.lst [x])) (h : Dp K H x d) (n : Od.isD α d = false) (s : ∃ y, ShK K H (.ref a) y) : BadI K H as (.ref a) := by
  refine ⟨.inl ⟨a, [none], rfl, ⟨[x], SqL.of e, rfl, fun i z o hz ho => ?_⟩, by simp, ?_⟩, s⟩
  · cases i with
    | zero =>
      obtain rfl := Option.some.inj hz
      obtain rfl := Option.some.inj ho
      have z := Od.dp_pv (α := α) h
      rw [n] at z
      exact z
    | succ i => cases hz
  · simp [okIn, inO]
theorem bad_tabs {as : List α} {a b : Addr} {t : MTab} (e : H a = some (.lst [.ref b])) (h : Rd H b (.dK (mtabK t))) (s : ∃ y, ShK K H (.ref a) y) : BadI K H as (.ref a) := by
  refine ⟨.inl ⟨a, [none], rfl, ⟨[.ref b], SqL.of e, rfl, fun i z o hz ho => ?_⟩, by simp, ?_⟩, s⟩
  · cases i with
    | zero =>
      obtain rfl := Option.some.inj hz
      obtain rfl := Option.some.inj ho
      exact Od.ty_pv (rd_dict h) (kit_ty (by decide +kernel)) (kit_ty (by decide +kernel))
    | succ i => cases hz
  · simp [okIn, inO]
theorem bad_pts {as ls : List α} {a : Addr} (h : PtsL K H a ls) (few : ls.length ≤ 100000) (no : okIn as (ls.map some) = false) (s : ∃ y, ShK K H (.ref a) y) : BadI K H as (.ref a) :=
  ⟨.inl ⟨a, ls.map some, rfl, inL_pts h, by rw [List.length_map]; exact few, no⟩, s⟩
theorem not_ok {as ls : List α} (h : okIn as (ls.map some) = true → False) : okIn as (ls.map some) = false := by
  cases c : okIn as (ls.map some) with
  | false => rfl
  | true => exact (h c).elim
theorem bad_same {H' : Hp} {as : List α} {x : V} (S : Same H H') (h : BadI K H as x) : BadI K H' as x := by
  obtain ⟨h, y, s⟩ := h
  refine ⟨?_, y, shK_same S s⟩
  rcases h with ⟨a, os, rfl, ⟨xs, sq, ln, it⟩, few, no⟩ | ⟨t, ty, n⟩
  · exact .inl ⟨a, os, rfl, ⟨xs, same_sq S sq, ln, fun i x o h1 h2 => itO_same S (it i x o h1 h2)⟩, few, no⟩
  · exact .inr ⟨t, tyX_same S ty, n⟩
/-- what repr shows of a list of points -/
theorem sh_pts {ls : List α} {a : Addr} (h : PtsL K H a ls) (few : ls.length ≤ 10000) (f : ∀ b ∈ ls, Fine 1 3 (D b)) : ∃ y, ShK K H (.ref a) y := by
  obtain ⟨xs, e, d⟩ := h
  have g : Fine 2 (3 * (ls.map D).length + 1) (.list (ls.map D)) := fine_list fun x hx => by
    obtain ⟨b, hb, rfl⟩ := List.mem_map.mp hx
    exact f b hb
  rw [List.length_map] at g
  exact ⟨_, sh_fine (.lst (SqL.of e) d) g (by omega) (by omega)⟩
/-- .. of a list with the text of a point -/
theorem sh_str {a : Addr} {p : α} (e : H a = some (.lst [.str (D p).shown])) (f : Fine 1 3 (D p)) : ∃ y, ShK K H (.ref a) y := by
  have ok := Od.ok_str p
  have l1 := shown_le (D p) f.sm
  have l2 := f.ct
  have l3 : (reprText (D p).shown).length ≤ 10 * (D p).shown.length + 2 := StrLaws.reprText_len _ fun c hc => by
    unfold PyData.strOk at ok
    rw [Array.all_eq_true_iff_forall_mem] at ok
    have := ok c (Array.mem_toList_iff.mp hc)
    simp only [decide_eq_true_eq] at this
    omega
  refine ⟨_, .dat (d := .list [.str (D p).shown]) (.lst (SqL.of e) (.cons (.str _) .nil)) ?_ ?_ ?_⟩
  · unfold SeqAt.shaped
    simp [PyData.canLay0, PyData.canLayAll0, ok, PyData.depth, PyData.depthAll]
  · simp [PyData.showable, PyData.showableAll]
  · have q := listText_le [reprText (D p).shown]
    have e1 : (PyData.list [.str (D p).shown]).shown = listText [reprText (D p).shown] := by simp [PyData.shown, PyData.shownAll]
    rw [e1, sizeLine_eq]
    simp only [piled_cons] at q
    have z : piled ([] : List Str) = 0 := rfl
    omega
/-- rows[::-1] -/
def RevQ (K : PySem.W.Frag) (Q : VK) : VK := fun x H1 => ∃ a xs, x = .ref a ∧ SqL K H1 a xs ∧ ∀ p, H1 p = none → Q (.ref p) (upd H1 p (.lst xs.reverse))
theorem g_revP {Q : VK} {a : Addr} {as : List α} (h : PtsL K H a as) (k : ∀ p H', H p = none → Same H H' → PtsL K H' p as.reverse → Q (.ref p) H') : RevQ K Q (.ref a) H := by
  obtain ⟨xs, e, d⟩ := h
  refine ⟨a, xs, rfl, SqL.of e, fun p hp => k p _ hp (same_new hp) ⟨xs.reverse, upd_same, ?_⟩⟩
  rw [List.map_reverse]
  have rev : ∀ {H : Hp} {xs : List V} {ds : List PyData}, DpAll K H xs ds → DpAll K H xs.reverse ds.reverse := by
    intro H xs
    induction xs with
    | nil =>
      intro ds d
      cases d
      exact .nil
    | cons x xs ih =>
      intro ds d
      cases d with
      | cons h d =>
        rw [List.reverse_cons, List.reverse_cons]
        exact dpAll_append (ih d) (.cons h .nil)
  exact rev (dp_sameAll (same_new hp) _ _ d)
theorem g_revL {Q : VK} {σ : L2.St} {te : TE} (q : te σ H (RevQ K Q)) : tRevL K te σ H Q := q
/-- the front, the back of a list of points -/
theorem g_toP {Q : VK} {l : Addr} {as : List α} {n : Int} (h : PtsL K H l as) (h0 : 0 ≤ n) (hn : n.toNat ≤ as.length) (k : ∀ p H', H p = none → Same H H' → PtsL K H' p (as.take n.toNat) → Q (.ref p) H') : rSlL K (.ref l) none (some n) H Q := by
  obtain ⟨xs, e, d⟩ := h
  obtain ⟨m, rfl⟩ : ∃ m : Nat, n = (m : Int) := ⟨n.toNat, by omega⟩
  rw [Int.toNat_natCast] at hn
  refine g_slL (SqL.of e) fun p H' f s e' => k p H' f s ?_
  rw [cut_to xs m (by rw [pts_len d]; exact hn)] at e'
  refine ⟨_, e', ?_⟩
  rw [Int.toNat_natCast, List.map_take]
  exact dpTake (dp_sameAll s _ _ d) _
theorem g_fromP {Q : VK} {l : Addr} {as : List α} {n : Int} (h : PtsL K H l as) (h0 : 0 ≤ n) (hn : n.toNat ≤ as.length) (k : ∀ p H', H p = none → Same H H' → PtsL K H' p (as.drop n.toNat) → Q (.ref p) H') : rSlL K (.ref l) (some n) none H Q := by
  obtain ⟨xs, e, d⟩ := h
  obtain ⟨m, rfl⟩ : ∃ m : Nat, n = (m : Int) := ⟨n.toNat, by omega⟩
  rw [Int.toNat_natCast] at hn
  refine g_slL (SqL.of e) fun p H' f s e' => k p H' f s ?_
  rw [cut_from xs m (by rw [pts_len d]; exact hn)] at e'
  refine ⟨_, e', ?_⟩
  rw [Int.toNat_natCast, List.map_drop]
  exact dpDrop (dp_sameAll s _ _ d) _
theorem od_str (p : α) : ∀ y, (D p : PyData) ≠ .str y := fun y e => by
  have h := Od.is_pt p
  rw [e, Od.is_no (.str y) rfl rfl] at h
  cases h
theorem od_bool (p : α) : ∀ y, (D p : PyData) ≠ .bool y := fun y e => by
  have h := Od.is_pt p
  rw [e, Od.is_no (.bool y) rfl rfl] at h
  cases h
/-- what a list of one thing shows -/
theorem sh_one {a : Addr} {x : V} {d : PyData} (e : H a = some (.lst [x])) (h : Dp K H x d) {n m : Nat} (f : Fine n m d) (hn : n ≤ 60) (hm : m ≤ 10000) : ∃ y, ShK K H (.ref a) y := by
  have g : Fine (n + 1) (m * 1 + 1) (.list [d]) := fine_list (xs := [d]) fun x hx => by rw [List.mem_singleton.mp hx]; exact f
  exact ⟨_, sh_fine (.lst (SqL.of e) (.cons h .nil)) g (by omega) (by omega)⟩
end
end Gx

/-! Things of any kind, and what a line made of them would be -/
namespace Gx
open PySem L2 PySem.Spec PyProof.Rows
/-- data that may be shown: nested at most n deep, its text of at most m signs -/
structure Okd (n m : Nat) (d : PyData) : Prop where
  ly : d.canLay0 = true
  dp : d.depth ≤ n
  sw : d.showable = true
  sz : d.shown.length ≤ m
theorem Okd.mono {n m n' m' : Nat} {d : PyData} (h : Okd n m d) (hn : n ≤ n') (hm : m ≤ m') : Okd n' m' d := ⟨h.ly, Nat.le_trans h.dp hn, h.sw, Nat.le_trans h.sz hm⟩
theorem Okd.shaped {n m : Nat} {d : PyData} (h : Okd n m d) (hn : n ≤ 64) : SeqAt.shaped d = true := by
  unfold SeqAt.shaped
  rw [h.ly, decide_eq_true (Nat.le_trans h.dp hn)]
  rfl
theorem Okd.sh {K : PySem.W.Frag} {H : Hp} {x : V} {n m : Nat} {d : PyData} (o : Okd n m d) (hn : n ≤ 64) (hm : m ≤ 10000000) (h : Dp K H x d) : ShK K H x d.shown := .dat h (o.shaped hn) o.sw (by have := o.sz; rw [sizeLine_eq]; omega)
theorem okd_fine {n m : Nat} {d : PyData} (f : Fine n m d) : Okd n (130 * m) d := ⟨small_lay d f.sm, f.dp, small_show d f.sm, by have := shown_le d f.sm; have := f.ct; omega⟩
theorem piled_le {m : Nat} : ∀ {xs : List PyData}, (∀ x ∈ xs, x.shown.length ≤ m) → piled (PyData.shownAll xs) ≤ (m + 2) * xs.length
  | [], _ => by simp [PyData.shownAll, piled]
  | x :: xs, h => by
    have a := h x List.mem_cons_self
    have b := piled_le (xs := xs) fun y hy => h y (List.mem_cons_of_mem _ hy)
    simp only [PyData.shownAll, piled_cons, List.length_cons, Nat.mul_succ]
    omega
theorem okd_lays : ∀ {xs : List PyData}, (∀ x ∈ xs, x.canLay0 = true) → PyData.canLayAll0 xs = true
  | [], _ => by simp [PyData.canLayAll0]
  | x :: xs, h => by
    simp only [PyData.canLayAll0]
    rw [h x List.mem_cons_self, okd_lays (xs := xs) fun y hy => h y (List.mem_cons_of_mem _ hy)]
    rfl
theorem okd_shows : ∀ {xs : List PyData}, (∀ x ∈ xs, x.showable = true) → PyData.showableAll xs = true
  | [], _ => by simp [PyData.showableAll]
  | x :: xs, h => by
    simp only [PyData.showableAll]
    rw [h x List.mem_cons_self, okd_shows (xs := xs) fun y hy => h y (List.mem_cons_of_mem _ hy)]
    rfl
theorem okd_list {n m : Nat} {xs : List PyData} (h : ∀ x ∈ xs, Okd n m x) : Okd (n + 1) ((m + 2) * xs.length + 2) (.list xs) := by
  refine ⟨?_, ?_, ?_, ?_⟩
  · simp only [PyData.canLay0]
    exact okd_lays fun x hx => (h x hx).ly
  · simp only [PyData.depth]
    have := depthAll_le fun x hx => (h x hx).dp
    omega
  · simp only [PyData.showable]
    exact okd_shows fun x hx => (h x hx).sw
  · simp only [PyData.shown]
    have a := listText_le (PyData.shownAll xs)
    have b := piled_le fun x hx => (h x hx).sz
    omega
theorem okd_tuple {n m : Nat} {xs : List PyData} (h : ∀ x ∈ xs, Okd n m x) : Okd (n + 1) ((m + 2) * xs.length + 3) (.tuple xs) := by
  refine ⟨?_, ?_, ?_, ?_⟩
  · simp only [PyData.canLay0]
    exact okd_lays fun x hx => (h x hx).ly
  · simp only [PyData.depth]
    have := depthAll_le fun x hx => (h x hx).dp
    omega
  · simp only [PyData.showable]
    exact okd_shows fun x hx => (h x hx).sw
  · simp only [PyData.shown]
    have a := tupleText_le (PyData.shownAll xs)
    have b := piled_le fun x hx => (h x hx).sz
    omega
theorem okd_str {n k : Nat} {x : Str} (ok : PyData.strOk x = true) (l : x.length ≤ k) : Okd n (10 * k + 2) (.str x) := by
  refine ⟨by simp [PyData.canLay0, ok], by simp [PyData.depth], by simp [PyData.showable], ?_⟩
  simp only [PyData.shown]
  have l3 : (reprText x).length ≤ 10 * x.length + 2 := StrLaws.reprText_len _ fun c hc => by
    unfold PyData.strOk at ok
    rw [Array.all_eq_true_iff_forall_mem] at ok
    have := ok c (Array.mem_toList_iff.mp hc)
    simp only [decide_eq_true_eq] at this
    omega
  omega
/-- the built-in types of the things -/
def Kin : List Value := [.type "NoneType", .type "bool", .type "int", .type "str", .type "tuple", .type "dict", .type "list"]
/-- a thing: data, a dict, a list with an empty dict -/
inductive Tg (K : PySem.W.Frag) (H : Hp) : V → Prop
  | dat {x : V} {d : PyData} (h : Dp K H x d) (n : isLstD d = false) (o : Okd 4 1000000 d) : Tg K H x
  | lst {a : Addr} {xs : List V} {ds : List PyData} (e : H a = some (.lst xs)) (h : DpAll K H xs ds) (l : ds.length ≤ 1000) (o : Okd 4 2500000 (.list ds)) : Tg K H (.ref a)
  | tab {a : Addr} {t : MTab} (h : Rd H a (.dK (mtabK t))) (m : t = [] ∨ t = [(.inl 1, 2)]) : Tg K H (.ref a)
  | tabs {a b : Addr} (n : a ≠ sysModules) (e : H a = some (.lst [.ref b])) (r : Rd H b (.dK (mtabK []))) : Tg K H (.ref a)
section
variable {K : PySem.W.Frag} {H H' : Hp} {x : V}
theorem rd_same {a : Addr} {kvs : List (Key × V)} (S : Same H H') (h : Rd H a (.dK kvs)) : Rd H' a (.dK kvs) := by
  rcases h with h | ⟨o, h⟩
  · exact .inl (S _ _ h)
  · exact .inr ⟨o, S _ _ h⟩
theorem tg_same (S : Same H H') (h : Tg K H x) : Tg K H' x := by
  cases h with
  | dat h n o => exact .dat (dp_same S _ _ h) n o
  | lst e h l o => exact .lst (S _ _ e) (dp_sameAll S _ _ h) l o
  | tab h m => exact .tab (rd_same S h) m
  | tabs n e r => exact .tabs n (S _ _ e) (rd_same S r)
theorem tg_sh (h : Tg K H x) : ∃ y, ShX K H x y := by
  cases h with
  | dat h n o => exact ⟨_, .inl (o.sh (by omega) (by omega) h)⟩
  | lst e h l o => exact ⟨_, .inl (o.sh (by omega) (by omega) (.lst (SqL.of e) h))⟩
  | tab h m => rcases m with rfl | rfl <;> exact ⟨_, .inl (.tab h (by decide +kernel) (by decide +kernel))⟩
  | tabs n e r => exact ⟨_, .inr ⟨_, _, rfl, n, e, r, rfl⟩⟩
/-- no list, of a built-in type -/
def NoL2 (K : PySem.W.Frag) (H : Hp) (x : V) : Prop := ∃ t, TyX K H x t ∧ t ∈ Kin ∧ PySem.W.kitOne K t (.type "list") = some false
theorem dp_no2 {d : PyData} (h : Dp K H x d) (n : isLstD d = false) : NoL2 K H x := by
  cases h with
  | non => exact ⟨_, .base .non, by simp [Kin], kit_ty (by decide +kernel)⟩
  | bl c => exact ⟨_, .base (.bl c), by simp [Kin], kit_ty (by decide +kernel)⟩
  | int i => exact ⟨_, .base (.int i), by simp [Kin], kit_ty (by decide +kernel)⟩
  | str x => exact ⟨_, .base (.str x), by simp [Kin], kit_ty (by decide +kernel)⟩
  | lst a b => cases n
  | tup a b => exact ⟨_, sqT_ty a, by simp [Kin], kit_ty (by decide +kernel)⟩
/-- its type -/
theorem tg_ty (h : Tg K H x) : ∃ t, TyX K H x t ∧ t ∈ Kin := by
  cases h with
  | dat h n o =>
    obtain ⟨t, a, b, _⟩ := dp_no2 h n
    exact ⟨t, a, b⟩
  | lst e h l o => exact ⟨_, .base (.lst e), by simp [Kin]⟩
  | tab h m => exact ⟨_, rd_dict h, by simp [Kin]⟩
  | tabs n e r => exact ⟨_, .base (.lst e), by simp [Kin]⟩
end
section
variable {α : Type} [Od α] {K : PySem.W.Frag} {H H' : Hp} {x : V}
open Kd
noncomputable def getA (α : Type) [Od α] (d : PyData) : Option α := if h : Od.isD α d = true then some (Classical.choose (Od.of_pt d h)) else none
theorem getA_some {d : PyData} {a : α} (h : getA α d = some a) : d = D a := by
  unfold getA at h
  split at h
  · rename_i c
    rw [← Option.some.inj h]
    exact Classical.choose_spec (Od.of_pt d c)
  · cases h
theorem getA_none {d : PyData} (h : getA α d = none) : Od.isD α d = false := by
  unfold getA at h
  split at h
  · cases h
  · rename_i c
    simpa using c
theorem dp_it {d : PyData} (h : Dp K H x d) : ItO K H x (getA α d) := by
  cases c : getA α d with
  | some a =>
    rw [getA_some c] at h
    exact h
  | none =>
    have z := Od.dp_pv (α := α) h
    rw [getA_none c] at z
    exact z
/-- a line may be made of these -/
def okLn (os : List (Option α)) : Bool := decide (os.length ≤ 500) && (os.all Option.isSome && (List.zipWith upO os (os.drop 1)).all id)
/-- a list of these -/
def InE (K : PySem.W.Frag) (H : Hp) (a : Addr) (os : List (Option α)) : Prop := ∃ xs, H a = some (.lst xs) ∧ xs.length = os.length ∧ ∀ (i : Nat) x o, xs[i]? = some x → os[i]? = some o → ItO K H x o
/-- what a line made of a thing would hold -/
def JudV (α : Type) [Od α] (K : PySem.W.Frag) (H : Hp) (x : V) : Option (List α) → Prop
  | some as => ∃ a, x = .ref a ∧ PtsL K H a as ∧ Up as ∧ as.length ≤ 500
  | none => (∃ (a : Addr) (os : List (Option α)), x = .ref a ∧ InE K H a os ∧ os.length ≤ 100000 ∧ okLn os = false) ∨ NoL2 K H x
theorem jud_same {j : Option (List α)} (S : Same H H') (h : JudV α K H x j) : JudV α K H' x j := by
  cases j with
  | some as =>
    obtain ⟨a, rfl, p, u, l⟩ := h
    exact ⟨a, rfl, p.same S, u, l⟩
  | none =>
    rcases h with ⟨a, os, rfl, ⟨xs, e, ln, it⟩, few, no⟩ | ⟨t, ty, m, n⟩
    · exact .inl ⟨a, os, rfl, ⟨xs, S _ _ e, ln, fun i x o h1 h2 => itO_same S (it i x o h1 h2)⟩, few, no⟩
    · exact .inr ⟨t, tyX_same S ty, m, n⟩
theorem ine_pts {a : Addr} {as : List α} (h : PtsL K H a as) : InE K H a (as.map some) := by
  obtain ⟨xs, e, d⟩ := h
  refine ⟨xs, e, by rw [List.length_map]; exact pts_len d, fun i x o h1 h2 => ?_⟩
  obtain ⟨b, hb, dx⟩ := pts_at d h1
  rw [List.getElem?_map, hb] at h2
  obtain rfl := Option.some.inj (show some (some b) = some o from h2)
  exact dx
theorem all_some : ∀ {os : List (Option α)}, os.all Option.isSome = true → ∃ as : List α, os = as.map some
  | [], _ => ⟨[], rfl⟩
  | none :: os, h => by simp at h
  | some a :: os, h => by
    rw [List.all_cons, Bool.and_eq_true] at h
    obtain ⟨as, rfl⟩ := all_some h.2
    exact ⟨a :: as, rfl⟩
theorem up_of_zip : ∀ {as : List α}, (List.zipWith (upO (α := α)) (as.map some) ((as.map some).drop 1)).all id = true → Up as
  | [], _ => .nil
  | [a], _ => List.pairwise_singleton _ _
  | a :: b :: as, h => by
    have h : ((upO (some a) (some b) : Bool) :: List.zipWith (upO (α := α)) ((b :: as).map some) (((b :: as).map some).drop 1)).all id = true := h
    rw [List.all_cons, Bool.and_eq_true] at h
    have u := up_of_zip h.2
    have l : lt a b = true := h.1
    refine List.Pairwise.cons (fun c hc => ?_) u
    rcases List.mem_cons.mp hc with rfl | hc
    · exact l
    · exact tran _ _ _ l ((List.pairwise_cons.mp u).1 c hc)
theorem okLn_some {as : List α} (u : Up as) (l : as.length ≤ 500) : okLn (as.map some) = true := by
  unfold okLn
  rw [List.length_map, decide_eq_true l, zip_up u, Bool.and_true, Bool.true_and, List.all_map]
  exact List.all_eq_true.mpr fun _ _ => rfl
theorem jud_list {a : Addr} {xs : List V} {ds : List PyData} (e : H a = some (.lst xs)) (h : DpAll K H xs ds) (l : ds.length ≤ 100000) : ∃ j, JudV α K H (.ref a) j ∧ ∀ as, j = some as → ds = as.map D := by
  cases c : okLn (ds.map (getA α)) with
  | true =>
    have c' := c
    unfold okLn at c'
    rw [Bool.and_eq_true, Bool.and_eq_true, decide_eq_true_eq] at c'
    obtain ⟨l5, c1, c2⟩ := c'
    obtain ⟨as, ea⟩ := all_some c1
    rw [ea] at c2 l5
    rw [List.length_map] at l5
    have ed : ds = as.map D := by
      apply List.ext_getElem?
      intro i
      have g : (ds.map (getA α))[i]? = (as.map some)[i]? := by rw [ea]
      rw [List.getElem?_map, List.getElem?_map] at g
      rw [List.getElem?_map]
      cases h1 : ds[i]? with
      | none =>
        rw [h1] at g
        cases h2 : as[i]? with
        | none => rfl
        | some b => rw [h2] at g; cases g
      | some d =>
        rw [h1] at g
        cases h2 : as[i]? with
        | none => rw [h2] at g; cases g
        | some b =>
          rw [h2] at g
          have g : some (getA α d) = some (some b) := g
          rw [getA_some (Option.some.inj g)]
          rfl
    refine ⟨some as, ⟨a, rfl, ⟨xs, e, by rw [← ed]; exact h⟩, up_of_zip c2, l5⟩, fun bs eb => ?_⟩
    rw [← Option.some.inj eb]
    exact ed
  | false =>
    refine ⟨none, Or.inl ⟨a, _, rfl, ⟨xs, e, by rw [List.length_map]; exact dpAll_len h, fun i x o h1 h2 => ?_⟩, by rw [List.length_map]; exact l, c⟩, fun as z => nomatch z⟩
    obtain ⟨d, hd, dx⟩ := dpAll_get h h1
    rw [List.getElem?_map, hd] at h2
    obtain rfl := Option.some.inj (show some (getA α d) = some o from h2)
    exact dp_it dx
theorem tg_jud (h : Tg K H x) : ∃ j, JudV α K H x j ∧ ∀ as, j = some as → Okd 4 2500000 (.list (as.map D)) := by
  cases h with
  | dat h n o => exact ⟨none, Or.inr (dp_no2 h n), fun as z => nomatch z⟩
  | lst e h l o =>
    obtain ⟨j, h1, h2⟩ := jud_list (α := α) e h (by omega)
    exact ⟨j, h1, fun as z => by rw [← h2 as z]; exact o⟩
  | tab h m => exact ⟨none, Or.inr ⟨_, rd_dict h, by simp [Kin], kit_ty (by decide +kernel)⟩, fun as z => nomatch z⟩
  | @tabs a b n e r =>
    refine ⟨none, Or.inl ⟨a, [none], rfl, ⟨_, e, rfl, fun i z o hz ho => ?_⟩, by simp, by simp [okLn]⟩, fun as z => nomatch z⟩
    cases i with
    | zero =>
      obtain rfl := Option.some.inj hz
      obtain rfl := Option.some.inj ho
      exact Od.ty_pv (rd_dict r) (kit_ty (by decide +kernel)) (kit_ty (by decide +kernel))
    | succ i => cases hz
/-- a list, of which a line may be made or not, or no list -/
theorem jud_cases {j : Option (List α)} (h : JudV α K H x j) : (∃ (a : Addr) (os : List (Option α)) (xs : List V), x = .ref a ∧ H a = some (.lst xs) ∧ xs.length = os.length ∧ (∀ (i : Nat) x o, xs[i]? = some x → os[i]? = some o → ItO K H x o) ∧ os.length ≤ 100000 ∧ j.isSome = okLn os) ∨
    (NoL2 K H x ∧ j.isSome = false) := by
  cases j with
  | some as =>
    obtain ⟨a, rfl, pt, u, l⟩ := h
    obtain ⟨ys, ey, ln, it⟩ := ine_pts pt
    exact .inl ⟨a, as.map some, ys, rfl, ey, ln, it, by rw [List.length_map]; omega, by rw [okLn_some u l]; rfl⟩
  | none =>
    rcases h with ⟨a, os, rfl, ⟨ys, ey, ln, it⟩, l, no⟩ | nl
    · exact .inl ⟨a, os, ys, rfl, ey, ln, it, l, no.symm⟩
    · exact .inr ⟨nl, rfl⟩
end
end Gx

set_option maxHeartbeats 4000000
namespace Gk
open PySem L2 Gx
open C8 (Cal Met Mak pe_c pe_mt pe_mt0 pe_mk pe_gc)
local macro_rules | `(tactic| walk_at "g") => `(tactic| (first
  | with_reducible refine g_seq ?_ | with_reducible refine g_asg ?_ | ((with_reducible show tVar _ _ _ _); refine g_var rfl ?_) | with_reducible refine g_c ?_ | with_reducible refine g_name ?_ | with_reducible refine g_op ?_ | with_reducible refine g_I0 ?_
  | with_reducible refine g_cons ?_ | with_reducible refine g_nil ?_ | with_reducible refine g_exbl ?_ | with_reducible refine g_exint ?_ | with_reducible refine g_test ?_ | with_reducible refine g_B ?_ | with_reducible refine g_ifS ?_ | with_reducible refine g_ret ?_ | with_reducible refine g_retN ?_ | with_reducible refine g_next ?_
  | with_reducible refine g_CB ?_ | with_reducible refine g_sub ?_ | with_reducible refine g_drop ?_ | with_reducible refine g_not ?_ | with_reducible refine g_and ?_ | with_reducible refine g_or ?_ | with_reducible refine g_andV ?_ | with_reducible refine g_orV ?_ | with_reducible refine g_notV ?_ | with_reducible refine g_ifE ?_ | with_reducible refine g_isN ?_
  | with_reducible refine g_par ?_ | with_reducible refine g_expar ?_ | with_reducible refine g_chain ?_ | with_reducible refine g_un ?_ | with_reducible refine g_U ?_ | with_reducible refine g_bits ?_ | ((with_reducible show rEq _ _ _ _); refine g_eq rfl ?_) | ((with_reducible show rNe _ _ _ _); refine g_ne rfl ?_)
  | with_reducible refine g_for ?_ | with_reducible refine g_iRng1 ?_ | with_reducible refine g_iRng2 ?_ | with_reducible refine g_iList ?_ | with_reducible refine g_iTup ?_
  | ((with_reducible refine g_Imul ?hc ?_); (case hc => (first | (refine Or.inl ⟨?_, ?_⟩ <;> first | decide | omega) | (refine Or.inr ⟨?_, ?_⟩ <;> first | decide | omega))))
  | ((with_reducible refine g_Idiv ?hc ?_); (case hc => (first | (exact ⟨by decide, by decide⟩) | assumption)))
  | ((with_reducible refine g_Imod ?hc ?_); (case hc => (first | assumption | omega | decide)))
  | ((with_reducible refine g_exR1 ?hlo ?hhi ?_); (case hlo => omega); (case hhi => omega))
  | ((with_reducible refine g_exR2 ?hb ?_); (case hb => omega))
  | with_reducible refine g_lst ?_ | with_reducible refine g_tup ?_ | with_reducible refine g_call ?_ | with_reducible refine g_BM ?_ | with_reducible refine g_BM0 ?_
  | with_reducible refine g_intB ?_ | with_reducible refine g_lc ?_ | with_reducible refine g_yes ?_ | with_reducible refine g_iZip ?_ | with_reducible refine g_sl ?_ | with_reducible refine g_noP ?_ | with_reducible refine g_part ?_ | with_reducible refine g_gcons ?_ | with_reducible refine g_gnil ?_
  | with_reducible refine g_tfld ?_ | with_reducible refine g_tmeth ?_ | with_reducible refine g_tmake ?_ | with_reducible refine g_sfld ?_ | with_reducible refine g_tprop ?_ | with_reducible refine g_tstar ?_ | with_reducible refine g_tmethK ?_ | with_reducible refine g_isN1 ?_ | with_reducible refine g_notN1 ?_))
local macro_rules | `(tactic| walk_at "gs1") => `(tactic| (first
  | with_reducible refine g_seq ?_ | with_reducible refine g_asg ?_ | ((with_reducible show tVar _ _ _ _); refine g_var rfl ?_) | with_reducible refine g_c ?_ | with_reducible refine g_name ?_ | with_reducible refine g_op ?_ | with_reducible refine g_I0 ?_
  | with_reducible refine g_cons ?_ | with_reducible refine g_nil ?_ | with_reducible refine g_exbl ?_ | with_reducible refine g_exint ?_ | with_reducible refine g_test ?_ | with_reducible refine g_B ?_ | with_reducible refine g_ifS ?_ | with_reducible refine g_retN ?_ | with_reducible refine g_next ?_
  | with_reducible refine g_CB ?_ | with_reducible refine g_sub ?_ | with_reducible refine g_drop ?_ | with_reducible refine g_not ?_ | with_reducible refine g_and ?_ | with_reducible refine g_or ?_ | with_reducible refine g_andV ?_ | with_reducible refine g_orV ?_ | with_reducible refine g_notV ?_ | with_reducible refine g_ifE ?_ | with_reducible refine g_isN ?_
  | with_reducible refine g_par ?_ | with_reducible refine g_expar ?_ | with_reducible refine g_chain ?_ | with_reducible refine g_un ?_ | with_reducible refine g_U ?_ | with_reducible refine g_bits ?_ | ((with_reducible show rEq _ _ _ _); refine g_eq rfl ?_) | ((with_reducible show rNe _ _ _ _); refine g_ne rfl ?_)
  | with_reducible refine g_for ?_ | with_reducible refine g_iRng1 ?_ | with_reducible refine g_iRng2 ?_ | with_reducible refine g_iList ?_ | with_reducible refine g_iTup ?_
  | ((with_reducible refine g_Imul ?hc ?_); (case hc => (first | (refine Or.inl ⟨?_, ?_⟩ <;> first | decide | omega) | (refine Or.inr ⟨?_, ?_⟩ <;> first | decide | omega))))
  | ((with_reducible refine g_Idiv ?hc ?_); (case hc => (first | (exact ⟨by decide, by decide⟩) | assumption)))
  | ((with_reducible refine g_Imod ?hc ?_); (case hc => (first | assumption | omega | decide)))
  | ((with_reducible refine g_exR1 ?hlo ?hhi ?_); (case hlo => omega); (case hhi => omega))
  | ((with_reducible refine g_exR2 ?hb ?_); (case hb => omega))
  | with_reducible refine g_lst ?_ | with_reducible refine g_tup ?_ | with_reducible refine g_call ?_ | with_reducible refine g_BM ?_ | with_reducible refine g_BM0 ?_
  | with_reducible refine g_intB ?_ | with_reducible refine g_lc ?_ | with_reducible refine g_yes ?_ | with_reducible refine g_iZip ?_ | with_reducible refine g_sl ?_ | with_reducible refine g_noP ?_ | with_reducible refine g_part ?_ | with_reducible refine g_gcons ?_ | with_reducible refine g_gnil ?_
  | with_reducible refine g_tfld ?_ | with_reducible refine g_tmeth ?_ | with_reducible refine g_tmake ?_ | with_reducible refine g_sfld ?_ | with_reducible refine g_tprop ?_ | with_reducible refine g_tstar ?_ | with_reducible refine g_tmethK ?_ | with_reducible refine g_isN1 ?_ | with_reducible refine g_notN1 ?_))
local macro_rules | `(tactic| walk_at "gx1") => `(tactic| (first
  | with_reducible refine g_seq ?_ | with_reducible refine g_asg ?_ | ((with_reducible show tVar _ _ _ _); refine g_var rfl ?_) | with_reducible refine g_c ?_ | with_reducible refine g_name ?_ | with_reducible refine g_op ?_ | with_reducible refine g_I0 ?_
  | with_reducible refine g_cons ?_ | with_reducible refine g_nil ?_ | with_reducible refine g_exbl ?_ | with_reducible refine g_exint ?_ | with_reducible refine g_test ?_ | with_reducible refine g_B ?_ | with_reducible refine g_ifS ?_ | with_reducible refine g_retN ?_ | with_reducible refine g_next ?_
  | with_reducible refine g_CB ?_ | with_reducible refine g_sub ?_ | with_reducible refine g_drop ?_ | with_reducible refine g_not ?_ | with_reducible refine g_and ?_ | with_reducible refine g_or ?_ | with_reducible refine g_andV ?_ | with_reducible refine g_orV ?_ | with_reducible refine g_notV ?_ | with_reducible refine g_ret ?_ | with_reducible refine g_isN ?_
  | with_reducible refine g_par ?_ | with_reducible refine g_expar ?_ | with_reducible refine g_chain ?_ | with_reducible refine g_un ?_ | with_reducible refine g_U ?_ | with_reducible refine g_bits ?_ | ((with_reducible show rEq _ _ _ _); refine g_eq rfl ?_) | ((with_reducible show rNe _ _ _ _); refine g_ne rfl ?_)
  | with_reducible refine g_for ?_ | with_reducible refine g_iRng1 ?_ | with_reducible refine g_iRng2 ?_ | with_reducible refine g_iList ?_ | with_reducible refine g_iTup ?_
  | ((with_reducible refine g_Imul ?hc ?_); (case hc => (first | (refine Or.inl ⟨?_, ?_⟩ <;> first | decide | omega) | (refine Or.inr ⟨?_, ?_⟩ <;> first | decide | omega))))
  | ((with_reducible refine g_Idiv ?hc ?_); (case hc => (first | (exact ⟨by decide, by decide⟩) | assumption)))
  | ((with_reducible refine g_Imod ?hc ?_); (case hc => (first | assumption | omega | decide)))
  | ((with_reducible refine g_exR1 ?hlo ?hhi ?_); (case hlo => omega); (case hhi => omega))
  | ((with_reducible refine g_exR2 ?hb ?_); (case hb => omega))
  | with_reducible refine g_lst ?_ | with_reducible refine g_tup ?_ | with_reducible refine g_call ?_ | with_reducible refine g_BM ?_ | with_reducible refine g_BM0 ?_
  | with_reducible refine g_intB ?_ | with_reducible refine g_lc ?_ | with_reducible refine g_yes ?_ | with_reducible refine g_iZip ?_ | with_reducible refine g_sl ?_ | with_reducible refine g_noP ?_ | with_reducible refine g_part ?_ | with_reducible refine g_gcons ?_ | with_reducible refine g_gnil ?_
  | with_reducible refine g_tfld ?_ | with_reducible refine g_tmeth ?_ | with_reducible refine g_tmake ?_ | with_reducible refine g_sfld ?_ | with_reducible refine g_tprop ?_ | with_reducible refine g_tstar ?_ | with_reducible refine g_tmethK ?_ | with_reducible refine g_isN1 ?_ | with_reducible refine g_notN1 ?_))
local macro_rules | `(tactic| walk_at "hp") => `(tactic| (first | assumption | exact upd_same | (refine same_get (by assumption) ?_; walk_at "hp")))
local macro_rules | `(tactic| walk_at "sm") => `(tactic| (first | assumption | exact Same.refl _ | (refine Same.trans ?ha (by assumption); walk_at "sm")))
local macro_rules | `(tactic| walk_at "nn") => `(tactic| (first | assumption | (refine same_free (by assumption) ?_; walk_at "nn")))
local macro_rules | `(tactic| walk_at "sb") => `(tactic| (first | decide | (refine small_bits ?_ ?_ <;> omega)))
local macro_rules | `(tactic| walk_at "ln") => `(tactic| (simp only [List.length_cons, List.length_nil]; omega))
local macro_rules | `(tactic| walk_at "gg") => `(tactic| (repeat walk_at "g"))
local macro_rules | `(tactic| walk_at "gs") => `(tactic| (repeat walk_at "gs1"))
local macro_rules | `(tactic| walk_at "gx") => `(tactic| (repeat walk_at "gx1"))

local macro_rules | `(tactic| walk_at "g") => `(tactic| (first | with_reducible refine g_tpropF ?_ | with_reducible refine g_tmethF ?_ | with_reducible refine g_tmethKF ?_ | with_reducible refine g_ownE ?_ | with_reducible refine g_tcon ?_))
section
variable {P : Program} {w : World} {K : PySem.W.Frag} {mg : Str → Option Value} {base : Heap} {X : Cx} {α : Type} [Od α] {S : Addr → Prop}
/-- a line of the class at C, its points as data -/
def LnD (K : PySem.W.Frag) (C : Addr) (H : Hp) (p : Addr) (ds : List PyData) : Prop := ∃ dx q xs, H p = some (.ins C dx (lf q)) ∧ H q = some (.lst xs) ∧ DpAll K H xs ds ∧ PtD ds
theorem LnD.same {C : Addr} {H H' : Hp} {p : Addr} {ds : List PyData} (h : LnD K C H p ds) (s : Same H H') : LnD K C H' p ds := by
  obtain ⟨dx, q, xs, h1, h2, h3, h4⟩ := h
  exact ⟨dx, q, xs, s _ _ h1, s _ _ h2, dp_sameAll s _ _ h3, h4⟩
theorem lnd_int {C : Addr} {H : Hp} {p : Addr} {as : List Int} (h : LnAt K C H p as) : LnD K C H p (as.map Kd.D) := by
  obtain ⟨dx, q, hp, xs, hq, hd⟩ := h
  exact ⟨dx, q, xs, hp, hq, hd, .inl ⟨as, rfl⟩⟩
theorem lnd_pr {C : Addr} {H : Hp} {p : Addr} {as : List Pr} (h : LnAt K C H p as) : LnD K C H p (as.map Kd.D) := by
  obtain ⟨dx, q, hp, xs, hq, hd⟩ := h
  exact ⟨dx, q, xs, hp, hq, hd, .inr ⟨as, rfl⟩⟩
theorem ptd_eqv {ds es : List PyData} (h1 : PtD ds) (h2 : PtD es) : PyData.eqv (.list ds) (.list es) = true ↔ ds = es := by
  constructor
  · intro z
    refine Classical.byContradiction fun c => ?_
    rw [eqv_no (ptd_bare h1) (ptd_bare h2) fun q => c (PyData.list.inj q)] at z
    cases z
  · rintro rfl
    rcases h1 with ⟨as, rfl⟩ | ⟨as, rfl⟩
    · have := da_eqvs as as
      rw [decide_eq_true rfl] at this
      exact this
    · have := da_eqvs as as
      rw [decide_eq_true rfl] at this
      exact this
/-- no built-in type is under the class of found rows -/
def NotF (K : PySem.W.Frag) (CF : Addr) : Prop := ∀ t ∈ Kin, PySem.W.kitOne K t (.ref CF) = some false
theorem notF_all {CF : Addr} (h0 : PySem.W.kitOne K (.type "NoneType") (.ref CF) = some false) (h1 : PySem.W.kitOne K (.type "bool") (.ref CF) = some false) (h2 : PySem.W.kitOne K (.type "int") (.ref CF) = some false) (h3 : PySem.W.kitOne K (.type "str") (.ref CF) = some false) (h4 : PySem.W.kitOne K (.type "tuple") (.ref CF) = some false) (h5 : PySem.W.kitOne K (.type "dict") (.ref CF) = some false) (h6 : PySem.W.kitOne K (.type "list") (.ref CF) = some false) : NotF K CF := fun t h => by
  simp only [Kin, List.mem_cons, List.not_mem_nil, or_false] at h
  rcases h with rfl | rfl | rfl | rfl | rfl | rfl | rfl
  · exact h0
  · exact h1
  · exact h2
  · exact h3
  · exact h4
  · exact h5
  · exact h6
theorem somes_inj : ∀ {as bs : List α}, as.map some = bs.map some → as = bs
  | [], [], _ => rfl
  | [], _ :: _, h => by cases h
  | _ :: _, [], h => by cases h
  | a :: as, b :: bs, h => by
    injection h with h1 h2
    rw [Option.some.inj h1, somes_inj h2]
theorem dpAll_ofL {H : Hp} : ∀ {xs : List V} {ds : List PyData}, xs.length = ds.length → (∀ (i : Nat) y d, xs[i]? = some y → ds[i]? = some d → Dp K H y d) → DpAll K H xs ds
  | [], [], _, _ => .nil
  | [], _ :: _, l, _ => by cases l
  | _ :: _, [], l, _ => by cases l
  | x :: xs, d :: ds, l, h => .cons (h 0 _ _ rfl rfl) (dpAll_ofL (Nat.succ.inj l) fun i y e h1 h2 => h (i + 1) y e h1 h2)
/-- a line is made, or is not -/
def spInitX (α : Type) [Od α] (K : PySem.W.Frag) (C CE : Addr) : Sp := fun vs H Q E => ∃ (p dx : Addr) (x : V), vs = [.ref p, x] ∧ H p = some (.ins C dx []) ∧
  ((∃ as : List α, JudV α K H x (some as) ∧ ∀ H', LnAt K C H' p as → But p H H' → Q .non H') ∨ (JudV α K H x none ∧ ∀ H', Same H H' → E (.ref CE) none H'))
theorem ok_initX {f C CF CE : Addr} {fd : FuncData} (F : Fun K "__init__" "Line.__init__" s_Line_init f fd) (L : LineC K C) (NF : NotF K CF) (T : Bt mg) (hS : S C) (x_InvalidPoints : OwnE K mg "InvalidPoints" CE) (d_is_point : MetF P w K mg base CX0 2 S "is_point" (fun _ => spPt α K))
    (g_Found : ∃ u, mg "Found" = some u ∧ RelV (.ref CF) u) (g_MOST_POINTS : ∃ u, mg "MOST_POINTS" = some u ∧ RelV (.int 500) u) : FnOk P w K mg base (L2N.CX P w) 3 f fd ["self", "points"] (spInitX α K C CE) := by
  refine okXN F sc_Line_init (fun vs H Q E h => ?_) (fun cdv A outer s H vs Q E hr h => ?_)
  · obtain ⟨p, dx, x, rfl, _⟩ := h
    rfl
  · obtain ⟨p, dx, x, rfl, hp, ha⟩ := h
    refine ⟨_, (pss_one (ps_if (pt_val (pe_callB call_isi (by rfl) T.n_isinstance bt_isinstance (pa_cons (pv 1) (pa_cons (pe_gc (by rfl) g_Found) pa_nil)))) (pss_one (ps_fld (pv 0) (pe_fld (pv 1) rfl) rfl)) (pss_cons (ps_if (PW.pt (pw_or (pt_not (pt_val (pe_callB call_isi (by rfl) T.n_isinstance bt_isinstance (pa_cons (pv 1) (pa_cons (pe_bltn (v := .ty "list") (by rfl) T.n_list bt_list rfl) pa_nil))))) (pw_or1 (pt_cmpR op_gt (pe_callB cr_lenQ (by rfl) T.n_len bt_len (pa_cons (pv 1) pa_nil)) (pe_gc (by rfl) g_MOST_POINTS) (nomark _))))) (pss_one (ps_ownN x_InvalidPoints rfl (L2N.takes_of rfl rfl rfl rfl) (by rfl))) pss_nil)
    (pss_cons (ps_if (pt_not (pt_val (pe_callB (cr_all rfl) (by rfl) T.n_all bt_all (pa_cons (pe_lc (own := [("one", 2)]) (g := gName 2) (tt := tYes) rfl sc_Line_init.nd (pi_list (pv 1)) (blkOk_by (own := [("one", 2)]) (N := N_Line_init) (sc := defScope s_Line_init) (by decide +kernel)) (fun _ _ _ _ _ => pg_name (i := 2) sc_Line_init.nd rfl (Or.inl rfl)) (fun _ _ _ _ _ => pts_nil) (fun _ _ _ _ _ => (pe_mtF (CX := CX0) (E := fun _ _ _ _ => False) d_is_point hr (by decide) passF (pv 0) (pa_cons (pv 2) pa_nil)))) pa_nil)))) (pss_one (ps_ownN x_InvalidPoints rfl (L2N.takes_of rfl rfl rfl rfl) (by rfl))) pss_nil)
    (pss_cons (ps_if (pt_not (pt_val (pe_callB (cr_all rfl) (by rfl) T.n_all bt_all (pa_cons (pe_lc (own := [("one", 2), ("other", 3)]) (g := gTup K 2 (gCons (gName 2) (gCons (gName 3) gNil))) (tt := tYes) rfl sc_Line_init.nd (pi_zip (by rfl) T.n_zip (pa_cons (pv 1) (pa_cons (pe_slice sl_list (pv 1) (po_some pe_int) po_none) pa_nil))) (blkOk_by (own := [("one", 2), ("other", 3)]) (N := N_Line_init) (sc := defScope s_Line_init) (by decide +kernel)) (fun _ _ _ _ _ => (pg_tup (by rfl) (pgs_cons (pg_name (i := 2) sc_Line_init.nd rfl (Or.inl rfl)) (pgs_cons (pg_name (i := 3) sc_Line_init.nd rfl (Or.inl rfl)) pgs_nil)))) (fun _ _ _ _ _ => pts_nil) (fun _ _ _ _ _ => (pe_cmpR (show OpR _ (compareOp .Lt) (rLt2 K) from op_lt2 hr.units0) (pv 2) (pv 3) (nomark _)))) pa_nil)))) (pss_one (ps_ownN x_InvalidPoints rfl (L2N.takes_of rfl rfl rfl rfl) (by rfl))) pss_nil)
    (pss_one (ps_fld (pv 0) (pe_callTy cr_listQ (by rfl) T.n_list bt_list (pa_cons (pv 1) pa_nil)) rfl))))))), ?_⟩
    walk_at "gg"
    -- a list, or none
    have both : (∃ (a : Addr) (os : List (Option α)) (xs : List V), x = .ref a ∧ H a = some (.lst xs) ∧ xs.length = os.length ∧ (∀ (i : Nat) x o, xs[i]? = some x → os[i]? = some o → ItO K H x o) ∧ os.length ≤ 100000 ∧ (okLn os = true → ∀ H' as, os = as.map some → LnAt K C H' p as → But p H H' → Q .non H') ∧ (okLn os = false → ∀ H', Same H H' → E (.ref CE) none H')) ∨
        ((∃ t, TyX K H x t ∧ t ∈ Kin ∧ PySem.W.kitOne K t (.type "list") = some false) ∧ ∀ H', Same H H' → E (.ref CE) none H') := by
      rcases ha with ⟨as, ⟨a, rfl, pt, u, l⟩, k⟩ | ⟨⟨a, os, rfl, ⟨ys, ey, ln, it⟩, l, no⟩ | nl, k⟩
      · obtain ⟨ys, ey, ln, it⟩ := ine_pts pt
        refine .inl ⟨a, as.map some, ys, rfl, ey, ln, it, by rw [List.length_map]; omega, fun _ H' bs e => ?_, fun z => by rw [okLn_some u l] at z; cases z⟩
        have e : as = bs := somes_inj e
        rw [← e]
        exact k H'
      · exact .inl ⟨a, os, ys, rfl, ey, ln, it, l, fun z => by rw [no] at z; (cases z), fun _ => k⟩
      · exact .inr ⟨nl, k⟩
    rcases both with ⟨a, os, xs, rfl, hay, ln, it, few, kg, kb⟩ | ⟨⟨t, ty, tk, no⟩, k⟩
    rotate_left
    · refine g_isi (.own CF) ty (NF t tk) ?_
      walk_at "gg"
      refine g_ifF rfl ?_
      walk_at "gg"
      refine g_isi (.ty "list") ty no ?_
      walk_at "gg"
      refine g_ifT rfl ?_
      walk_at "gg"
      exact k _ (Same.refl _)
    have sq : SqL K H a xs := SqL.of hay
    refine g_isi (.own CF) (.base (.lst hay)) (NF _ (by simp [Kin])) ?_
    walk_at "gg"
    refine g_ifF rfl ?_
    walk_at "gg"
    refine g_isi (.ty "list") (.base (.lst hay)) (b := true) (kit_ty (by decide +kernel)) ?_
    walk_at "gg"
    refine g_ifF rfl ?_
    walk_at "gg"
    refine g_len sq ?_
    rw [ln]
    walk_at "gg"
    by_cases l5 : os.length ≤ 500
    rotate_left
    · refine g_ifT (decide_eq_true (by omega)) ?_
      walk_at "gg"
      exact kb (by unfold okLn; rw [decide_eq_false l5]; rfl) _ (Same.refl _)
    refine g_ifF (decide_eq_false (by omega)) ?_
    walk_at "gg"
    refine g_exL sq ?_
    refine lc_map (src_list sq) (by omega) (fun i y => ∃ b, (os.map Option.isSome)[i]? = some b ∧ y = V.bl b) (fun i x H' Nx hi Sx ix kx => ?_) fun l1 acc H1 n1 S1 e1 hl1 hacc => ?_
    · have hi' : i < os.length := by omega
      have io := it i x _ ix (List.getElem?_eq_getElem hi')
      walk_at "gg"
      refine ⟨rfl, ?_⟩
      walk_at "gg"
      refine g_methF (Sx _ _ hp) hS rfl ?_
      walk_at "gg"
      have get : (os.map Option.isSome)[i]? = some os[i].isSome := by rw [List.getElem?_map, List.getElem?_eq_getElem hi']; rfl
      generalize os[i] = o at io get
      cases o with
      | none => exact ⟨p, _, false, rfl, Ln.pv_same Sx io, fun H4 S4 => kx _ _ S4 ⟨_, get, rfl⟩⟩
      | some b => exact ⟨p, _, true, rfl, Ln.pv_ok (dp_same Sx _ _ io), fun H4 S4 => kx _ _ S4 ⟨_, get, rfl⟩⟩
    have e1' := bls (by rw [List.length_map]; omega) hacc
    rw [e1'] at e1
    walk_at "gg"
    refine g_all (SqL.of e1) ?_
    rw [List.all_map]
    walk_at "gg"
    cases c1 : os.all Option.isSome with
    | false =>
      have c1' : os.all (id ∘ Option.isSome) = false := c1
      rw [c1']
      refine g_ifT rfl ?_
      walk_at "gg"
      exact kb (by unfold okLn; rw [c1, Bool.false_and, Bool.and_false]) _ S1
    | true =>
      have c1' : os.all (id ∘ Option.isSome) = true := c1
      rw [c1']
      refine g_ifF rfl ?_
      obtain ⟨ss, rfl⟩ := all_some c1
      have e0 : okLn (ss.map some) = (List.zipWith (upO (α := α)) (ss.map some) ((ss.map some).drop 1)).all id := by
        unfold okLn
        rw [c1, decide_eq_true l5, Bool.true_and, Bool.true_and]
      rw [e0] at kg kb
      walk_at "gg"
      refine g_slL (same_sq S1 sq) fun q2 H2 n2 S2 e2 => ?_
      rw [cut_one] at e2
      have S02 := S1.trans S2
      walk_at "gg"
      refine g_exZ (same_sq S02 sq) (SqL.of e2) ?_
      rw [List.length_map] at ln few
      refine lc_map (src_zip (same_sq S02 sq) (SqL.of e2)) (by rw [List.length_drop]; omega) (fun i y => ∃ b, (List.zipWith (upO (α := α)) (ss.map some) ((ss.map some).drop 1))[i]? = some b ∧ y = V.bl b) (fun i x H' Nx hi Sx ix kx => ?_) fun D3 acc3 H3 n3 S3 e3 hl3 hacc3 => ?_
      · obtain ⟨t, v1, v2, rfl, ht, x1, x2⟩ := ix
        refine g_gtup (SqT.of ht) rfl ?_
        rw [List.getElem?_drop] at x2
        have l1 : i < ss.length := by have := (List.getElem?_eq_some_iff.mp x1).1; omega
        have l2 : 1 + i < ss.length := by have := (List.getElem?_eq_some_iff.mp x2).1; omega
        have o1 : ItO K H v1 (some ss[i]) := it i _ _ x1 (by rw [List.getElem?_map, List.getElem?_eq_getElem l1]; rfl)
        have o2 : ItO K H v2 (some ss[1 + i]) := it (1 + i) _ _ x2 (by rw [List.getElem?_map, List.getElem?_eq_getElem l2]; rfl)
        have S03 := S02.trans Sx
        walk_at "gg"
        refine ⟨rfl, ?_⟩
        walk_at "gg"
        refine Kd.less (dp_same S03 _ _ o1) (dp_same S03 _ _ o2) ?_
        refine kx _ _ (Same.refl _) ⟨_, ?_, rfl⟩
        rw [List.getElem?_zipWith, List.getElem?_drop, List.getElem?_map, List.getElem?_map, List.getElem?_eq_getElem l1, List.getElem?_eq_getElem l2]
        rfl
      have e3' := bls (by rw [List.length_zipWith, List.length_drop, List.length_map]; rw [List.length_drop, ln] at hl3; exact hl3) hacc3
      rw [e3'] at e3
      walk_at "gg"
      refine g_all (SqL.of e3) ?_
      have S03 := S02.trans S3
      walk_at "gg"
      cases c2 : (List.zipWith (upO (α := α)) (ss.map some) ((ss.map some).drop 1)).all id with
      | false =>
        refine g_ifT rfl ?_
        walk_at "gg"
        exact kb c2 _ S03
      | true =>
        refine g_ifF rfl ?_
        walk_at "gg"
        refine g_listof (SqL.of (S03 _ _ hay)) fun l H4 n4 S4 e4 => ?_
        have S04 := S03.trans S4
        have hp4 := S04 _ _ hp
        walk_at "gg"
        refine g_store hp4 L.cl L.own (by decide) ?_
        have npl : l ≠ p := ne_of e4 hp4 (by intro z; cases z)
        have dall : DpAll K H xs (ss.map Kd.D) := by
          refine dpAll_ofL (by rw [List.length_map]; exact ln) fun i y d h1 h2 => ?_
          rw [List.getElem?_map] at h2
          cases hs : ss[i]? with
          | none => rw [hs] at h2; cases h2
          | some b =>
            rw [hs] at h2
            obtain rfl := Option.some.inj (show some (Kd.D b) = some d from h2)
            exact it i y _ h1 (by rw [List.getElem?_map, hs]; rfl)
        exact kg c2 _ ss rfl ⟨dx, l, upd_same, xs, by rw [upd_ne npl]; exact e4, dp_oddAll hp4 odd_ins (but_same (Same.refl _)) _ _ (dp_sameAll S04 _ _ dall)⟩ (but_same S04)
/-- a line is made, its list is new -/
def spInitN (α : Type) [Od α] (K : PySem.W.Frag) (C : Addr) : Sp := fun vs H Q _ => ∃ (p a dx : Addr) (as : List α), vs = [.ref p, .ref a] ∧ H p = some (.ins C dx []) ∧ PtsL K H a as ∧ as.length ≤ 500 ∧ Up as ∧
  ∀ H' l, H l = none → H' p = some (.ins C dx (lf l)) → PtsL K H' l as → But p H H' → Q .non H'
theorem ok_initN {f C CF : Addr} {fd : FuncData} (F : Fun K "__init__" "Line.__init__" s_Line_init f fd) (L : LineC K C) (NF : NotF K CF) (T : Bt mg) (hS : S C) (d_is_point : MetF P w K mg base CX0 2 S "is_point" (fun _ => spPt α K))
    (g_Found : ∃ u, mg "Found" = some u ∧ RelV (.ref CF) u) (g_MOST_POINTS : ∃ u, mg "MOST_POINTS" = some u ∧ RelV (.int 500) u) : FnOk P w K mg base CX0 3 f fd ["self", "points"] (spInitN α K C) := by
  refine F.ok sc_Line_init (fun vs H Q E h => ?_) (fun cdv A outer s H vs Q E hr h => ?_)
  · obtain ⟨p, a, dx, as, rfl, _⟩ := h
    rfl
  · obtain ⟨p, a, dx, as, rfl, hp, ⟨xs, ha, hd⟩, few, up, k⟩ := h
    refine ⟨_, (pss_one (ps_if (pt_val (pe_callB call_isi (by rfl) T.n_isinstance bt_isinstance (pa_cons (pv 1) (pa_cons (pe_gc (by rfl) g_Found) pa_nil)))) (pss_one (ps_fld (pv 0) (pe_fld (pv 1) rfl) rfl)) (pss_cons (ps_if (PW.pt (pw_or (pt_not (pt_val (pe_callB call_isi (by rfl) T.n_isinstance bt_isinstance (pa_cons (pv 1) (pa_cons (pe_bltn (v := .ty "list") (by rfl) T.n_list bt_list rfl) pa_nil))))) (pw_or1 (pt_cmpR op_gt (pe_callB cr_lenQ (by rfl) T.n_len bt_len (pa_cons (pv 1) pa_nil)) (pe_gc (by rfl) g_MOST_POINTS) (nomark _))))) (pss_one ps_never) pss_nil)
    (pss_cons (ps_if (pt_not (pt_val (pe_callB (cr_all rfl) (by rfl) T.n_all bt_all (pa_cons (pe_lc (own := [("one", 2)]) (g := gName 2) (tt := tYes) rfl sc_Line_init.nd (pi_list (pv 1)) (blkOk_by (own := [("one", 2)]) (N := N_Line_init) (sc := defScope s_Line_init) (by decide +kernel)) (fun _ _ _ _ _ => pg_name (i := 2) sc_Line_init.nd rfl (Or.inl rfl)) (fun _ _ _ _ _ => pts_nil) (fun _ _ _ _ _ => (pe_mtF (CX := CX0) (E := fun _ _ _ _ => False) d_is_point hr (by decide) passF (pv 0) (pa_cons (pv 2) pa_nil)))) pa_nil)))) (pss_one ps_never) pss_nil)
    (pss_cons (ps_if (pt_not (pt_val (pe_callB (cr_all rfl) (by rfl) T.n_all bt_all (pa_cons (pe_lc (own := [("one", 2), ("other", 3)]) (g := gTup K 2 (gCons (gName 2) (gCons (gName 3) gNil))) (tt := tYes) rfl sc_Line_init.nd (pi_zip (by rfl) T.n_zip (pa_cons (pv 1) (pa_cons (pe_slice sl_list (pv 1) (po_some pe_int) po_none) pa_nil))) (blkOk_by (own := [("one", 2), ("other", 3)]) (N := N_Line_init) (sc := defScope s_Line_init) (by decide +kernel)) (fun _ _ _ _ _ => (pg_tup (by rfl) (pgs_cons (pg_name (i := 2) sc_Line_init.nd rfl (Or.inl rfl)) (pgs_cons (pg_name (i := 3) sc_Line_init.nd rfl (Or.inl rfl)) pgs_nil)))) (fun _ _ _ _ _ => pts_nil) (fun _ _ _ _ _ => (pe_cmpR (show OpR _ (compareOp .Lt) (rLt2 K) from op_lt2 hr.units0) (pv 2) (pv 3) (nomark _)))) pa_nil)))) (pss_one ps_never) pss_nil)
    (pss_one (ps_fld (pv 0) (pe_callTy cr_listQ (by rfl) T.n_list bt_list (pa_cons (pv 1) pa_nil)) rfl))))))), ?_⟩
    walk_at "gg"
    have ln := pts_len hd
    refine g_isi (.own CF) (.base (.lst ha)) (NF _ (by simp [Kin])) ?_
    walk_at "gg"
    refine g_ifF rfl ?_
    walk_at "gg"
    refine g_isi (.ty "list") (.base (.lst ha)) (b := true) (kit_ty (by decide +kernel)) ?_
    walk_at "gg"
    refine g_ifF rfl ?_
    walk_at "gg"
    refine g_len (SqL.of ha) ?_
    rw [ln]
    walk_at "gg"
    refine g_ifF (decide_eq_false (by omega)) ?_
    walk_at "gg"
    refine g_exL (SqL.of ha) ?_
    refine lc_map (src_list (SqL.of ha)) (by omega) (fun _ y => y = V.bl true) (fun i x H' Nx hi S it kx => ?_) fun D1 acc H1 n1 S1 e1 hl1 hacc => ?_
    · obtain ⟨b, hb, hx⟩ := pts_at (dp_sameAll S _ _ hd) it
      walk_at "gg"
      refine ⟨rfl, ?_⟩
      walk_at "gg"
      refine g_methF (S _ _ hp) hS rfl ?_
      walk_at "gg"
      exact ⟨p, _, true, rfl, Ln.pv_ok hx, fun H4 S4 => kx _ _ S4 rfl⟩
    rw [trues hacc] at e1
    walk_at "gg"
    refine g_all (SqL.of e1) ?_
    rw [all_trues]
    walk_at "gg"
    refine g_ifF rfl ?_
    walk_at "gg"
    refine g_slL (SqL.of (S1 _ _ ha)) fun q2 H2 n2 S2 e2 => ?_
    rw [cut_one] at e2
    have S02 := S1.trans S2
    walk_at "gg"
    refine g_exZ (SqL.of (S02 _ _ ha)) (SqL.of e2) ?_
    refine lc_map (src_zip (SqL.of (S02 _ _ ha)) (SqL.of e2)) (by omega) (fun _ y => y = V.bl true) (fun i x H' Nx hi S it kx => ?_) fun D3 acc3 H3 n3 S3 e3 hl3 hacc3 => ?_
    · obtain ⟨T, v1, v2, rfl, hT, x1, x2⟩ := it
      have hd' := dp_sameAll (S02.trans S) _ _ hd
      obtain ⟨m1, hm1, z1⟩ := pts_at hd' x1
      have hdd := dpAll_drop hd' 1
      rw [← List.map_drop] at hdd
      obtain ⟨m2, hm2, z2⟩ := pts_at hdd x2
      refine g_gtup (SqT.of hT) rfl ?_
      walk_at "gg"
      refine ⟨rfl, ?_⟩
      walk_at "gg"
      refine Kd.less z1 z2 ?_
      exact kx _ _ (Same.refl _) (congrArg V.bl (up_zip up hm1 hm2))
    rw [trues hacc3] at e3
    walk_at "gg"
    refine g_all (SqL.of e3) ?_
    rw [all_trues]
    walk_at "gg"
    refine g_ifF rfl ?_
    have S03 := S02.trans S3
    walk_at "gg"
    refine g_listof (SqL.of (S03 _ _ ha)) fun l H4 n4 S4 e4 => ?_
    have S04 := S03.trans S4
    have hp4 := S04 _ _ hp
    walk_at "gg"
    refine g_store hp4 L.cl L.own (by decide) ?_
    have npl : l ≠ p := ne_of e4 hp4 (by intro z; cases z)
    exact k _ l (same_free S03 n4) upd_same ⟨xs, by rw [upd_ne npl]; exact e4, dp_oddAll hp4 odd_ins (but_same (Same.refl _)) _ _ (dp_sameAll S04 _ _ hd)⟩ (but_same S04)
/-- a new list of the points -/
def spPtsD (K : PySem.W.Frag) (S : Addr → Prop) : Sp := fun vs H Q _ => ∃ (p C : Addr) (ds : List PyData), vs = [.ref p] ∧ S C ∧ LnD K C H p ds ∧ ∀ l xs H', H l = none → Same H H' → H' l = some (.lst xs) → DpAll K H' xs ds → Q (.ref l) H'
theorem ok_ptsD {f : Addr} {fd : FuncData} (F : Fun K "points" "Line.points" s_Line_points f fd) (L : ∀ C, S C → LineC K C) (T : Bt mg) : FnOk P w K mg base CX0 1 f fd ["self"] (spPtsD K S) := by
  refine F.ok sc_Line_points (fun vs H Q E h => ?_) (fun cdv A outer s H vs Q E hr h => ?_)
  · obtain ⟨p, C, ds, rfl, _⟩ := h
    rfl
  · obtain ⟨p, C, ds, rfl, hC, ⟨dx, q, xs, hp, hq, hd, pt⟩, k⟩ := h
    have L := L C hC
    refine ⟨_, (pss_one (ps_ret (pe_callTy cr_listQ (by rfl) T.n_list bt_list (pa_cons (pe_fld (pv 0) rfl) pa_nil)))), ?_⟩
    walk_at "gg"
    refine g_fld hp L.cl L.own (lf_own q) ?_
    walk_at "gg"
    refine g_listof (SqL.of hq) fun l H' n S e => ?_
    exact k l xs H' n S e (dp_sameAll S _ _ hd)
def spLenD (K : PySem.W.Frag) (S : Addr → Prop) : Sp := fun vs H Q _ => ∃ (p C : Addr) (ds : List PyData), vs = [.ref p] ∧ S C ∧ LnD K C H p ds ∧ Q (.int ds.length) H
abbrev s_Line_len : Stmt := inClass (top 8) 10
abbrev N_Line_len : List Str := ["self"]
theorem sc_Line_len : FnScope N_Line_len ["self"] (defScope s_Line_len) := ⟨rfl, rfl, rfl, by decide +kernel, rfl, by decide +kernel, by decide +kernel⟩

theorem ok_lenD {f : Addr} {fd : FuncData} (F : Fun K "__len__" "Line.__len__" s_Line_len f fd) (L : ∀ C, S C → LineC K C) (T : Bt mg) : FnOk P w K mg base CX0 1 f fd ["self"] (spLenD K S) := by
  refine F.ok sc_Line_len (fun vs H Q E h => ?_) (fun cdv A outer s H vs Q E hr h => ?_)
  · obtain ⟨p, C, ds, rfl, _⟩ := h
    rfl
  · obtain ⟨p, C, ds, rfl, hC, ⟨dx, q, xs, hp, hq, hd, pt⟩, k⟩ := h
    have L := L C hC
    refine ⟨_, (pss_one (ps_ret (pe_callB cr_lenQ (by rfl) T.n_len bt_len (pa_cons (pe_fld (pv 0) rfl) pa_nil)))), ?_⟩
    walk_at "gg"
    refine g_fld hp L.cl L.own (lf_own q) ?_
    walk_at "gg"
    refine g_len (SqL.of hq) ?_
    rw [dpAll_len hd]
    exact k
/-- what == reads of a class of lines -/
structure KndC (K : PySem.W.Frag) (CL C : Addr) (z : Str) : Prop where
  ty : ∀ {H : Hp} {a dx : Addr} {fs : List (Str × V)}, H a = some (.ins C dx fs) → TyX K H (.ref a) (.ref C)
  under : PySem.W.kitOne K (.ref C) (.ref CL) = some true
  kind : ∃ u : Value, Con K C "KIND" (.str z) u
/-- a line against a thing that is no line, or against another line -/
def spEqD (K : PySem.W.Frag) (S : Addr → Prop) (CL C : Addr) : Sp := fun vs H Q _ => ∃ (a : Addr) (y : V) (ds : List PyData) (z : Str), vs = [.ref a, y] ∧ LnD K C H a ds ∧ KndC K CL C z ∧
  ((∃ t, TyX K H y t ∧ PySem.W.kitOne K t (.ref CL) = some false ∧ Q (.bl false) H) ∨
  (∃ (b D : Addr) (es : List PyData) (z' : Str), y = .ref b ∧ S D ∧ LnD K D H b es ∧ KndC K CL D z' ∧ ∀ c : Bool, (c = true ↔ z' = z ∧ ds = es) → Q (.bl c) H))
abbrev s_Line_eq : Stmt := inClass (top 8) 12
abbrev N_Line_eq : List Str := ["self", "other"]
theorem sc_Line_eq : FnScope N_Line_eq ["self", "other"] (defScope s_Line_eq) := ⟨rfl, rfl, rfl, by decide +kernel, rfl, by decide +kernel, by decide +kernel⟩

theorem ok_eqD {f C CL : Addr} {fd : FuncData} (F : Fun K "__eq__" "Line.__eq__" s_Line_eq f fd) (hC : S C) (L : ∀ C, S C → LineC K C) (T : Bt mg) (g_Line : ∃ u, mg "Line" = some u ∧ RelV (.ref CL) u) : FnOk P w K mg base CX0 1 f fd ["self", "other"] (spEqD K S CL C) := by
  refine F.ok sc_Line_eq (fun vs H Q E h => ?_) (fun cdv A outer s H vs Q E hr h => ?_)
  · obtain ⟨a, y, ds, z, rfl, _⟩ := h
    rfl
  · obtain ⟨a, y, ds, z, rfl, ⟨dx, q, xs, ha, hq, hd, pt⟩, KC, h⟩ := h
    obtain ⟨u, kd⟩ := KC.kind
    have LC := L C hC
    refine ⟨_, (pss_one (ps_ret (pe_and (pe_callB call_isi (by rfl) T.n_isinstance bt_isinstance (pa_cons (pv 1) (pa_cons (pe_gc (by rfl) g_Line) pa_nil))) (pe_and (pe_cmpR op_eq (pe_con (pv 1) rfl) (pe_con (pv 0) rfl) (nomark _)) (pe_one (pe_cmpR (op_eqD hr.units) (pe_fld (pv 1) rfl) (pe_fld (pv 0) rfl) (nomark _))))))), ?_⟩
    walk_at "gg"
    rcases h with ⟨t, ty, no, k⟩ | ⟨b, D, es, z', rfl, hD, ⟨dy, r, ys, hb, hr', hd', pt'⟩, KD, k⟩
    · refine g_isi (.own CL) ty no ?_
      walk_at "gg"
      refine g_ifF rfl ?_
      exact k
    · have LD := L D hD
      obtain ⟨u', kd'⟩ := KD.kind
      refine g_isi (.own CL) (KD.ty hb) KD.under ?_
      walk_at "gg"
      refine g_ifT rfl ?_
      walk_at "gg"
      refine g_con hb LD.cl kd' (lf_no r (by decide)) ?_
      walk_at "gg"
      refine g_con ha LC.cl kd (lf_no q (by decide)) ?_
      walk_at "gg"
      refine g_ite (fun e => ?_) (fun e => ?_)
      · walk_at "gg"
        refine g_fld hb LD.cl LD.own (lf_own r) ?_
        walk_at "gg"
        refine g_fld ha LC.cl LC.own (lf_own q) ?_
        walk_at "gg"
        refine g_eqD (.lst (SqL.of hr') hd') (.lst (SqL.of hq) hd) (ptd_shape pt') (ptd_shape pt) ?_
        exact k _ ⟨fun w => ⟨V.str.inj e, ((ptd_eqv pt' pt).mp w).symm⟩, fun w => (ptd_eqv pt' pt).mpr w.2.symm⟩
      · exact k false ⟨fun w => absurd w Bool.false_ne_true, fun w => absurd (congrArg V.str w.1) e⟩
end
end Gk

namespace Gk
open PySem L2 Gx
open C8 (Cal Met Mak pe_c pe_mt pe_mt0 pe_mk pe_gc)
local macro_rules | `(tactic| walk_at "g") => `(tactic| (first
  | with_reducible refine g_seq ?_ | with_reducible refine g_asg ?_ | ((with_reducible show tVar _ _ _ _); refine g_var rfl ?_) | with_reducible refine g_c ?_ | with_reducible refine g_name ?_ | with_reducible refine g_op ?_ | with_reducible refine g_I0 ?_
  | with_reducible refine g_cons ?_ | with_reducible refine g_nil ?_ | with_reducible refine g_exbl ?_ | with_reducible refine g_exint ?_ | with_reducible refine g_test ?_ | with_reducible refine g_B ?_ | with_reducible refine g_ifS ?_ | with_reducible refine g_ret ?_ | with_reducible refine g_retN ?_ | with_reducible refine g_next ?_
  | with_reducible refine g_CB ?_ | with_reducible refine g_sub ?_ | with_reducible refine g_drop ?_ | with_reducible refine g_not ?_ | with_reducible refine g_and ?_ | with_reducible refine g_or ?_ | with_reducible refine g_andV ?_ | with_reducible refine g_orV ?_ | with_reducible refine g_notV ?_ | with_reducible refine g_ifE ?_ | with_reducible refine g_isN ?_
  | with_reducible refine g_par ?_ | with_reducible refine g_expar ?_ | with_reducible refine g_chain ?_ | with_reducible refine g_un ?_ | with_reducible refine g_U ?_ | with_reducible refine g_bits ?_ | ((with_reducible show rEq _ _ _ _); refine g_eq rfl ?_) | ((with_reducible show rNe _ _ _ _); refine g_ne rfl ?_)
  | with_reducible refine g_for ?_ | with_reducible refine g_iRng1 ?_ | with_reducible refine g_iRng2 ?_ | with_reducible refine g_iList ?_ | with_reducible refine g_iTup ?_
  | ((with_reducible refine g_Imul ?hc ?_); (case hc => (first | (refine Or.inl ⟨?_, ?_⟩ <;> first | decide | omega) | (refine Or.inr ⟨?_, ?_⟩ <;> first | decide | omega))))
  | ((with_reducible refine g_Idiv ?hc ?_); (case hc => (first | (exact ⟨by decide, by decide⟩) | assumption)))
  | ((with_reducible refine g_Imod ?hc ?_); (case hc => (first | assumption | omega | decide)))
  | ((with_reducible refine g_exR1 ?hlo ?hhi ?_); (case hlo => omega); (case hhi => omega))
  | ((with_reducible refine g_exR2 ?hb ?_); (case hb => omega))
  | with_reducible refine g_lst ?_ | with_reducible refine g_tup ?_ | with_reducible refine g_call ?_ | with_reducible refine g_BM ?_ | with_reducible refine g_BM0 ?_
  | with_reducible refine g_intB ?_ | with_reducible refine g_lc ?_ | with_reducible refine g_yes ?_ | with_reducible refine g_iZip ?_ | with_reducible refine g_sl ?_ | with_reducible refine g_noP ?_ | with_reducible refine g_part ?_ | with_reducible refine g_gcons ?_ | with_reducible refine g_gnil ?_
  | with_reducible refine g_tfld ?_ | with_reducible refine g_tmeth ?_ | with_reducible refine g_tmake ?_ | with_reducible refine g_sfld ?_ | with_reducible refine g_tprop ?_ | with_reducible refine g_tstar ?_ | with_reducible refine g_tmethK ?_ | with_reducible refine g_isN1 ?_ | with_reducible refine g_notN1 ?_))
local macro_rules | `(tactic| walk_at "gs1") => `(tactic| (first
  | with_reducible refine g_seq ?_ | with_reducible refine g_asg ?_ | ((with_reducible show tVar _ _ _ _); refine g_var rfl ?_) | with_reducible refine g_c ?_ | with_reducible refine g_name ?_ | with_reducible refine g_op ?_ | with_reducible refine g_I0 ?_
  | with_reducible refine g_cons ?_ | with_reducible refine g_nil ?_ | with_reducible refine g_exbl ?_ | with_reducible refine g_exint ?_ | with_reducible refine g_test ?_ | with_reducible refine g_B ?_ | with_reducible refine g_ifS ?_ | with_reducible refine g_retN ?_ | with_reducible refine g_next ?_
  | with_reducible refine g_CB ?_ | with_reducible refine g_sub ?_ | with_reducible refine g_drop ?_ | with_reducible refine g_not ?_ | with_reducible refine g_and ?_ | with_reducible refine g_or ?_ | with_reducible refine g_andV ?_ | with_reducible refine g_orV ?_ | with_reducible refine g_notV ?_ | with_reducible refine g_ifE ?_ | with_reducible refine g_isN ?_
  | with_reducible refine g_par ?_ | with_reducible refine g_expar ?_ | with_reducible refine g_chain ?_ | with_reducible refine g_un ?_ | with_reducible refine g_U ?_ | with_reducible refine g_bits ?_ | ((with_reducible show rEq _ _ _ _); refine g_eq rfl ?_) | ((with_reducible show rNe _ _ _ _); refine g_ne rfl ?_)
  | with_reducible refine g_for ?_ | with_reducible refine g_iRng1 ?_ | with_reducible refine g_iRng2 ?_ | with_reducible refine g_iList ?_ | with_reducible refine g_iTup ?_
  | ((with_reducible refine g_Imul ?hc ?_); (case hc => (first | (refine Or.inl ⟨?_, ?_⟩ <;> first | decide | omega) | (refine Or.inr ⟨?_, ?_⟩ <;> first | decide | omega))))
  | ((with_reducible refine g_Idiv ?hc ?_); (case hc => (first | (exact ⟨by decide, by decide⟩) | assumption)))
  | ((with_reducible refine g_Imod ?hc ?_); (case hc => (first | assumption | omega | decide)))
  | ((with_reducible refine g_exR1 ?hlo ?hhi ?_); (case hlo => omega); (case hhi => omega))
  | ((with_reducible refine g_exR2 ?hb ?_); (case hb => omega))
  | with_reducible refine g_lst ?_ | with_reducible refine g_tup ?_ | with_reducible refine g_call ?_ | with_reducible refine g_BM ?_ | with_reducible refine g_BM0 ?_
  | with_reducible refine g_intB ?_ | with_reducible refine g_lc ?_ | with_reducible refine g_yes ?_ | with_reducible refine g_iZip ?_ | with_reducible refine g_sl ?_ | with_reducible refine g_noP ?_ | with_reducible refine g_part ?_ | with_reducible refine g_gcons ?_ | with_reducible refine g_gnil ?_
  | with_reducible refine g_tfld ?_ | with_reducible refine g_tmeth ?_ | with_reducible refine g_tmake ?_ | with_reducible refine g_sfld ?_ | with_reducible refine g_tprop ?_ | with_reducible refine g_tstar ?_ | with_reducible refine g_tmethK ?_ | with_reducible refine g_isN1 ?_ | with_reducible refine g_notN1 ?_))
local macro_rules | `(tactic| walk_at "gx1") => `(tactic| (first
  | with_reducible refine g_seq ?_ | with_reducible refine g_asg ?_ | ((with_reducible show tVar _ _ _ _); refine g_var rfl ?_) | with_reducible refine g_c ?_ | with_reducible refine g_name ?_ | with_reducible refine g_op ?_ | with_reducible refine g_I0 ?_
  | with_reducible refine g_cons ?_ | with_reducible refine g_nil ?_ | with_reducible refine g_exbl ?_ | with_reducible refine g_exint ?_ | with_reducible refine g_test ?_ | with_reducible refine g_B ?_ | with_reducible refine g_ifS ?_ | with_reducible refine g_retN ?_ | with_reducible refine g_next ?_
  | with_reducible refine g_CB ?_ | with_reducible refine g_sub ?_ | with_reducible refine g_drop ?_ | with_reducible refine g_not ?_ | with_reducible refine g_and ?_ | with_reducible refine g_or ?_ | with_reducible refine g_andV ?_ | with_reducible refine g_orV ?_ | with_reducible refine g_notV ?_ | with_reducible refine g_ret ?_ | with_reducible refine g_isN ?_
  | with_reducible refine g_par ?_ | with_reducible refine g_expar ?_ | with_reducible refine g_chain ?_ | with_reducible refine g_un ?_ | with_reducible refine g_U ?_ | with_reducible refine g_bits ?_ | ((with_reducible show rEq _ _ _ _); refine g_eq rfl ?_) | ((with_reducible show rNe _ _ _ _); refine g_ne rfl ?_)
  | with_reducible refine g_for ?_ | with_reducible refine g_iRng1 ?_ | with_reducible refine g_iRng2 ?_ | with_reducible refine g_iList ?_ | with_reducible refine g_iTup ?_
  | ((with_reducible refine g_Imul ?hc ?_); (case hc => (first | (refine Or.inl ⟨?_, ?_⟩ <;> first | decide | omega) | (refine Or.inr ⟨?_, ?_⟩ <;> first | decide | omega))))
  | ((with_reducible refine g_Idiv ?hc ?_); (case hc => (first | (exact ⟨by decide, by decide⟩) | assumption)))
  | ((with_reducible refine g_Imod ?hc ?_); (case hc => (first | assumption | omega | decide)))
  | ((with_reducible refine g_exR1 ?hlo ?hhi ?_); (case hlo => omega); (case hhi => omega))
  | ((with_reducible refine g_exR2 ?hb ?_); (case hb => omega))
  | with_reducible refine g_lst ?_ | with_reducible refine g_tup ?_ | with_reducible refine g_call ?_ | with_reducible refine g_BM ?_ | with_reducible refine g_BM0 ?_
  | with_reducible refine g_intB ?_ | with_reducible refine g_lc ?_ | with_reducible refine g_yes ?_ | with_reducible refine g_iZip ?_ | with_reducible refine g_sl ?_ | with_reducible refine g_noP ?_ | with_reducible refine g_part ?_ | with_reducible refine g_gcons ?_ | with_reducible refine g_gnil ?_
  | with_reducible refine g_tfld ?_ | with_reducible refine g_tmeth ?_ | with_reducible refine g_tmake ?_ | with_reducible refine g_sfld ?_ | with_reducible refine g_tprop ?_ | with_reducible refine g_tstar ?_ | with_reducible refine g_tmethK ?_ | with_reducible refine g_isN1 ?_ | with_reducible refine g_notN1 ?_))
local macro_rules | `(tactic| walk_at "hp") => `(tactic| (first | assumption | exact upd_same | (refine same_get (by assumption) ?_; walk_at "hp")))
local macro_rules | `(tactic| walk_at "sm") => `(tactic| (first | assumption | exact Same.refl _ | (refine Same.trans ?ha (by assumption); walk_at "sm")))
local macro_rules | `(tactic| walk_at "nn") => `(tactic| (first | assumption | (refine same_free (by assumption) ?_; walk_at "nn")))
local macro_rules | `(tactic| walk_at "sb") => `(tactic| (first | decide | (refine small_bits ?_ ?_ <;> omega)))
local macro_rules | `(tactic| walk_at "ln") => `(tactic| (simp only [List.length_cons, List.length_nil]; omega))
local macro_rules | `(tactic| walk_at "gg") => `(tactic| (repeat walk_at "g"))
local macro_rules | `(tactic| walk_at "gs") => `(tactic| (repeat walk_at "gs1"))
local macro_rules | `(tactic| walk_at "gx") => `(tactic| (repeat walk_at "gx1"))

section
variable {P : Program} {w : World} {K : PySem.W.Frag} {mg : Str → Option Value} {base : Heap} {X : Cx}
abbrev s_whole : Stmt := top 16
abbrev N_whole : List Str := ["_law_thing"]
theorem sc_whole : FnScope N_whole ["_law_thing"] (defScope s_whole) := ⟨rfl, rfl, rfl, by decide +kernel, rfl, by decide +kernel, by decide +kernel⟩

theorem ok_whole01 {f : Addr} {fd : FuncData} (D : Dn K mg "_law_whole" s_whole ["_law_thing"] f fd) (T : Bt mg) : Cal P w K mg base 1 "_law_whole" (spWhole K) [] := by
  refine cal_of D (D.fn.ok sc_whole (fun vs H Q E h => ?_) (fun cdv A outer s H vs Q E hr h => ?_))
  · obtain ⟨x, b, rfl, _⟩ := h
    rfl
  · obtain ⟨x, b, rfl, hv, k⟩ := h
    refine ⟨_, (pss_one (ps_ret (pe_and (pe_callB call_isi (by rfl) T.n_isinstance bt_isinstance (pa_cons (pv 0) (pa_cons (pe_bltn (v := .ty "int") (by rfl) T.n_int bt_int rfl) pa_nil))) (pe_one (pe_not (pe_callB call_isi (by rfl) T.n_isinstance bt_isinstance (pa_cons (pv 0) (pa_cons (pe_bltn (v := .ty "bool") (by rfl) T.n_bool bt_bool rfl) pa_nil)))))))), ?_⟩
    walk_at "gg"
    cases hv with
    | int i =>
      refine g_isi (.ty "int") (.base (.int i)) (b := true) (kit_ty (by decide +kernel)) ?_
      walk_at "gg"
      refine g_ifT rfl ?_
      walk_at "gg"
      refine g_isi (.ty "bool") (.base (.int i)) (b := false) (kit_ty (by decide +kernel)) ?_
      walk_at "gg"
      exact k
    | bl c =>
      refine g_isi (.ty "int") (.base (.bl c)) (b := true) (kit_ty (by decide +kernel)) ?_
      walk_at "gg"
      refine g_ifT rfl ?_
      walk_at "gg"
      refine g_isi (.ty "bool") (.base (.bl c)) (b := true) (kit_ty (by decide +kernel)) ?_
      walk_at "gg"
      exact k
    | other ty no =>
      refine g_isi (.ty "int") ty no ?_
      walk_at "gg"
      refine g_ifF rfl ?_
      exact k
theorem okLn_none {α : Type} [Od α] {os : List (Option α)} {i : Nat} (h : os[i]? = some none) : okLn os = false := by
  unfold okLn
  have : os.all Option.isSome = false := by
    rw [List.all_eq_false]
    exact ⟨none, List.mem_of_getElem? h, by simp⟩
  rw [this, Bool.false_and, Bool.and_false]
theorem okLn_zip {α : Type} [Od α] {ss : List α} (l : ss.length ≤ 500) : okLn (ss.map some) = (List.zipWith (upO (α := α)) (ss.map some) ((ss.map some).drop 1)).all id := by
  unfold okLn
  rw [List.length_map, decide_eq_true l, Bool.true_and, List.all_map]
  have : (ss.all (Option.isSome ∘ some)) = true := List.all_eq_true.mpr fun _ _ => rfl
  rw [this, Bool.true_and]
theorem somes_of {α : Type} : ∀ {os : List (Option α)}, (∀ j, j < os.length → ∃ b : α, os[j]? = some (some b)) → ∃ ss : List α, os = ss.map some
  | [], _ => ⟨[], rfl⟩
  | o :: os, h => by
    obtain ⟨b, hb⟩ := h 0 (by simp)
    obtain ⟨ss, rfl⟩ := somes_of (os := os) fun j hj => h (j + 1) (by simpa using hj)
    obtain rfl := Option.some.inj (show some o = some (some b) from hb)
    exact ⟨b :: ss, rfl⟩
def spGood (α : Type) [Od α] (K : PySem.W.Frag) (z : Str) : Sp := fun vs H Q _ => ∃ (x : V) (j : Option (List α)), vs = [.str z, x] ∧ JudV α K H x j ∧ ∀ H', Same H H' → Q (.bl j.isSome) H'
abbrev s_good : Stmt := top 17
abbrev N_good : List Str := ["_law_kind_here", "_law_thing", "_law_one", "_law_parts", "_law_n", "_law_k"]
theorem sc_good : FnScope N_good ["_law_kind_here", "_law_thing"] (defScope s_good) := ⟨rfl, rfl, rfl, by decide +kernel, rfl, by decide +kernel, by decide +kernel⟩

theorem ok_goodI {f : Addr} {fd : FuncData} (D : Dn K mg "_law_good" s_good ["_law_kind_here", "_law_thing"] f fd) (T : Bt mg) (c__law_whole : Cal P w K mg base 1 "_law_whole" (spWhole K) []) : FnOk P w K mg base CX0 2 f fd ["_law_kind_here", "_law_thing"] (spGood Int K "keys") := by
  refine D.fn.ok sc_good (fun vs H Q E h => ?_) (fun cdv A outer s H vs Q E hr h => ?_)
  · obtain ⟨x, j, rfl, _⟩ := h
    rfl
  · obtain ⟨x, j, rfl, hj, k⟩ := h
    refine ⟨_, (pss_cons (ps_if (PW.pt (pw_or (pt_not (pt_val (pe_callB call_isi (by rfl) T.n_isinstance bt_isinstance (pa_cons (pv 1) (pa_cons (pe_bltn (v := .ty "list") (by rfl) T.n_list bt_list rfl) pa_nil))))) (pw_or1 (pt_cmpR op_gt (pe_callB cr_lenQ (by rfl) T.n_len bt_len (pa_cons (pv 1) pa_nil)) pe_int (nomark _))))) (pss_one (ps_ret pe_bl)) pss_nil)
    (pss_cons (ps_for PassesOwn.never rfl (pi_list (pv 1)) (pg_name (i := 2) sc_good.nd rfl (Or.inl rfl)) (pss_cons (ps_set (i := 3) sc_good.nd rfl (Or.inl rfl) (pe_ifExp (pt_cmpR op_eq (pv 0) pe_str (nomark _)) (pv 2) (pe_tup (pa_cons (pv 2) pa_nil))))
    (pss_one (ps_if (PW.pt (pw_or (pt_not (pt_val (pe_callB call_isi (by rfl) T.n_isinstance bt_isinstance (pa_cons (pv 3) (pa_cons (pe_bltn (v := .ty "tuple") (by rfl) T.n_tuple bt_tuple rfl) pa_nil))))) (pw_or (pt_cmpR op_ne (pe_callB cr_lenQ (by rfl) T.n_len bt_len (pa_cons (pv 3) pa_nil)) (pe_op op_fdiv (pe_callB call_len_str (by rfl) T.n_len bt_len (pa_cons (pv 0) pa_nil)) pe_int) (nomark _)) (pw_or1 (pt_not (pt_val (pe_callB (cr_all rfl) (by rfl) T.n_all bt_all (pa_cons (pe_lc (own := [("_law_n", 4)]) (g := gName 4) (tt := tYes) rfl sc_good.nd (pi_tup (pv 3)) (blkOk_by (own := [("_law_n", 4)]) (N := N_good) (sc := defScope s_good) (by decide +kernel)) (fun _ _ _ _ _ => pg_name (i := 4) sc_good.nd rfl (Or.inl rfl)) (fun _ _ _ _ _ => pts_nil) (fun _ _ _ _ _ => (pe_c c__law_whole hr (by decide) (by rfl) (pa_cons (pv 4) pa_nil)))) pa_nil)))))))) (pss_one (ps_ret pe_bl)) pss_nil))))
    (pss_one (ps_ret (pe_callB (cr_all rfl) (by rfl) T.n_all bt_all (pa_cons (pe_lc (own := [("_law_k", 5)]) (g := gName 5) (tt := tYes) rfl sc_good.nd (pi_range1 (by rfl) T.n_range (pa_cons (pe_op op_sub (pe_callB cr_lenQ (by rfl) T.n_len bt_len (pa_cons (pv 1) pa_nil)) pe_int) pa_nil)) (blkOk_by (own := [("_law_k", 5)]) (N := N_good) (sc := defScope s_good) (by decide +kernel)) (fun _ _ _ _ _ => pg_name (i := 5) sc_good.nd rfl (Or.inl rfl)) (fun _ _ _ _ _ => pts_nil) (fun _ _ _ _ _ => (pe_cmpR (show OpR _ (compareOp .Lt) (rLt2 K) from op_lt2 hr.units0) (pe_ix (show IxR _ (rIxL K) from ix_list) (pv 1) (pv 5) (fun _ _ => rfl)) (pe_ix (show IxR _ (rIxL K) from ix_list) (pv 1) (pe_op op_add (pv 5) pe_int) (fun _ _ => rfl)) (nomark _)))) pa_nil)))))), ?_⟩
    walk_at "gg"
    rcases jud_cases hj with ⟨a, os, xs, rfl, hay, ln, it, few, e⟩ | ⟨⟨t, ty, tk, no⟩, e⟩
    rotate_left
    · refine g_isi (.ty "list") ty no ?_
      walk_at "gg"
      refine g_ifT rfl ?_
      refine g_ifT rfl ?_
      walk_at "gg"
      rw [e] at k
      exact k _ (Same.refl _)
    rw [e] at k
    have sq : SqL K H a xs := SqL.of hay
    refine g_isi (.ty "list") (.base (.lst hay)) (b := true) (kit_ty (by decide +kernel)) ?_
    walk_at "gg"
    refine g_ifF rfl ?_
    walk_at "gg"
    refine g_len sq ?_
    rw [ln]
    walk_at "gg"
    by_cases l5 : os.length ≤ 500
    rotate_left
    · refine g_ifT (decide_eq_true (by omega)) ?_
      walk_at "gg"
      have e0 : okLn os = false := by unfold okLn; rw [decide_eq_false l5]; rfl
      rw [e0] at k
      exact k _ (Same.refl _)
    refine g_ifF (decide_eq_false (by omega)) ?_
    walk_at "gg"
    refine g_exL sq ?_
    refine fw_list (xs := xs) (fun i σ H' => Same H H' ∧ (∀ j, j < i → ∃ b : Int, os[j]? = some (some b)) ∧ ∃ v1 v2 v3 v4, σ = [some (.str "keys"), some (.ref a), v1, v2, v3, v4]) ⟨Same.refl _, fun j h => by omega, _, _, _, _, rfl⟩ (fun i σ H' _ ⟨S, _⟩ => same_sq S sq) ?_ ?_
    · rintro i y σ H1 hb ⟨S1, al, v1, v2, v3, v4, rfl⟩
      walk_at "gg"
      refine g_ifF (decide_eq_false (fun z => absurd (V.str.inj z) (by decide))) ?_
      walk_at "gg"
      refine g_mkT (by walk_at "ln") fun t2 H2 n2 S2 e2 => ?_
      walk_at "gg"
      refine g_isi (.ty "tuple") (.base (.tup e2)) (b := true) (kit_ty (by decide +kernel)) ?_
      walk_at "gg"
      refine g_ifF rfl ?_
      walk_at "gg"
      refine g_lenT (SqT.of e2) ?_
      walk_at "gg"
      refine ⟨"keys", rfl, by decide +kernel, ?_⟩
      walk_at "gg"
      refine g_I (C := CDiv) ⟨by decide +kernel, by decide +kernel⟩ ?_
      walk_at "gg"
      rw [show ((("keys" : Str).length : Int) / 3) = 1 by decide +kernel]
      refine g_ifF (by simp) ?_
      walk_at "gg"
      refine g_exT (SqT.of e2) ?_
      have io := it i y _ hb (List.getElem?_eq_getElem (by have := (List.getElem?_eq_some_iff.mp hb).1; omega))
      have hi : i < os.length := by have := (List.getElem?_eq_some_iff.mp hb).1; omega
      have ho : os[i]? = some os[i] := List.getElem?_eq_getElem hi
      generalize os[i] = o at io ho
      have wy : WholeV K H y o.isSome := by
        cases o with
        | none => exact io
        | some b => exact Ln.pv_ok (α := Int) io
      refine lc_map (src_tup (SqT.of e2)) (by show 1 ≤ 100000; omega) (fun i y => ∃ b, [o.isSome][i]? = some b ∧ y = V.bl b) (fun i x H' Nx hi Sx ix kx => ?_) fun l3 acc H3 n3 S3 e3 hl3 hacc => ?_
      · match i, ix with
        | 0, ix =>
          obtain rfl := Option.some.inj ix
          walk_at "gg"
          refine ⟨rfl, ?_⟩
          walk_at "gg"
          exact ⟨y, o.isSome, rfl, whole_same ((S1.trans S2).trans Sx) wy, kx _ _ (Same.refl _) ⟨_, rfl, rfl⟩⟩
      rw [bls hl3 hacc] at e3
      walk_at "gg"
      refine g_all (SqL.of e3) ?_
      walk_at "gg"
      have S13 := (S1.trans S2).trans S3
      cases o with
      | none =>
        refine g_ifT rfl ?_
        walk_at "gg"
        rw [okLn_none ho] at k
        exact k _ S13
      | some b =>
        refine g_ifF rfl ?_
        walk_at "gg"
        refine ⟨S13, fun j hj => ?_, _, _, _, _, rfl⟩
        rcases Nat.lt_succ_iff_lt_or_eq.mp hj with z | rfl
        · exact al j z
        · exact ⟨b, ho⟩
    · rintro σ H1 ⟨S1, al, v1, v2, v3, v4, rfl⟩
      rw [ln] at al
      obtain ⟨ss, rfl⟩ := somes_of al
      rw [List.length_map] at l5 ln
      rw [okLn_zip l5] at k
      walk_at "gg"
      refine g_len (same_sq S1 sq) ?_
      walk_at "gg"
      refine lc_map (src_rng) (by omega) (fun i y => ∃ b, (List.zipWith (upO (α := Int)) (ss.map some) ((ss.map some).drop 1))[i]? = some b ∧ y = V.bl b) (fun i x H' Nx hi Sx ix kx => ?_) fun l3 acc H3 n3 S3 e3 hl3 hacc => ?_
      · subst ix
        have S1x := S1.trans Sx
        have pts : PtsL K H' a ss := ⟨xs, S1x _ _ hay, dp_sameAll S1x _ _ (dpAll_ofL (by rw [List.length_map]; exact ln) fun i y d h1 h2 => by
          rw [List.getElem?_map] at h2
          cases hs : ss[i]? with
          | none => rw [hs] at h2; cases h2
          | some b =>
            rw [hs] at h2
            obtain rfl := Option.some.inj (show some (Kd.D b) = some d from h2)
            exact it i y _ h1 (by rw [List.getElem?_map, hs]; rfl))⟩
        walk_at "gg"
        refine ⟨rfl, ?_⟩
        walk_at "gg"
        refine g_ptAt pts (by omega) (by omega) fun v1 b1 hb1 hv1 => ?_
        walk_at "gg"
        refine g_ptAt pts (by omega) (by omega) fun v2 b2 hb2 hv2 => ?_
        refine Kd.less hv1 hv2 ?_
        refine kx _ _ (Same.refl _) ⟨_, ?_, rfl⟩
        rw [List.getElem?_zipWith, List.getElem?_drop, List.getElem?_map, List.getElem?_map]
        rw [show (0 + (i : Int)).toNat = i by omega] at hb1
        rw [show (0 + (i : Int) + 1).toNat = 1 + i by omega] at hb2
        rw [hb1, hb2]
        rfl
      rw [bls (by rw [List.length_zipWith, List.length_drop, List.length_map, hl3]; omega) hacc] at e3
      walk_at "gg"
      refine g_all (SqL.of e3) ?_
      exact k _ (S1.trans S3)
theorem ok_goodP {f : Addr} {fd : FuncData} (D : Dn K mg "_law_good" s_good ["_law_kind_here", "_law_thing"] f fd) (T : Bt mg) (c__law_whole : Cal P w K mg base 1 "_law_whole" (spWhole K) []) : FnOk P w K mg base CX0 2 f fd ["_law_kind_here", "_law_thing"] (spGood Pr K "values") := by
  refine D.fn.ok sc_good (fun vs H Q E h => ?_) (fun cdv A outer s H vs Q E hr h => ?_)
  · obtain ⟨x, j, rfl, _⟩ := h
    rfl
  · obtain ⟨x, j, rfl, hj, k⟩ := h
    refine ⟨_, (pss_cons (ps_if (PW.pt (pw_or (pt_not (pt_val (pe_callB call_isi (by rfl) T.n_isinstance bt_isinstance (pa_cons (pv 1) (pa_cons (pe_bltn (v := .ty "list") (by rfl) T.n_list bt_list rfl) pa_nil))))) (pw_or1 (pt_cmpR op_gt (pe_callB cr_lenQ (by rfl) T.n_len bt_len (pa_cons (pv 1) pa_nil)) pe_int (nomark _))))) (pss_one (ps_ret pe_bl)) pss_nil)
    (pss_cons (ps_for PassesOwn.never rfl (pi_list (pv 1)) (pg_name (i := 2) sc_good.nd rfl (Or.inl rfl)) (pss_cons (ps_set (i := 3) sc_good.nd rfl (Or.inl rfl) (pe_ifExp (pt_cmpR op_eq (pv 0) pe_str (nomark _)) (pv 2) (pe_tup (pa_cons (pv 2) pa_nil))))
    (pss_one (ps_if (PW.pt (pw_or (pt_not (pt_val (pe_callB call_isi (by rfl) T.n_isinstance bt_isinstance (pa_cons (pv 3) (pa_cons (pe_bltn (v := .ty "tuple") (by rfl) T.n_tuple bt_tuple rfl) pa_nil))))) (pw_or (pt_cmpR op_ne (pe_callB cr_lenQ (by rfl) T.n_len bt_len (pa_cons (pv 3) pa_nil)) (pe_op op_fdiv (pe_callB call_len_str (by rfl) T.n_len bt_len (pa_cons (pv 0) pa_nil)) pe_int) (nomark _)) (pw_or1 (pt_not (pt_val (pe_callB (cr_all rfl) (by rfl) T.n_all bt_all (pa_cons (pe_lc (own := [("_law_n", 4)]) (g := gName 4) (tt := tYes) rfl sc_good.nd (pi_tup (pv 3)) (blkOk_by (own := [("_law_n", 4)]) (N := N_good) (sc := defScope s_good) (by decide +kernel)) (fun _ _ _ _ _ => pg_name (i := 4) sc_good.nd rfl (Or.inl rfl)) (fun _ _ _ _ _ => pts_nil) (fun _ _ _ _ _ => (pe_c c__law_whole hr (by decide) (by rfl) (pa_cons (pv 4) pa_nil)))) pa_nil)))))))) (pss_one (ps_ret pe_bl)) pss_nil))))
    (pss_one (ps_ret (pe_callB (cr_all rfl) (by rfl) T.n_all bt_all (pa_cons (pe_lc (own := [("_law_k", 5)]) (g := gName 5) (tt := tYes) rfl sc_good.nd (pi_range1 (by rfl) T.n_range (pa_cons (pe_op op_sub (pe_callB cr_lenQ (by rfl) T.n_len bt_len (pa_cons (pv 1) pa_nil)) pe_int) pa_nil)) (blkOk_by (own := [("_law_k", 5)]) (N := N_good) (sc := defScope s_good) (by decide +kernel)) (fun _ _ _ _ _ => pg_name (i := 5) sc_good.nd rfl (Or.inl rfl)) (fun _ _ _ _ _ => pts_nil) (fun _ _ _ _ _ => (pe_cmpR (show OpR _ (compareOp .Lt) (rLt2 K) from op_lt2 hr.units0) (pe_ix (show IxR _ (rIxL K) from ix_list) (pv 1) (pv 5) (fun _ _ => rfl)) (pe_ix (show IxR _ (rIxL K) from ix_list) (pv 1) (pe_op op_add (pv 5) pe_int) (fun _ _ => rfl)) (nomark _)))) pa_nil)))))), ?_⟩
    walk_at "gg"
    rcases jud_cases hj with ⟨a, os, xs, rfl, hay, ln, it, few, e⟩ | ⟨⟨t, ty, tk, no⟩, e⟩
    rotate_left
    · refine g_isi (.ty "list") ty no ?_
      walk_at "gg"
      refine g_ifT rfl ?_
      refine g_ifT rfl ?_
      walk_at "gg"
      rw [e] at k
      exact k _ (Same.refl _)
    rw [e] at k
    have sq : SqL K H a xs := SqL.of hay
    refine g_isi (.ty "list") (.base (.lst hay)) (b := true) (kit_ty (by decide +kernel)) ?_
    walk_at "gg"
    refine g_ifF rfl ?_
    walk_at "gg"
    refine g_len sq ?_
    rw [ln]
    walk_at "gg"
    by_cases l5 : os.length ≤ 500
    rotate_left
    · refine g_ifT (decide_eq_true (by omega)) ?_
      walk_at "gg"
      have e0 : okLn os = false := by unfold okLn; rw [decide_eq_false l5]; rfl
      rw [e0] at k
      exact k _ (Same.refl _)
    refine g_ifF (decide_eq_false (by omega)) ?_
    walk_at "gg"
    refine g_exL sq ?_
    refine fw_list (xs := xs) (fun i σ H' => Same H H' ∧ (∀ j, j < i → ∃ b : Pr, os[j]? = some (some b)) ∧ ∃ v1 v2 v3 v4, σ = [some (.str "values"), some (.ref a), v1, v2, v3, v4]) ⟨Same.refl _, fun j h => by omega, _, _, _, _, rfl⟩ (fun i σ H' _ ⟨S, _⟩ => same_sq S sq) ?_ ?_
    · rintro i y σ H1 hb ⟨S1, al, v1, v2, v3, v4, rfl⟩
      walk_at "gg"
      refine g_ifT (decide_eq_true rfl) ?_
      walk_at "gg"
      have io := it i y _ hb (List.getElem?_eq_getElem (by have := (List.getElem?_eq_some_iff.mp hb).1; omega))
      have hi : i < os.length := by have := (List.getElem?_eq_some_iff.mp hb).1; omega
      have ho : os[i]? = some os[i] := List.getElem?_eq_getElem hi
      generalize os[i] = o at io ho
      have wy : PairV K H y o.isSome := by
        cases o with
        | none => exact io
        | some b => exact Ln.pv_ok (α := Pr) io
      have bad : o.isSome = false → ∀ H', Same H H' → Q (.bl false) H' := fun z H' S => by
        cases o with
        | none => rw [okLn_none ho] at k; exact k H' S
        | some b => cases z
      have good : o.isSome = true → ∀ j, j < i + 1 → ∃ b : Pr, os[j]? = some (some b) := fun z j hj => by
        cases o with
        | none => cases z
        | some b =>
          rcases Nat.lt_succ_iff_lt_or_eq.mp hj with z | rfl
          · exact al j z
          · exact ⟨b, ho⟩
      generalize o.isSome = c at wy bad good
      cases wy with
      | other ty no =>
        refine g_isi (.ty "tuple") (tyX_same S1 ty) no ?_
        walk_at "gg"
        refine g_ifT rfl ?_
        refine g_ifT rfl ?_
        walk_at "gg"
        exact bad rfl _ S1
      | @tup r ys bs e l w =>
        refine g_isi (.ty "tuple") (sqT_ty (same_sqT S1 e)) (b := true) (kit_ty (by decide +kernel)) ?_
        walk_at "gg"
        refine g_ifF rfl ?_
        walk_at "gg"
        refine g_lenT (same_sqT S1 e) ?_
        walk_at "gg"
        refine ⟨"values", rfl, by decide +kernel, ?_⟩
        walk_at "gg"
        refine g_I (C := CDiv) ⟨by decide +kernel, by decide +kernel⟩ ?_
        walk_at "gg"
        rw [show ((("values" : Str).length : Int) / 3) = 2 by decide +kernel]
        by_cases l2 : ys.length = 2
        rotate_left
        · refine g_ifT (by simp; omega) ?_
          refine g_ifT rfl ?_
          walk_at "gg"
          exact bad (by rw [decide_eq_false l2]; rfl) _ S1
        refine g_ifF (by simp; omega) ?_
        walk_at "gg"
        refine g_exT (same_sqT S1 e) ?_
        refine lc_map (src_tup (same_sqT S1 e)) (by omega) (fun i y => ∃ b, bs[i]? = some b ∧ y = V.bl b) (fun i x H' Nx hi Sx ix kx => ?_) fun l3 acc H3 n3 S3 e3 hl3 hacc => ?_
        · walk_at "gg"
          refine ⟨rfl, ?_⟩
          walk_at "gg"
          have hb2 : i < bs.length := by omega
          have gb := List.getElem?_eq_getElem hb2
          exact ⟨x, bs[i], rfl, whole_same (S1.trans Sx) (w i x _ ix gb), kx _ _ (Same.refl _) ⟨_, gb, rfl⟩⟩
        rw [bls (by rw [hl3, l]) hacc] at e3
        walk_at "gg"
        refine g_all (SqL.of e3) ?_
        walk_at "gg"
        have S13 := S1.trans S3
        rw [decide_eq_true l2, Bool.true_and] at bad good
        cases c : bs.all id with
        | false =>
          refine g_ifT rfl ?_
          walk_at "gg"
          exact bad c _ S13
        | true =>
          refine g_ifF rfl ?_
          walk_at "gg"
          exact ⟨S13, good c, _, _, _, _, rfl⟩
    · rintro σ H1 ⟨S1, al, v1, v2, v3, v4, rfl⟩
      rw [ln] at al
      obtain ⟨ss, rfl⟩ := somes_of al
      rw [List.length_map] at l5 ln
      rw [okLn_zip l5] at k
      walk_at "gg"
      refine g_len (same_sq S1 sq) ?_
      walk_at "gg"
      refine lc_map (src_rng) (by omega) (fun i y => ∃ b, (List.zipWith (upO (α := Pr)) (ss.map some) ((ss.map some).drop 1))[i]? = some b ∧ y = V.bl b) (fun i x H' Nx hi Sx ix kx => ?_) fun l3 acc H3 n3 S3 e3 hl3 hacc => ?_
      · subst ix
        have S1x := S1.trans Sx
        have pts : PtsL K H' a ss := ⟨xs, S1x _ _ hay, dp_sameAll S1x _ _ (dpAll_ofL (by rw [List.length_map]; exact ln) fun i y d h1 h2 => by
          rw [List.getElem?_map] at h2
          cases hs : ss[i]? with
          | none => rw [hs] at h2; cases h2
          | some b =>
            rw [hs] at h2
            obtain rfl := Option.some.inj (show some (Kd.D b) = some d from h2)
            exact it i y _ h1 (by rw [List.getElem?_map, hs]; rfl))⟩
        walk_at "gg"
        refine ⟨rfl, ?_⟩
        walk_at "gg"
        refine g_ptAt pts (by omega) (by omega) fun v1 b1 hb1 hv1 => ?_
        walk_at "gg"
        refine g_ptAt pts (by omega) (by omega) fun v2 b2 hb2 hv2 => ?_
        refine Kd.less hv1 hv2 ?_
        refine kx _ _ (Same.refl _) ⟨_, ?_, rfl⟩
        rw [List.getElem?_zipWith, List.getElem?_drop, List.getElem?_map, List.getElem?_map]
        rw [show (0 + (i : Int)).toNat = i by omega] at hb1
        rw [show (0 + (i : Int) + 1).toNat = 1 + i by omega] at hb2
        rw [hb1, hb2]
        rfl
      rw [bls (by rw [List.length_zipWith, List.length_drop, List.length_map, hl3]; omega) hacc] at e3
      walk_at "gg"
      refine g_all (SqL.of e3) ?_
      exact k _ (S1.trans S3)
end
end Gk

namespace Gk
open PySem L2 Gx
open C8 (Cal Met Mak pe_c pe_mt pe_mt0 pe_mk pe_gc)
local macro_rules | `(tactic| walk_at "g") => `(tactic| (first
  | with_reducible refine g_seq ?_ | with_reducible refine g_asg ?_ | ((with_reducible show tVar _ _ _ _); refine g_var rfl ?_) | with_reducible refine g_c ?_ | with_reducible refine g_name ?_ | with_reducible refine g_op ?_ | with_reducible refine g_I0 ?_
  | with_reducible refine g_cons ?_ | with_reducible refine g_nil ?_ | with_reducible refine g_exbl ?_ | with_reducible refine g_exint ?_ | with_reducible refine g_test ?_ | with_reducible refine g_B ?_ | with_reducible refine g_ifS ?_ | with_reducible refine g_ret ?_ | with_reducible refine g_retN ?_ | with_reducible refine g_next ?_
  | with_reducible refine g_CB ?_ | with_reducible refine g_sub ?_ | with_reducible refine g_drop ?_ | with_reducible refine g_not ?_ | with_reducible refine g_and ?_ | with_reducible refine g_or ?_ | with_reducible refine g_andV ?_ | with_reducible refine g_orV ?_ | with_reducible refine g_notV ?_ | with_reducible refine g_ifE ?_ | with_reducible refine g_isN ?_
  | with_reducible refine g_par ?_ | with_reducible refine g_expar ?_ | with_reducible refine g_chain ?_ | with_reducible refine g_un ?_ | with_reducible refine g_U ?_ | with_reducible refine g_bits ?_ | ((with_reducible show rEq _ _ _ _); refine g_eq rfl ?_) | ((with_reducible show rNe _ _ _ _); refine g_ne rfl ?_)
  | with_reducible refine g_for ?_ | with_reducible refine g_iRng1 ?_ | with_reducible refine g_iRng2 ?_ | with_reducible refine g_iList ?_ | with_reducible refine g_iTup ?_
  | ((with_reducible refine g_Imul ?hc ?_); (case hc => (first | (refine Or.inl ⟨?_, ?_⟩ <;> first | decide | omega) | (refine Or.inr ⟨?_, ?_⟩ <;> first | decide | omega))))
  | ((with_reducible refine g_Idiv ?hc ?_); (case hc => (first | (exact ⟨by decide, by decide⟩) | assumption)))
  | ((with_reducible refine g_Imod ?hc ?_); (case hc => (first | assumption | omega | decide)))
  | ((with_reducible refine g_exR1 ?hlo ?hhi ?_); (case hlo => omega); (case hhi => omega))
  | ((with_reducible refine g_exR2 ?hb ?_); (case hb => omega))
  | with_reducible refine g_lst ?_ | with_reducible refine g_tup ?_ | with_reducible refine g_call ?_ | with_reducible refine g_BM ?_ | with_reducible refine g_BM0 ?_
  | with_reducible refine g_intB ?_ | with_reducible refine g_lc ?_ | with_reducible refine g_yes ?_ | with_reducible refine g_iZip ?_ | with_reducible refine g_sl ?_ | with_reducible refine g_noP ?_ | with_reducible refine g_part ?_ | with_reducible refine g_gcons ?_ | with_reducible refine g_gnil ?_
  | with_reducible refine g_tfld ?_ | with_reducible refine g_tmeth ?_ | with_reducible refine g_tmake ?_ | with_reducible refine g_sfld ?_ | with_reducible refine g_tprop ?_ | with_reducible refine g_tstar ?_ | with_reducible refine g_tmethK ?_ | with_reducible refine g_isN1 ?_ | with_reducible refine g_notN1 ?_))
local macro_rules | `(tactic| walk_at "gs1") => `(tactic| (first
  | with_reducible refine g_seq ?_ | with_reducible refine g_asg ?_ | ((with_reducible show tVar _ _ _ _); refine g_var rfl ?_) | with_reducible refine g_c ?_ | with_reducible refine g_name ?_ | with_reducible refine g_op ?_ | with_reducible refine g_I0 ?_
  | with_reducible refine g_cons ?_ | with_reducible refine g_nil ?_ | with_reducible refine g_exbl ?_ | with_reducible refine g_exint ?_ | with_reducible refine g_test ?_ | with_reducible refine g_B ?_ | with_reducible refine g_ifS ?_ | with_reducible refine g_retN ?_ | with_reducible refine g_next ?_
  | with_reducible refine g_CB ?_ | with_reducible refine g_sub ?_ | with_reducible refine g_drop ?_ | with_reducible refine g_not ?_ | with_reducible refine g_and ?_ | with_reducible refine g_or ?_ | with_reducible refine g_andV ?_ | with_reducible refine g_orV ?_ | with_reducible refine g_notV ?_ | with_reducible refine g_ifE ?_ | with_reducible refine g_isN ?_
  | with_reducible refine g_par ?_ | with_reducible refine g_expar ?_ | with_reducible refine g_chain ?_ | with_reducible refine g_un ?_ | with_reducible refine g_U ?_ | with_reducible refine g_bits ?_ | ((with_reducible show rEq _ _ _ _); refine g_eq rfl ?_) | ((with_reducible show rNe _ _ _ _); refine g_ne rfl ?_)
  | with_reducible refine g_for ?_ | with_reducible refine g_iRng1 ?_ | with_reducible refine g_iRng2 ?_ | with_reducible refine g_iList ?_ | with_reducible refine g_iTup ?_
  | ((with_reducible refine g_Imul ?hc ?_); (case hc => (first | (refine Or.inl ⟨?_, ?_⟩ <;> first | decide | omega) | (refine Or.inr ⟨?_, ?_⟩ <;> first | decide | omega))))
  | ((with_reducible refine g_Idiv ?hc ?_); (case hc => (first | (exact ⟨by decide, by decide⟩) | assumption)))
  | ((with_reducible refine g_Imod ?hc ?_); (case hc => (first | assumption | omega | decide)))
  | ((with_reducible refine g_exR1 ?hlo ?hhi ?_); (case hlo => omega); (case hhi => omega))
  | ((with_reducible refine g_exR2 ?hb ?_); (case hb => omega))
  | with_reducible refine g_lst ?_ | with_reducible refine g_tup ?_ | with_reducible refine g_call ?_ | with_reducible refine g_BM ?_ | with_reducible refine g_BM0 ?_
  | with_reducible refine g_intB ?_ | with_reducible refine g_lc ?_ | with_reducible refine g_yes ?_ | with_reducible refine g_iZip ?_ | with_reducible refine g_sl ?_ | with_reducible refine g_noP ?_ | with_reducible refine g_part ?_ | with_reducible refine g_gcons ?_ | with_reducible refine g_gnil ?_
  | with_reducible refine g_tfld ?_ | with_reducible refine g_tmeth ?_ | with_reducible refine g_tmake ?_ | with_reducible refine g_sfld ?_ | with_reducible refine g_tprop ?_ | with_reducible refine g_tstar ?_ | with_reducible refine g_tmethK ?_ | with_reducible refine g_isN1 ?_ | with_reducible refine g_notN1 ?_))
local macro_rules | `(tactic| walk_at "gx1") => `(tactic| (first
  | with_reducible refine g_seq ?_ | with_reducible refine g_asg ?_ | ((with_reducible show tVar _ _ _ _); refine g_var rfl ?_) | with_reducible refine g_c ?_ | with_reducible refine g_name ?_ | with_reducible refine g_op ?_ | with_reducible refine g_I0 ?_
  | with_reducible refine g_cons ?_ | with_reducible refine g_nil ?_ | with_reducible refine g_exbl ?_ | with_reducible refine g_exint ?_ | with_reducible refine g_test ?_ | with_reducible refine g_B ?_ | with_reducible refine g_ifS ?_ | with_reducible refine g_retN ?_ | with_reducible refine g_next ?_
  | with_reducible refine g_CB ?_ | with_reducible refine g_sub ?_ | with_reducible refine g_drop ?_ | with_reducible refine g_not ?_ | with_reducible refine g_and ?_ | with_reducible refine g_or ?_ | with_reducible refine g_andV ?_ | with_reducible refine g_orV ?_ | with_reducible refine g_notV ?_ | with_reducible refine g_ret ?_ | with_reducible refine g_isN ?_
  | with_reducible refine g_par ?_ | with_reducible refine g_expar ?_ | with_reducible refine g_chain ?_ | with_reducible refine g_un ?_ | with_reducible refine g_U ?_ | with_reducible refine g_bits ?_ | ((with_reducible show rEq _ _ _ _); refine g_eq rfl ?_) | ((with_reducible show rNe _ _ _ _); refine g_ne rfl ?_)
  | with_reducible refine g_for ?_ | with_reducible refine g_iRng1 ?_ | with_reducible refine g_iRng2 ?_ | with_reducible refine g_iList ?_ | with_reducible refine g_iTup ?_
  | ((with_reducible refine g_Imul ?hc ?_); (case hc => (first | (refine Or.inl ⟨?_, ?_⟩ <;> first | decide | omega) | (refine Or.inr ⟨?_, ?_⟩ <;> first | decide | omega))))
  | ((with_reducible refine g_Idiv ?hc ?_); (case hc => (first | (exact ⟨by decide, by decide⟩) | assumption)))
  | ((with_reducible refine g_Imod ?hc ?_); (case hc => (first | assumption | omega | decide)))
  | ((with_reducible refine g_exR1 ?hlo ?hhi ?_); (case hlo => omega); (case hhi => omega))
  | ((with_reducible refine g_exR2 ?hb ?_); (case hb => omega))
  | with_reducible refine g_lst ?_ | with_reducible refine g_tup ?_ | with_reducible refine g_call ?_ | with_reducible refine g_BM ?_ | with_reducible refine g_BM0 ?_
  | with_reducible refine g_intB ?_ | with_reducible refine g_lc ?_ | with_reducible refine g_yes ?_ | with_reducible refine g_iZip ?_ | with_reducible refine g_sl ?_ | with_reducible refine g_noP ?_ | with_reducible refine g_part ?_ | with_reducible refine g_gcons ?_ | with_reducible refine g_gnil ?_
  | with_reducible refine g_tfld ?_ | with_reducible refine g_tmeth ?_ | with_reducible refine g_tmake ?_ | with_reducible refine g_sfld ?_ | with_reducible refine g_tprop ?_ | with_reducible refine g_tstar ?_ | with_reducible refine g_tmethK ?_ | with_reducible refine g_isN1 ?_ | with_reducible refine g_notN1 ?_))
local macro_rules | `(tactic| walk_at "hp") => `(tactic| (first | assumption | exact upd_same | (refine same_get (by assumption) ?_; walk_at "hp")))
local macro_rules | `(tactic| walk_at "sm") => `(tactic| (first | assumption | exact Same.refl _ | (refine Same.trans ?ha (by assumption); walk_at "sm")))
local macro_rules | `(tactic| walk_at "nn") => `(tactic| (first | assumption | (refine same_free (by assumption) ?_; walk_at "nn")))
local macro_rules | `(tactic| walk_at "sb") => `(tactic| (first | decide | (refine small_bits ?_ ?_ <;> omega)))
local macro_rules | `(tactic| walk_at "ln") => `(tactic| (simp only [List.length_cons, List.length_nil]; omega))
local macro_rules | `(tactic| walk_at "gg") => `(tactic| (repeat walk_at "g"))
local macro_rules | `(tactic| walk_at "gs") => `(tactic| (repeat walk_at "gs1"))
local macro_rules | `(tactic| walk_at "gx") => `(tactic| (repeat walk_at "gx1"))

local macro_rules | `(tactic| walk_at "g") => `(tactic| (first | with_reducible refine g_tmakeS ?_ | with_reducible refine g_tmakeKS ?_ | with_reducible refine g_oneS ?_))
section
variable {P : Program} {w : World} {K : PySem.W.Frag} {mg : Str → Option Value} {base : Heap} {X : Cx}
/-- what a line made in a way would hold -/
def JudW (K : PySem.W.Frag) (H : Hp) (x : V) (way : Int) (j : Option (List PyData)) : Prop :=
  (way < 2 ∧ ∃ jj : Option (List Int), JudV Int K H x jj ∧ j = jj.map fun as => as.map Kd.D) ∨ (way = 2 ∧ ∃ jj : Option (List Pr), JudV Pr K H x jj ∧ j = jj.map fun as => as.map Kd.D)
theorem judw_same {H H' : Hp} {x : V} {way : Int} {j : Option (List PyData)} (S : Same H H') (h : JudW K H x way j) : JudW K H' x way j := by
  rcases h with ⟨l, jj, h, e⟩ | ⟨l, jj, h, e⟩
  · exact .inl ⟨l, jj, jud_same S h, e⟩
  · exact .inr ⟨l, jj, jud_same S h, e⟩
theorem tg_judw {H : Hp} {x : V} (h : Tg K H x) (way : Int) (l : way ≤ 2) : ∃ j, JudW K H x way j ∧ ∀ ds, j = some ds → Okd 4 2500000 (.list ds) := by
  by_cases c : way = 2
  · obtain ⟨jj, h, o⟩ := tg_jud (α := Pr) h
    refine ⟨_, .inr ⟨c, jj, h, rfl⟩, fun ds e => ?_⟩
    cases jj with
    | none => cases e
    | some as => rw [← Option.some.inj e]; exact o as rfl
  · obtain ⟨jj, h, o⟩ := tg_jud (α := Int) h
    refine ⟨_, .inl ⟨by omega, jj, h, rfl⟩, fun ds e => ?_⟩
    cases jj with
    | none => cases e
    | some as => rw [← Option.some.inj e]; exact o as rfl
/-- it is a list of these points -/
theorem judw_list {H : Hp} {x : V} {way : Int} {ds : List PyData} (h : JudW K H x way (some ds)) : ∃ a xs, x = .ref a ∧ H a = some (.lst xs) ∧ DpAll K H xs ds ∧ ds.length ≤ 500 ∧ PtD ds := by
  rcases h with ⟨l, jj, h, e⟩ | ⟨l, jj, h, e⟩
  · cases jj with
    | none => cases e
    | some as =>
      obtain ⟨a, rfl, ⟨xs, e1, d⟩, u, l⟩ := h
      rw [Option.some.inj e]
      exact ⟨a, xs, rfl, e1, d, by rw [List.length_map]; exact l, .inl ⟨as, rfl⟩⟩
  · cases jj with
    | none => cases e
    | some as =>
      obtain ⟨a, rfl, ⟨xs, e1, d⟩, u, l⟩ := h
      rw [Option.some.inj e]
      exact ⟨a, xs, rfl, e1, d, by rw [List.length_map]; exact l, .inr ⟨as, rfl⟩⟩
/-- a copy of it is judged alike -/
theorem judw_copy {H H' : Hp} {a q : Addr} {xs : List V} {way : Int} {ds : List PyData} (h : JudW K H (.ref a) way (some ds)) (e : H a = some (.lst xs)) (S : Same H H') (e' : H' q = some (.lst xs)) : JudW K H' (.ref q) way (some ds) := by
  rcases h with ⟨l, jj, h, ej⟩ | ⟨l, jj, h, ej⟩
  · cases jj with
    | none => cases ej
    | some as =>
      obtain ⟨b, eb, ⟨ys, e1, d⟩, u, l5⟩ := h
      injection eb with eb
      subst eb
      rw [e] at e1
      injection e1 with e1
      injection e1 with e1
      subst e1
      exact .inl ⟨l, some as, ⟨q, rfl, ⟨xs, e', dp_sameAll S _ _ d⟩, u, l5⟩, ej⟩
  · cases jj with
    | none => cases ej
    | some as =>
      obtain ⟨b, eb, ⟨ys, e1, d⟩, u, l5⟩ := h
      injection eb with eb
      subst eb
      rw [e] at e1
      injection e1 with e1
      injection e1 with e1
      subst e1
      exact .inr ⟨l, some as, ⟨q, rfl, ⟨xs, e', dp_sameAll S _ _ d⟩, u, l5⟩, ej⟩
theorem tg_two {H : Hp} {x : V} (h : Tg K H x) : (∃ a xs, x = .ref a ∧ H a = some (.lst xs)) ∨ NoL2 K H x := by
  cases h with
  | dat h n o => exact .inr (dp_no2 h n)
  | lst e h l o => exact .inl ⟨_, _, rfl, e⟩
  | tab h m => exact .inr ⟨_, rd_dict h, by simp [Kin], kit_ty (by decide +kernel)⟩
  | tabs n e r => exact .inl ⟨_, _, rfl, e⟩
theorem g_cutE {te : TE} {σ : L2.St} {H : Hp} {C : VK} (Mid : V → Hp → Prop) (h : ∀ C' : VK, (∀ v H', Mid v H' → C' v H') → te σ H C') (tail : ∀ v H', Mid v H' → C v H') : te σ H C := h C tail
def wayC (CL CK CV : Addr) (way : Int) : Addr := if way = 0 then CL else if way = 1 then CK else CV
def spMade (K : PySem.W.Frag) (CL CK CV : Addr) : Sp := fun vs H Q _ => ∃ (way : Int) (x : V) (j : Option (List PyData)), vs = [.int way, x] ∧ 0 ≤ way ∧ way ≤ 2 ∧ ((∃ a xs, x = .ref a ∧ H a = some (.lst xs)) ∨ NoL2 K H x) ∧ JudW K H x way j ∧
  (∀ ds p H', j = some ds → H p = none → Same H H' → LnD K (wayC CL CK CV way) H' p ds → Q (.ref p) H') ∧ (j = none → ∀ H', Same H H' → Q .non H')
abbrev s_made : Stmt := top 18
abbrev N_made : List Str := ["_law_way", "_law_thing", "_law_by_name", "e"]
theorem sc_made : FnScope N_made ["_law_way", "_law_thing"] (defScope s_made) := ⟨rfl, rfl, rfl, by decide +kernel, rfl, by decide +kernel, by decide +kernel⟩

theorem ok_made {f CL CK CV CE CB : Addr} {fd : FuncData} (D : Dn K mg "_law_made" s_made ["_law_way", "_law_thing"] f fd) (T : Bt mg) (x_LockError : mg "LockError" = some (.ref CB)) (g_InvalidPoints : ∃ u, mg "InvalidPoints" = some u ∧ RelV (.ref CE) u)
    (tE : PySem.W.exmOne K (.ref CE) (.ref CB) = some true) (XE : L2.ExcC K CE) (uE : PySem.W.kitOne K (.ref CE) (.ref CE) = some true)
    (mx_Line : MakX P w K mg base 3 "Line" CL (spInitX Int K CL CE)) (mk_Line : MakKX P w K mg base 3 "Line" CL ["points"] oneV (spInitX Int K CL CE))
    (mx_KeyLine : MakX P w K mg base 3 "KeyLine" CK (spInitX Int K CK CE)) (mk_KeyLine : MakKX P w K mg base 3 "KeyLine" CK ["points"] oneV (spInitX Int K CK CE))
    (mx_ValueLine : MakX P w K mg base 3 "ValueLine" CV (spInitX Pr K CV CE)) (mk_ValueLine : MakKX P w K mg base 3 "ValueLine" CV ["points"] oneV (spInitX Pr K CV CE)) :
    Cal P w K mg base 5 "_law_made" (spMade K CL CK CV) [] := by
  refine cal_of D (D.fn.ok sc_made (fun vs H Q E h => ?_) (fun cdv A outer s H vs Q E hr h => ?_))
  · obtain ⟨way, x, j, rfl, _⟩ := h
    rfl
  · obtain ⟨way, x, j, rfl, w0, w2, tx, hj, kg, kb⟩ := h
    refine ⟨_, (pss_one (L2N.ps_try_as (i := 3) (Wout := fun _ _ _ _ => False) rfl rfl sc_made.nd rfl rfl ⟨rfl, by decide, Or.inl x_LockError⟩ takes0N (fun W pn xe tk _ => (pss_cons (ps_set (i := 2) sc_made.nd rfl (Or.inl rfl) (pe_and (pe_callB (show CallR _ (.builtin "isinstance") (rIsi K) from call_isi) (by rfl) T.n_isinstance bt_isinstance (pa_cons (pv 1) (pa_cons (pe_bltn (v := .ty "list") (by rfl) T.n_list bt_list rfl) pa_nil))) (pe_one (pe_cmpR op_eq (pe_op op_mod (pe_callB (show CallR _ (.builtin "len") (rLenQ K) from cr_lenQ) (by rfl) T.n_len bt_len (pa_cons (pv 1) pa_nil)) pe_int) pe_int (nomark _)))))
    (pss_cons (ps_if (pt_cmpR op_eq (pv 0) pe_int (nomark _)) (pss_one (ps_ret (pe_ifExp (pt_val (pv 2)) (pe_mkKX (E := WE W) mk_Line hr (by decide) (by rfl) (fun σ => L2N.passAt tk σ) (pk_cons (pv 1) pk_nil)) (pe_mkX (E := WE W) mx_Line hr (by decide) (by rfl) (fun σ => L2N.passAt tk σ) (pa_cons (pv 1) pa_nil))))) pss_nil)
    (pss_cons (ps_if (pt_cmpR op_eq (pv 0) pe_int (nomark _)) (pss_one (ps_ret (pe_ifExp (pt_val (pv 2)) (pe_mkX (E := WE W) mx_KeyLine hr (by decide) (by rfl) (fun σ => L2N.passAt tk σ) (pa_cons (pv 1) pa_nil)) (pe_mkKX (E := WE W) mk_KeyLine hr (by decide) (by rfl) (fun σ => L2N.passAt tk σ) (pk_cons (pv 1) pk_nil))))) pss_nil)
    (pss_one (ps_ret (pe_ifExp (pt_val (pv 2)) (pe_mkKX (E := WE W) mk_ValueLine hr (by decide) (by rfl) (fun σ => L2N.passAt tk σ) (pk_cons (pv 1) pk_nil)) (pe_mkX (E := WE W) mx_ValueLine hr (by decide) (by rfl) (fun σ => L2N.passAt tk σ) (pa_cons (pv 1) pa_nil))))))))) (fun ae oe cls de pn hz hf => (pss_one (ps_ret (pe_ifExp (pt_val (pe_callB (call_isN hz hf) (by rfl) T.n_isinstance bt_isinstance (pa_cons (pv 3) (pa_cons (pe_gc (by rfl) g_InvalidPoints) pa_nil)))) pe_non pe_str)))))), ?_⟩
    have jw : ∀ {H'}, Same H H' → JudW K H' x way j := fun S => judw_same S hj
    dsimp only
    with_reducible refine g_seq ?_
    with_reducible refine g_asg ?_
    refine g_cutE (te := tAndV _ _) (fun v H' => H' = H ∧ ∃ c : Bool, v = .bl c) (fun C' kc => ?_) ?_
    · walk_at "gg"
      rcases tx with ⟨a, xs, rfl, e⟩ | ⟨t, ty, tk, no⟩
      · refine g_isi (.ty "list") (.base (.lst e)) (b := true) (kit_ty (by decide +kernel)) ?_
        walk_at "gg"
        refine g_ifT rfl ?_
        walk_at "gg"
        refine g_len (SqL.of e) ?_
        walk_at "gg"
        exact kc _ _ ⟨rfl, _, rfl⟩
      · refine g_isi (.ty "list") ty no ?_
        walk_at "gg"
        refine g_ifF rfl ?_
        exact kc _ _ ⟨rfl, _, rfl⟩
    rintro v H1 ⟨rfl, c, rfl⟩
    walk_at "gg"
    by_cases c0 : way = 0
    · have hway := c0
      refine g_ifT (decide_eq_true (by rw [c0])) ?_
      walk_at "gg"
      cases c with
      | true =>
        refine g_ifT rfl ?_
        walk_at "gg"
        refine g_makeS fun p dx H2 n2 S2 e2 => ?_
        rcases jw S2 with ⟨_, jj, hjj, ej⟩ | ⟨w, _⟩
        rotate_left
        · exfalso
          omega
        cases jj with
        | some as =>
          refine ⟨p, dx, x, rfl, e2, .inl ⟨as, hjj, fun H3 L3 B3 => ⟨rfl, ?_⟩⟩⟩
          walk_at "gg"
          have hw : wayC CL CK CV way = CL := by rw [hway]; rfl
          exact kg _ p H3 ej n2 (same_but S2 n2 B3) (by rw [hw]; exact lnd_int L3)
        | none =>
          refine ⟨p, dx, x, rfl, e2, .inr ⟨hjj, fun H3 S3 => ?_⟩⟩
          refine ⟨true, tE, fun _ a0 n0 => ?_, fun z => nomatch z⟩
          walk_at "gg"
          refine g_isN2 rfl rfl XE (.own CE) uE ?_
          walk_at "gg"
          refine g_ifT rfl ?_
          walk_at "gg"
          exact kb ej _ (S2.trans S3)
      | false =>
        refine g_ifF rfl ?_
        walk_at "gg"
        refine g_makeS fun p dx H2 n2 S2 e2 => ?_
        rcases jw S2 with ⟨_, jj, hjj, ej⟩ | ⟨w, _⟩
        rotate_left
        · exfalso
          omega
        cases jj with
        | some as =>
          refine ⟨p, dx, x, rfl, e2, .inl ⟨as, hjj, fun H3 L3 B3 => ⟨rfl, ?_⟩⟩⟩
          walk_at "gg"
          have hw : wayC CL CK CV way = CL := by rw [hway]; rfl
          exact kg _ p H3 ej n2 (same_but S2 n2 B3) (by rw [hw]; exact lnd_int L3)
        | none =>
          refine ⟨p, dx, x, rfl, e2, .inr ⟨hjj, fun H3 S3 => ?_⟩⟩
          refine ⟨true, tE, fun _ a0 n0 => ?_, fun z => nomatch z⟩
          walk_at "gg"
          refine g_isN2 rfl rfl XE (.own CE) uE ?_
          walk_at "gg"
          refine g_ifT rfl ?_
          walk_at "gg"
          exact kb ej _ (S2.trans S3)
    refine g_ifF (decide_eq_false fun z => c0 (V.int.inj z)) ?_
    walk_at "gg"
    by_cases c1 : way = 1
    · have hway := c1
      refine g_ifT (decide_eq_true (by rw [c1])) ?_
      walk_at "gg"
      cases c with
      | true =>
        refine g_ifT rfl ?_
        walk_at "gg"
        refine g_makeS fun p dx H2 n2 S2 e2 => ?_
        rcases jw S2 with ⟨_, jj, hjj, ej⟩ | ⟨w, _⟩
        rotate_left
        · exfalso
          omega
        cases jj with
        | some as =>
          refine ⟨p, dx, x, rfl, e2, .inl ⟨as, hjj, fun H3 L3 B3 => ⟨rfl, ?_⟩⟩⟩
          walk_at "gg"
          have hw : wayC CL CK CV way = CK := by rw [hway]; rfl
          exact kg _ p H3 ej n2 (same_but S2 n2 B3) (by rw [hw]; exact lnd_int L3)
        | none =>
          refine ⟨p, dx, x, rfl, e2, .inr ⟨hjj, fun H3 S3 => ?_⟩⟩
          refine ⟨true, tE, fun _ a0 n0 => ?_, fun z => nomatch z⟩
          walk_at "gg"
          refine g_isN2 rfl rfl XE (.own CE) uE ?_
          walk_at "gg"
          refine g_ifT rfl ?_
          walk_at "gg"
          exact kb ej _ (S2.trans S3)
      | false =>
        refine g_ifF rfl ?_
        walk_at "gg"
        refine g_makeS fun p dx H2 n2 S2 e2 => ?_
        rcases jw S2 with ⟨_, jj, hjj, ej⟩ | ⟨w, _⟩
        rotate_left
        · exfalso
          omega
        cases jj with
        | some as =>
          refine ⟨p, dx, x, rfl, e2, .inl ⟨as, hjj, fun H3 L3 B3 => ⟨rfl, ?_⟩⟩⟩
          walk_at "gg"
          have hw : wayC CL CK CV way = CK := by rw [hway]; rfl
          exact kg _ p H3 ej n2 (same_but S2 n2 B3) (by rw [hw]; exact lnd_int L3)
        | none =>
          refine ⟨p, dx, x, rfl, e2, .inr ⟨hjj, fun H3 S3 => ?_⟩⟩
          refine ⟨true, tE, fun _ a0 n0 => ?_, fun z => nomatch z⟩
          walk_at "gg"
          refine g_isN2 rfl rfl XE (.own CE) uE ?_
          walk_at "gg"
          refine g_ifT rfl ?_
          walk_at "gg"
          exact kb ej _ (S2.trans S3)
    refine g_ifF (decide_eq_false fun z => c1 (V.int.inj z)) ?_
    walk_at "gg"
    have hway : way = 2 := by omega
    cases c with
    | true =>
      refine g_ifT rfl ?_
      walk_at "gg"
      refine g_makeS fun p dx H2 n2 S2 e2 => ?_
      rcases jw S2 with ⟨w, _⟩ | ⟨_, jj, hjj, ej⟩
      · exfalso
        omega
      cases jj with
      | some as =>
        refine ⟨p, dx, x, rfl, e2, .inl ⟨as, hjj, fun H3 L3 B3 => ⟨rfl, ?_⟩⟩⟩
        walk_at "gg"
        have hw : wayC CL CK CV way = CV := by rw [hway]; rfl
        exact kg _ p H3 ej n2 (same_but S2 n2 B3) (by rw [hw]; exact lnd_pr L3)
      | none =>
        refine ⟨p, dx, x, rfl, e2, .inr ⟨hjj, fun H3 S3 => ?_⟩⟩
        refine ⟨true, tE, fun _ a0 n0 => ?_, fun z => nomatch z⟩
        walk_at "gg"
        refine g_isN2 rfl rfl XE (.own CE) uE ?_
        walk_at "gg"
        refine g_ifT rfl ?_
        walk_at "gg"
        exact kb ej _ (S2.trans S3)
    | false =>
      refine g_ifF rfl ?_
      walk_at "gg"
      refine g_makeS fun p dx H2 n2 S2 e2 => ?_
      rcases jw S2 with ⟨w, _⟩ | ⟨_, jj, hjj, ej⟩
      · exfalso
        omega
      cases jj with
      | some as =>
        refine ⟨p, dx, x, rfl, e2, .inl ⟨as, hjj, fun H3 L3 B3 => ⟨rfl, ?_⟩⟩⟩
        walk_at "gg"
        have hw : wayC CL CK CV way = CV := by rw [hway]; rfl
        exact kg _ p H3 ej n2 (same_but S2 n2 B3) (by rw [hw]; exact lnd_pr L3)
      | none =>
        refine ⟨p, dx, x, rfl, e2, .inr ⟨hjj, fun H3 S3 => ?_⟩⟩
        refine ⟨true, tE, fun _ a0 n0 => ?_, fun z => nomatch z⟩
        walk_at "gg"
        refine g_isN2 rfl rfl XE (.own CE) uE ?_
        walk_at "gg"
        refine g_ifT rfl ?_
        walk_at "gg"
        exact kb ej _ (S2.trans S3)
end
end Gk

namespace Gk
open PySem L2 Gx
open C8 (Cal Met Mak pe_c pe_mt pe_mt0 pe_mk pe_gc)
local macro_rules | `(tactic| walk_at "g") => `(tactic| (first
  | with_reducible refine g_seq ?_ | with_reducible refine g_asg ?_ | ((with_reducible show tVar _ _ _ _); refine g_var rfl ?_) | with_reducible refine g_c ?_ | with_reducible refine g_name ?_ | with_reducible refine g_op ?_ | with_reducible refine g_I0 ?_
  | with_reducible refine g_cons ?_ | with_reducible refine g_nil ?_ | with_reducible refine g_exbl ?_ | with_reducible refine g_exint ?_ | with_reducible refine g_test ?_ | with_reducible refine g_B ?_ | with_reducible refine g_ifS ?_ | with_reducible refine g_ret ?_ | with_reducible refine g_retN ?_ | with_reducible refine g_next ?_
  | with_reducible refine g_CB ?_ | with_reducible refine g_sub ?_ | with_reducible refine g_drop ?_ | with_reducible refine g_not ?_ | with_reducible refine g_and ?_ | with_reducible refine g_or ?_ | with_reducible refine g_andV ?_ | with_reducible refine g_orV ?_ | with_reducible refine g_notV ?_ | with_reducible refine g_ifE ?_ | with_reducible refine g_isN ?_
  | with_reducible refine g_par ?_ | with_reducible refine g_expar ?_ | with_reducible refine g_chain ?_ | with_reducible refine g_un ?_ | with_reducible refine g_U ?_ | with_reducible refine g_bits ?_ | ((with_reducible show rEq _ _ _ _); refine g_eq rfl ?_) | ((with_reducible show rNe _ _ _ _); refine g_ne rfl ?_)
  | with_reducible refine g_for ?_ | with_reducible refine g_iRng1 ?_ | with_reducible refine g_iRng2 ?_ | with_reducible refine g_iList ?_ | with_reducible refine g_iTup ?_
  | ((with_reducible refine g_Imul ?hc ?_); (case hc => (first | (refine Or.inl ⟨?_, ?_⟩ <;> first | decide | omega) | (refine Or.inr ⟨?_, ?_⟩ <;> first | decide | omega))))
  | ((with_reducible refine g_Idiv ?hc ?_); (case hc => (first | (exact ⟨by decide, by decide⟩) | assumption)))
  | ((with_reducible refine g_Imod ?hc ?_); (case hc => (first | assumption | omega | decide)))
  | ((with_reducible refine g_exR1 ?hlo ?hhi ?_); (case hlo => omega); (case hhi => omega))
  | ((with_reducible refine g_exR2 ?hb ?_); (case hb => omega))
  | with_reducible refine g_lst ?_ | with_reducible refine g_tup ?_ | with_reducible refine g_call ?_ | with_reducible refine g_BM ?_ | with_reducible refine g_BM0 ?_
  | with_reducible refine g_intB ?_ | with_reducible refine g_lc ?_ | with_reducible refine g_yes ?_ | with_reducible refine g_iZip ?_ | with_reducible refine g_sl ?_ | with_reducible refine g_noP ?_ | with_reducible refine g_part ?_ | with_reducible refine g_gcons ?_ | with_reducible refine g_gnil ?_
  | with_reducible refine g_tfld ?_ | with_reducible refine g_tmeth ?_ | with_reducible refine g_tmake ?_ | with_reducible refine g_sfld ?_ | with_reducible refine g_tprop ?_ | with_reducible refine g_tstar ?_ | with_reducible refine g_tmethK ?_ | with_reducible refine g_isN1 ?_ | with_reducible refine g_notN1 ?_))
local macro_rules | `(tactic| walk_at "gs1") => `(tactic| (first
  | with_reducible refine g_seq ?_ | with_reducible refine g_asg ?_ | ((with_reducible show tVar _ _ _ _); refine g_var rfl ?_) | with_reducible refine g_c ?_ | with_reducible refine g_name ?_ | with_reducible refine g_op ?_ | with_reducible refine g_I0 ?_
  | with_reducible refine g_cons ?_ | with_reducible refine g_nil ?_ | with_reducible refine g_exbl ?_ | with_reducible refine g_exint ?_ | with_reducible refine g_test ?_ | with_reducible refine g_B ?_ | with_reducible refine g_ifS ?_ | with_reducible refine g_retN ?_ | with_reducible refine g_next ?_
  | with_reducible refine g_CB ?_ | with_reducible refine g_sub ?_ | with_reducible refine g_drop ?_ | with_reducible refine g_not ?_ | with_reducible refine g_and ?_ | with_reducible refine g_or ?_ | with_reducible refine g_andV ?_ | with_reducible refine g_orV ?_ | with_reducible refine g_notV ?_ | with_reducible refine g_ifE ?_ | with_reducible refine g_isN ?_
  | with_reducible refine g_par ?_ | with_reducible refine g_expar ?_ | with_reducible refine g_chain ?_ | with_reducible refine g_un ?_ | with_reducible refine g_U ?_ | with_reducible refine g_bits ?_ | ((with_reducible show rEq _ _ _ _); refine g_eq rfl ?_) | ((with_reducible show rNe _ _ _ _); refine g_ne rfl ?_)
  | with_reducible refine g_for ?_ | with_reducible refine g_iRng1 ?_ | with_reducible refine g_iRng2 ?_ | with_reducible refine g_iList ?_ | with_reducible refine g_iTup ?_
  | ((with_reducible refine g_Imul ?hc ?_); (case hc => (first | (refine Or.inl ⟨?_, ?_⟩ <;> first | decide | omega) | (refine Or.inr ⟨?_, ?_⟩ <;> first | decide | omega))))
  | ((with_reducible refine g_Idiv ?hc ?_); (case hc => (first | (exact ⟨by decide, by decide⟩) | assumption)))
  | ((with_reducible refine g_Imod ?hc ?_); (case hc => (first | assumption | omega | decide)))
  | ((with_reducible refine g_exR1 ?hlo ?hhi ?_); (case hlo => omega); (case hhi => omega))
  | ((with_reducible refine g_exR2 ?hb ?_); (case hb => omega))
  | with_reducible refine g_lst ?_ | with_reducible refine g_tup ?_ | with_reducible refine g_call ?_ | with_reducible refine g_BM ?_ | with_reducible refine g_BM0 ?_
  | with_reducible refine g_intB ?_ | with_reducible refine g_lc ?_ | with_reducible refine g_yes ?_ | with_reducible refine g_iZip ?_ | with_reducible refine g_sl ?_ | with_reducible refine g_noP ?_ | with_reducible refine g_part ?_ | with_reducible refine g_gcons ?_ | with_reducible refine g_gnil ?_
  | with_reducible refine g_tfld ?_ | with_reducible refine g_tmeth ?_ | with_reducible refine g_tmake ?_ | with_reducible refine g_sfld ?_ | with_reducible refine g_tprop ?_ | with_reducible refine g_tstar ?_ | with_reducible refine g_tmethK ?_ | with_reducible refine g_isN1 ?_ | with_reducible refine g_notN1 ?_))
local macro_rules | `(tactic| walk_at "gx1") => `(tactic| (first
  | with_reducible refine g_seq ?_ | with_reducible refine g_asg ?_ | ((with_reducible show tVar _ _ _ _); refine g_var rfl ?_) | with_reducible refine g_c ?_ | with_reducible refine g_name ?_ | with_reducible refine g_op ?_ | with_reducible refine g_I0 ?_
  | with_reducible refine g_cons ?_ | with_reducible refine g_nil ?_ | with_reducible refine g_exbl ?_ | with_reducible refine g_exint ?_ | with_reducible refine g_test ?_ | with_reducible refine g_B ?_ | with_reducible refine g_ifS ?_ | with_reducible refine g_retN ?_ | with_reducible refine g_next ?_
  | with_reducible refine g_CB ?_ | with_reducible refine g_sub ?_ | with_reducible refine g_drop ?_ | with_reducible refine g_not ?_ | with_reducible refine g_and ?_ | with_reducible refine g_or ?_ | with_reducible refine g_andV ?_ | with_reducible refine g_orV ?_ | with_reducible refine g_notV ?_ | with_reducible refine g_ret ?_ | with_reducible refine g_isN ?_
  | with_reducible refine g_par ?_ | with_reducible refine g_expar ?_ | with_reducible refine g_chain ?_ | with_reducible refine g_un ?_ | with_reducible refine g_U ?_ | with_reducible refine g_bits ?_ | ((with_reducible show rEq _ _ _ _); refine g_eq rfl ?_) | ((with_reducible show rNe _ _ _ _); refine g_ne rfl ?_)
  | with_reducible refine g_for ?_ | with_reducible refine g_iRng1 ?_ | with_reducible refine g_iRng2 ?_ | with_reducible refine g_iList ?_ | with_reducible refine g_iTup ?_
  | ((with_reducible refine g_Imul ?hc ?_); (case hc => (first | (refine Or.inl ⟨?_, ?_⟩ <;> first | decide | omega) | (refine Or.inr ⟨?_, ?_⟩ <;> first | decide | omega))))
  | ((with_reducible refine g_Idiv ?hc ?_); (case hc => (first | (exact ⟨by decide, by decide⟩) | assumption)))
  | ((with_reducible refine g_Imod ?hc ?_); (case hc => (first | assumption | omega | decide)))
  | ((with_reducible refine g_exR1 ?hlo ?hhi ?_); (case hlo => omega); (case hhi => omega))
  | ((with_reducible refine g_exR2 ?hb ?_); (case hb => omega))
  | with_reducible refine g_lst ?_ | with_reducible refine g_tup ?_ | with_reducible refine g_call ?_ | with_reducible refine g_BM ?_ | with_reducible refine g_BM0 ?_
  | with_reducible refine g_intB ?_ | with_reducible refine g_lc ?_ | with_reducible refine g_yes ?_ | with_reducible refine g_iZip ?_ | with_reducible refine g_sl ?_ | with_reducible refine g_noP ?_ | with_reducible refine g_part ?_ | with_reducible refine g_gcons ?_ | with_reducible refine g_gnil ?_
  | with_reducible refine g_tfld ?_ | with_reducible refine g_tmeth ?_ | with_reducible refine g_tmake ?_ | with_reducible refine g_sfld ?_ | with_reducible refine g_tprop ?_ | with_reducible refine g_tstar ?_ | with_reducible refine g_tmethK ?_ | with_reducible refine g_isN1 ?_ | with_reducible refine g_notN1 ?_))
local macro_rules | `(tactic| walk_at "hp") => `(tactic| (first | assumption | exact upd_same | (refine same_get (by assumption) ?_; walk_at "hp")))
local macro_rules | `(tactic| walk_at "sm") => `(tactic| (first | assumption | exact Same.refl _ | (refine Same.trans ?ha (by assumption); walk_at "sm")))
local macro_rules | `(tactic| walk_at "nn") => `(tactic| (first | assumption | (refine same_free (by assumption) ?_; walk_at "nn")))
local macro_rules | `(tactic| walk_at "sb") => `(tactic| (first | decide | (refine small_bits ?_ ?_ <;> omega)))
local macro_rules | `(tactic| walk_at "ln") => `(tactic| (simp only [List.length_cons, List.length_nil]; omega))
local macro_rules | `(tactic| walk_at "gg") => `(tactic| (repeat walk_at "g"))
local macro_rules | `(tactic| walk_at "gs") => `(tactic| (repeat walk_at "gs1"))
local macro_rules | `(tactic| walk_at "gx") => `(tactic| (repeat walk_at "gx1"))

local macro_rules | `(tactic| walk_at "g") => `(tactic| (first | with_reducible refine g_tpropF ?_ | with_reducible refine g_tmethF ?_ | with_reducible refine g_tmethKF ?_ | with_reducible refine g_tcon ?_))
section
variable {P : Program} {w : World} {K : PySem.W.Frag} {mg : Str → Option Value} {base : Heap} {X : Cx}
def wayZ (way : Int) : Str := if way = 2 then "values" else "keys"
def WayS (CL CK CV : Addr) (C : Addr) : Prop := ∃ way : Int, 0 ≤ way ∧ way ≤ 2 ∧ C = wayC CL CK CV way
/-- what the law reads of the classes of lines -/
structure KndAll (K : PySem.W.Frag) (CL CK CV : Addr) : Prop where
  k : ∀ way : Int, 0 ≤ way → way ≤ 2 → KndC K CL (wayC CL CK CV way) (wayZ way)
  l : ∀ C, WayS CL CK CV C → LineC K C
  ns : ∀ C, WayS CL CK CV C → PySem.W.kitOne K (.type "str") (.ref C) = some false
  nl : ∀ C, WayS CL CK CV C → PySem.W.kitOne K (.type "list") (.ref C) = some false
theorem nf_of {t : Value} {C : Addr} (h : PySem.W.kitOne K t (.ref C) = some false) : PySem.W.notFirst K C t = true := by
  unfold PySem.W.kitOne at h
  by_cases c : (t == .ref C) = true
  · rw [if_pos c] at h
    cases h
  · rw [if_neg c] at h
    have h : (if ((PySem.W.clsIn K C).isSome && PySem.W.typeIn K (.ref C) == some (.type "type")) = true then PySem.W.subIn K t (.ref C) else none) = some false := h
    by_cases c2 : ((PySem.W.clsIn K C).isSome && PySem.W.typeIn K (.ref C) == some (.type "type")) = true
    · rw [if_pos c2] at h
      unfold PySem.W.notFirst
      rw [h]
      simp
    · rw [if_neg c2] at h
      cases h
theorem okd_wayZ (way : Int) : Okd 4 2500000 (.str (wayZ way)) := by
  unfold wayZ
  split
  · exact (okd_str (n := 4) (k := 100) (by decide +kernel) (by decide +kernel)).mono (by omega) (by omega)
  · exact (okd_str (n := 4) (k := 100) (by decide +kernel) (by decide +kernel)).mono (by omega) (by omega)
theorem way_all {CL CK CV : Addr} {P : Addr → Prop} (h1 : P CL) (h2 : P CK) (h3 : P CV) : ∀ C, WayS CL CK CV C → P C := by
  rintro C ⟨way, a, b, rfl⟩
  unfold wayC
  split
  · exact h1
  · split
    · exact h2
    · exact h3
theorem knd_all {CL CK CV : Addr} (h1 : KndC K CL CL "keys") (h2 : KndC K CL CK "keys") (h3 : KndC K CL CV "values") (l : ∀ C, WayS CL CK CV C → LineC K C) (ns : ∀ C, WayS CL CK CV C → PySem.W.kitOne K (.type "str") (.ref C) = some false)
    (nl : ∀ C, WayS CL CK CV C → PySem.W.kitOne K (.type "list") (.ref C) = some false) : KndAll K CL CK CV := by
  refine ⟨fun way a b => ?_, l, ns, nl⟩
  unfold wayC wayZ
  by_cases c0 : way = 0
  · rw [if_pos c0, if_neg (by omega)]
    exact h1
  · by_cases c1 : way = 1
    · rw [if_neg c0, if_pos c1, if_neg (by omega)]
      exact h2
    · rw [if_neg c0, if_neg c1, if_pos (by omega)]
      exact h3
theorem nf_self {C : Addr} : PySem.W.notFirst K C (.ref C) = true := by
  unfold PySem.W.notFirst
  simp
def spTried (K : PySem.W.Frag) : Sp := fun vs H Q _ => ∃ (x : V), vs = [x] ∧ Tg K H x ∧ ∀ H', Same H H' → Q (.bl true) H'
abbrev s_tried : Stmt := top 19
abbrev N_tried : List Str := ["_law_thing", "_law_kept", "_law_way", "_law_kind_here", "_law_told", "_law_again"]
theorem sc_tried : FnScope N_tried ["_law_thing"] (defScope s_tried) := ⟨rfl, rfl, rfl, by decide +kernel, rfl, by decide +kernel, by decide +kernel⟩

theorem ok_tried {f CL CK CV : Addr} {fd : FuncData} (D : Dn K mg "_law_tried" s_tried ["_law_thing"] f fd) (T : Bt mg) (KA : KndAll K CL CK CV)
    (c__law_good : Cal P w K mg base 2 "_law_good" (spOr (spGood Int K "keys") (spGood Pr K "values")) []) (c__law_made : Cal P w K mg base 5 "_law_made" (spMade K CL CK CV) [])
    (p_points : PropF P w K mg base 1 (WayS CL CK CV) "points" (fun _ => spPtsD K (WayS CL CK CV))) (d_len : MetF P w K mg base CX0 1 (WayS CL CK CV) "__len__" (fun _ => spLenD K (WayS CL CK CV)))
    (d_eq : MetF P w K mg base CX0 1 (WayS CL CK CV) "__eq__" (fun C => spEqD K (WayS CL CK CV) CL C)) (d_ne : ∀ C, WayS CL CK CV C → NoNe K C) :
    FnG P w K mg base 6 f fd ["_law_thing"] (spTried K) := by
  refine fnG_of D.fn sc_tried (fun vs H Q E h => ?_) (fun cdv A outer s H vs Q E gd hr h => ?_)
  · obtain ⟨x, rfl, _⟩ := h
    rfl
  · obtain ⟨x, rfl, tg, k⟩ := h
    refine ⟨_, (pss_cons (ps_set (i := 1) sc_tried.nd rfl (Or.inl rfl) (pe_callB (cr_reprX gd hr) (by rfl) T.n_repr bt_repr (pa_cons (pv 0) pa_nil)))
    (pss_cons (ps_for PassesOwn.never rfl (pi_range1 (by rfl) T.n_range (pa_cons pe_int pa_nil)) (pg_name (i := 2) sc_tried.nd rfl (Or.inl rfl)) (pss_cons (ps_set (i := 3) sc_tried.nd rfl (Or.inl rfl) (pe_ix ix_list (pe_lst (pa_cons pe_str (pa_cons pe_str (pa_cons pe_str pa_nil)))) (pv 2) (fun _ _ => rfl)))
    (pss_cons (ps_set (i := 4) sc_tried.nd rfl (Or.inl rfl) (pe_c c__law_made hr (by decide) (by rfl) (pa_cons (pv 2) (pa_cons (pv 0) pa_nil))))
    (pss_cons (ps_if (PW.pt (pw_or (pt_cmpR op_ne (pe_cmpR op_notN1 (pv 4) pe_non (nomark _)) (pe_c c__law_good hr (by decide) (by rfl) (pa_cons (pv 3) (pa_cons (pv 0) pa_nil))) (nomark _)) (pw_or (pt_cmpR op_ne (pe_callB (cr_reprX gd hr) (by rfl) T.n_repr bt_repr (pa_cons (pv 0) pa_nil)) (pv 1) (nomark _)) (pw_or1 (pt_cmpR (op_anyEq d_eq hr (by decide)) (pv 4) pe_str (nomark _)))))) (pss_one (ps_ret pe_bl)) pss_nil)
    (pss_cons (ps_if (pt_cmpR op_isN1 (pv 4) pe_non (nomark _)) (pss_one ps_continue) pss_nil)
    (pss_cons (ps_if (pt_cmpR op_ne (pe_callB (cr_reprX gd hr) (by rfl) T.n_repr bt_repr (pa_cons (pe_lst (pa_cons (pe_prF p_points hr (by decide) (pv 4)) (pa_cons (pe_callB (cr_lenF d_len hr (by decide)) (by rfl) T.n_len bt_len (pa_cons (pv 4) pa_nil)) (pa_cons (pe_con (pv 4) rfl) pa_nil)))) pa_nil)) (pe_callB (cr_reprX gd hr) (by rfl) T.n_repr bt_repr (pa_cons (pe_lst (pa_cons (pv 0) (pa_cons (pe_callB cr_lenQ (by rfl) T.n_len bt_len (pa_cons (pv 0) pa_nil)) (pa_cons (pv 3) pa_nil)))) pa_nil)) (nomark _)) (pss_one (ps_ret pe_bl)) pss_nil)
    (pss_cons (ps_set (i := 5) sc_tried.nd rfl (Or.inl rfl) (pe_c c__law_made hr (by decide) (by rfl) (pa_cons (pv 2) (pa_cons (pe_callTy cr_listQ (by rfl) T.n_list bt_list (pa_cons (pv 0) pa_nil)) pa_nil))))
    (pss_cons (ps_expr (pe_bm0 PySem.F.plainAttrs_list PySem.F.slot_list_clear PySem.F.type_list_clear mt_clear (pe_prF p_points hr (by decide) (pv 4))))
    (pss_one (ps_if (PW.pt (pw_or (pt_cmpR (op_anyNe d_eq d_ne hr (by decide)) (pv 4) (pv 5) (nomark _)) (pw_or (pt_cmpR (op_neD hr.units) (pe_prF p_points hr (by decide) (pv 4)) (pv 0) (nomark _)) (pw_or (pt_cmpR (op_anyEq d_eq hr (by decide)) (pv 4) (pv 0) (nomark _)) (pw_or1 (pt_cmpR (op_anyEq d_eq hr (by decide)) (pv 4) (pe_prF p_points hr (by decide) (pv 5)) (nomark _))))))) (pss_one (ps_ret pe_bl)) pss_nil))))))))))
    (pss_one (ps_ret pe_bl)))), ?_⟩
    walk_at "gg"
    obtain ⟨y, hy⟩ := tg_sh tg
    refine g_reprX hy ?_
    walk_at "gg"
    refine fw_range (fun i σ H' => Same H H' ∧ ∃ v2 v3 v4 v5, σ = [some x, some (.str y), v2, v3, v4, v5]) ⟨Same.refl _, _, _, _, _, rfl⟩ ?_ ?_
    · rintro i σ H1 hi ⟨S1, v2, v3, v4, v5, rfl⟩
      generalize hway : (0 + (i : Int)) = way
      have w0 : 0 ≤ way := by omega
      have w2 : way ≤ 2 := by omega
      have tg1 := tg_same S1 tg
      have hy1 := shX_same S1 hy
      obtain ⟨j, hj, okj⟩ := tg_judw tg1 way w2
      have hgood : ∀ {H' : Hp} {Q' : VK} {E' : XK}, Same H1 H' → (∀ H'', Same H' H'' → Q' (.bl j.isSome) H'') → spOr (spGood Int K "keys") (spGood Pr K "values") [.str (wayZ way), x] H' Q' E' := fun {H' Q' E'} S kq => by
        rcases hj with ⟨l, jj, hjj, ej⟩ | ⟨l, jj, hjj, ej⟩
        · refine .inl ⟨x, jj, ?_, jud_same S hjj, fun H'' S'' => ?_⟩
          · unfold wayZ
            rw [if_neg (by omega)]
          · have := kq H'' S''
            rw [ej, Option.isSome_map] at this
            exact this
        · refine .inr ⟨x, jj, ?_, jud_same S hjj, fun H'' S'' => ?_⟩
          · unfold wayZ
            rw [if_pos l]
          · have := kq H'' S''
            rw [ej, Option.isSome_map] at this
            exact this
      walk_at "gg"
      refine g_mkL (by walk_at "ln") fun p2 H2 n2 S2 e2 => ?_
      walk_at "gg"
      refine g_ixL (v := .str (wayZ way)) (SqL.of e2) ?_ ?_
      · rw [← hway]
        rcases i with _ | _ | _ | i
        · rfl
        · rfl
        · rfl
        · omega
      walk_at "gg"
      refine ⟨way, x, j, rfl, w0, w2, tg_two (tg_same S2 tg1), judw_same S2 hj, fun ds p H3 ej n3 S3 L3 => ?_, fun ej H3 S3 => ?_⟩
      rotate_left
      · subst ej
        have S13 := S2.trans S3
        walk_at "gg"
        refine hgood S13 fun H4 S4 => ?_
        walk_at "gg"
        refine g_ifF (by simp) ?_
        walk_at "gg"
        have S14 := S13.trans S4
        refine g_reprX (shX_same S14 hy1) ?_
        walk_at "gg"
        refine g_ifF (by simp) ?_
        walk_at "gg"
        refine .inr (.inr (g_eqD .non (.str _) (by decide +kernel) (by decide +kernel) ?_))
        rw [show PyData.eqv .none (.str "odd") = false by decide +kernel]
        walk_at "gg"
        refine g_ifF rfl ?_
        walk_at "gg"
        refine g_ifT rfl ?_
        walk_at "gg"
        exact ⟨S1.trans S14, _, _, _, _, rfl⟩
      subst ej
      have S13 := S2.trans S3
      have ok := okj ds rfl
      generalize hC : wayC CL CK CV way = C at L3
      have hS : WayS CL CK CV C := ⟨way, w0, w2, hC.symm⟩
      have KC : KndC K CL C (wayZ way) := by rw [← hC]; exact KA.k way w0 w2
      obtain ⟨a, xs, rfl, ea, da, l5, pt⟩ := judw_list hj
      obtain ⟨dx, q3, ys3, hp3, hq3, hd3, _⟩ := id L3
      walk_at "gg"
      refine hgood S13 fun H4 S4 => ?_
      walk_at "gg"
      refine g_ifF (by simp) ?_
      walk_at "gg"
      have S14 := S13.trans S4
      refine g_reprX (shX_same S14 hy1) ?_
      walk_at "gg"
      refine g_ifF (by simp) ?_
      walk_at "gg"
      refine .inl ⟨p, C, dx, _, .type "str", rfl, S4 _ _ hp3, hS, .base (.str _), nf_of (KA.ns C hS), p, _, ds, wayZ way, rfl, L3.same S4, KC, .inl ⟨_, .base (.str _), KA.ns _ ⟨0, by omega, by omega, rfl⟩, false, rfl, ?_⟩⟩
      walk_at "gg"
      refine g_ifF rfl ?_
      walk_at "gg"
      refine g_ifF (by simp) ?_
      walk_at "gg"
      have LC := KA.l C hS
      obtain ⟨uk, kd⟩ := KC.kind
      have triple : Okd 5 9000000 (.list [.list ds, .int ds.length, .str (wayZ way)]) := by
        refine Okd.mono (okd_list (n := 4) (m := 2500000) fun d hd => ?_) (by omega) (by simp)
        rcases List.mem_cons.mp hd with rfl | hd
        · exact ok
        rcases List.mem_cons.mp hd with rfl | hd
        · exact (okd_fine (fine_int (n := 1) (by omega) (by omega))).mono (by omega) (by omega)
        · rw [List.mem_singleton.mp hd]
          exact okd_wayZ way
      refine g_propF (S4 _ _ hp3) hS ⟨p, C, ds, rfl, hS, L3.same S4, fun l5 xs5 H5 n5 S5 e5 d5 => ?_⟩
      walk_at "gg"
      have S35 := S4.trans S5
      refine g_lenF (S35 _ _ hp3) hS ⟨p, C, ds, rfl, hS, L3.same S35, ds.length, rfl, by omega, by omega, ?_⟩
      walk_at "gg"
      refine g_con (S35 _ _ hp3) LC.cl kd (lf_no q3 (by decide)) ?_
      walk_at "gg"
      refine g_mkL (by walk_at "ln") fun p6 H6 n6 S6 e6 => ?_
      walk_at "gg"
      refine g_reprX (.inl (triple.sh (by omega) (by omega) (.lst (SqL.of e6) (.cons (dp_same S6 _ _ (.lst (SqL.of e5) d5)) (.cons (.int _) (.cons (.str _) .nil)))))) ?_
      walk_at "gg"
      have S16 : Same H1 H6 := ((S13.trans S4).trans S5).trans S6
      refine g_len (SqL.of (S16 _ _ ea)) ?_
      rw [dpAll_len da]
      walk_at "gg"
      refine g_mkL (by walk_at "ln") fun p7 H7 n7 S7 e7 => ?_
      walk_at "gg"
      have S17 := S16.trans S7
      refine g_reprX (.inl (triple.sh (by omega) (by omega) (.lst (SqL.of e7) (.cons (.lst (SqL.of (S17 _ _ ea)) (dp_sameAll S17 _ _ da)) (.cons (.int _) (.cons (.str _) .nil)))))) ?_
      walk_at "gg"
      refine g_ifF (by simp) ?_
      walk_at "gg"
      refine g_listof (SqL.of (S17 _ _ ea)) fun q8 H8 n8 S8 e8 => ?_
      walk_at "gg"
      have S18 := S17.trans S8
      have hjc := judw_copy hj ea S18 e8
      refine ⟨way, .ref q8, some ds, rfl, w0, w2, .inl ⟨_, _, rfl, e8⟩, hjc, fun ds' p9 H9 ej n9 S9 L9 => ?_, fun z => nomatch z⟩
      obtain rfl := Option.some.inj ej
      rw [hC] at L9
      obtain ⟨dx9, q9, ys9, hp9, hq9, hd9, _⟩ := id L9
      walk_at "gg"
      have S39 : Same H3 H9 := (((S35.trans S6).trans S7).trans S8).trans S9
      refine g_propF (S39 _ _ hp3) hS ⟨p, C, ds, rfl, hS, L3.same S39, fun l10 xs10 H10 n10 S10 e10 d10 => ?_⟩
      walk_at "gg"
      refine g_tyL e10 ?_
      refine g_clear S10 n10 e10 fun H11 S11 e11 => ?_
      walk_at "gg"
      have S311 := S39.trans S11
      have L3' := L3.same S311
      have L9' := L9.same S11
      have tyC : TyX K H11 (.ref p9) (.ref C) := KC.ty (S11 _ _ hp9)
      refine .inl ⟨p, C, dx, _, .ref C, rfl, S311 _ _ hp3, hS, tyC, nf_self, p, _, ds, wayZ way, rfl, L3', KC, .inr ⟨p9, C, ds, wayZ way, rfl, hS, L9', KC, fun c hc => ⟨c, rfl, ?_⟩⟩⟩
      rw [show c = true from hc.mpr ⟨rfl, rfl⟩]
      walk_at "gg"
      refine g_ifF rfl ?_
      walk_at "gg"
      refine g_propF (S311 _ _ hp3) hS ⟨p, C, ds, rfl, hS, L3', fun l12 xs12 H12 n12 S12 e12 d12 => ?_⟩
      walk_at "gg"
      have S1_12 : Same H1 H12 := ((S18.trans S9).trans S11).trans S12
      have ea12 := S1_12 _ _ ea
      refine g_neD (.lst (SqL.of e12) d12) (.lst (SqL.of ea12) (dp_sameAll S1_12 _ _ da)) (ptd_shape pt) (ptd_shape pt) ?_
      rw [(ptd_eqv pt pt).mpr rfl]
      walk_at "gg"
      refine g_ifF rfl ?_
      walk_at "gg"
      have L3'' := L3'.same S12
      refine .inl ⟨p, C, dx, _, .type "list", rfl, (S311.trans S12) _ _ hp3, hS, .base (.lst ea12), nf_of (KA.nl C hS), p, _, ds, wayZ way, rfl, L3'', KC, .inl ⟨_, .base (.lst ea12), KA.nl _ ⟨0, by omega, by omega, rfl⟩, false, rfl, ?_⟩⟩
      walk_at "gg"
      refine g_ifF rfl ?_
      walk_at "gg"
      refine g_propF ((S11.trans S12) _ _ hp9) hS ⟨p9, C, ds, rfl, hS, L9'.same S12, fun l13 xs13 H13 n13 S13' e13 d13 => ?_⟩
      walk_at "gg"
      refine .inl ⟨p, C, dx, _, .type "list", rfl, ((S311.trans S12).trans S13') _ _ hp3, hS, .base (.lst e13), nf_of (KA.nl C hS), p, _, ds, wayZ way, rfl, L3''.same S13', KC, .inl ⟨_, .base (.lst e13), KA.nl _ ⟨0, by omega, by omega, rfl⟩, false, rfl, ?_⟩⟩
      walk_at "gg"
      refine g_ifF rfl ?_
      walk_at "gg"
      exact ⟨(S1.trans S1_12).trans S13', _, _, _, _, rfl⟩
    · rintro σ H1 ⟨S1, v2, v3, v4, v5, rfl⟩
      walk_at "gg"
      exact k _ S1
end
end Gk

namespace Gk
open PySem L2 Gx
open C8 (Cal Met Mak pe_c pe_mt pe_mt0 pe_mk pe_gc)
local macro_rules | `(tactic| walk_at "g") => `(tactic| (first
  | with_reducible refine g_seq ?_ | with_reducible refine g_asg ?_ | ((with_reducible show tVar _ _ _ _); refine g_var rfl ?_) | with_reducible refine g_c ?_ | with_reducible refine g_name ?_ | with_reducible refine g_op ?_ | with_reducible refine g_I0 ?_
  | with_reducible refine g_cons ?_ | with_reducible refine g_nil ?_ | with_reducible refine g_exbl ?_ | with_reducible refine g_exint ?_ | with_reducible refine g_test ?_ | with_reducible refine g_B ?_ | with_reducible refine g_ifS ?_ | with_reducible refine g_ret ?_ | with_reducible refine g_retN ?_ | with_reducible refine g_next ?_
  | with_reducible refine g_CB ?_ | with_reducible refine g_sub ?_ | with_reducible refine g_drop ?_ | with_reducible refine g_not ?_ | with_reducible refine g_and ?_ | with_reducible refine g_or ?_ | with_reducible refine g_andV ?_ | with_reducible refine g_orV ?_ | with_reducible refine g_notV ?_ | with_reducible refine g_ifE ?_ | with_reducible refine g_isN ?_
  | with_reducible refine g_par ?_ | with_reducible refine g_expar ?_ | with_reducible refine g_chain ?_ | with_reducible refine g_un ?_ | with_reducible refine g_U ?_ | with_reducible refine g_bits ?_ | ((with_reducible show rEq _ _ _ _); refine g_eq rfl ?_) | ((with_reducible show rNe _ _ _ _); refine g_ne rfl ?_)
  | with_reducible refine g_for ?_ | with_reducible refine g_iRng1 ?_ | with_reducible refine g_iRng2 ?_ | with_reducible refine g_iList ?_ | with_reducible refine g_iTup ?_
  | ((with_reducible refine g_Imul ?hc ?_); (case hc => (first | (refine Or.inl ⟨?_, ?_⟩ <;> first | decide | omega) | (refine Or.inr ⟨?_, ?_⟩ <;> first | decide | omega))))
  | ((with_reducible refine g_Idiv ?hc ?_); (case hc => (first | (exact ⟨by decide, by decide⟩) | assumption)))
  | ((with_reducible refine g_Imod ?hc ?_); (case hc => (first | assumption | omega | decide)))
  | ((with_reducible refine g_exR1 ?hlo ?hhi ?_); (case hlo => omega); (case hhi => omega))
  | ((with_reducible refine g_exR2 ?hb ?_); (case hb => omega))
  | with_reducible refine g_lst ?_ | with_reducible refine g_tup ?_ | with_reducible refine g_call ?_ | with_reducible refine g_BM ?_ | with_reducible refine g_BM0 ?_
  | with_reducible refine g_intB ?_ | with_reducible refine g_lc ?_ | with_reducible refine g_yes ?_ | with_reducible refine g_iZip ?_ | with_reducible refine g_sl ?_ | with_reducible refine g_noP ?_ | with_reducible refine g_part ?_ | with_reducible refine g_gcons ?_ | with_reducible refine g_gnil ?_
  | with_reducible refine g_tfld ?_ | with_reducible refine g_tmeth ?_ | with_reducible refine g_tmake ?_ | with_reducible refine g_sfld ?_ | with_reducible refine g_tprop ?_ | with_reducible refine g_tstar ?_ | with_reducible refine g_tmethK ?_ | with_reducible refine g_isN1 ?_ | with_reducible refine g_notN1 ?_))
local macro_rules | `(tactic| walk_at "gs1") => `(tactic| (first
  | with_reducible refine g_seq ?_ | with_reducible refine g_asg ?_ | ((with_reducible show tVar _ _ _ _); refine g_var rfl ?_) | with_reducible refine g_c ?_ | with_reducible refine g_name ?_ | with_reducible refine g_op ?_ | with_reducible refine g_I0 ?_
  | with_reducible refine g_cons ?_ | with_reducible refine g_nil ?_ | with_reducible refine g_exbl ?_ | with_reducible refine g_exint ?_ | with_reducible refine g_test ?_ | with_reducible refine g_B ?_ | with_reducible refine g_ifS ?_ | with_reducible refine g_retN ?_ | with_reducible refine g_next ?_
  | with_reducible refine g_CB ?_ | with_reducible refine g_sub ?_ | with_reducible refine g_drop ?_ | with_reducible refine g_not ?_ | with_reducible refine g_and ?_ | with_reducible refine g_or ?_ | with_reducible refine g_andV ?_ | with_reducible refine g_orV ?_ | with_reducible refine g_notV ?_ | with_reducible refine g_ifE ?_ | with_reducible refine g_isN ?_
  | with_reducible refine g_par ?_ | with_reducible refine g_expar ?_ | with_reducible refine g_chain ?_ | with_reducible refine g_un ?_ | with_reducible refine g_U ?_ | with_reducible refine g_bits ?_ | ((with_reducible show rEq _ _ _ _); refine g_eq rfl ?_) | ((with_reducible show rNe _ _ _ _); refine g_ne rfl ?_)
  | with_reducible refine g_for ?_ | with_reducible refine g_iRng1 ?_ | with_reducible refine g_iRng2 ?_ | with_reducible refine g_iList ?_ | with_reducible refine g_iTup ?_
  | ((with_reducible refine g_Imul ?hc ?_); (case hc => (first | (refine Or.inl ⟨?_, ?_⟩ <;> first | decide | omega) | (refine Or.inr ⟨?_, ?_⟩ <;> first | decide | omega))))
  | ((with_reducible refine g_Idiv ?hc ?_); (case hc => (first | (exact ⟨by decide, by decide⟩) | assumption)))
  | ((with_reducible refine g_Imod ?hc ?_); (case hc => (first | assumption | omega | decide)))
  | ((with_reducible refine g_exR1 ?hlo ?hhi ?_); (case hlo => omega); (case hhi => omega))
  | ((with_reducible refine g_exR2 ?hb ?_); (case hb => omega))
  | with_reducible refine g_lst ?_ | with_reducible refine g_tup ?_ | with_reducible refine g_call ?_ | with_reducible refine g_BM ?_ | with_reducible refine g_BM0 ?_
  | with_reducible refine g_intB ?_ | with_reducible refine g_lc ?_ | with_reducible refine g_yes ?_ | with_reducible refine g_iZip ?_ | with_reducible refine g_sl ?_ | with_reducible refine g_noP ?_ | with_reducible refine g_part ?_ | with_reducible refine g_gcons ?_ | with_reducible refine g_gnil ?_
  | with_reducible refine g_tfld ?_ | with_reducible refine g_tmeth ?_ | with_reducible refine g_tmake ?_ | with_reducible refine g_sfld ?_ | with_reducible refine g_tprop ?_ | with_reducible refine g_tstar ?_ | with_reducible refine g_tmethK ?_ | with_reducible refine g_isN1 ?_ | with_reducible refine g_notN1 ?_))
local macro_rules | `(tactic| walk_at "gx1") => `(tactic| (first
  | with_reducible refine g_seq ?_ | with_reducible refine g_asg ?_ | ((with_reducible show tVar _ _ _ _); refine g_var rfl ?_) | with_reducible refine g_c ?_ | with_reducible refine g_name ?_ | with_reducible refine g_op ?_ | with_reducible refine g_I0 ?_
  | with_reducible refine g_cons ?_ | with_reducible refine g_nil ?_ | with_reducible refine g_exbl ?_ | with_reducible refine g_exint ?_ | with_reducible refine g_test ?_ | with_reducible refine g_B ?_ | with_reducible refine g_ifS ?_ | with_reducible refine g_retN ?_ | with_reducible refine g_next ?_
  | with_reducible refine g_CB ?_ | with_reducible refine g_sub ?_ | with_reducible refine g_drop ?_ | with_reducible refine g_not ?_ | with_reducible refine g_and ?_ | with_reducible refine g_or ?_ | with_reducible refine g_andV ?_ | with_reducible refine g_orV ?_ | with_reducible refine g_notV ?_ | with_reducible refine g_ret ?_ | with_reducible refine g_isN ?_
  | with_reducible refine g_par ?_ | with_reducible refine g_expar ?_ | with_reducible refine g_chain ?_ | with_reducible refine g_un ?_ | with_reducible refine g_U ?_ | with_reducible refine g_bits ?_ | ((with_reducible show rEq _ _ _ _); refine g_eq rfl ?_) | ((with_reducible show rNe _ _ _ _); refine g_ne rfl ?_)
  | with_reducible refine g_for ?_ | with_reducible refine g_iRng1 ?_ | with_reducible refine g_iRng2 ?_ | with_reducible refine g_iList ?_ | with_reducible refine g_iTup ?_
  | ((with_reducible refine g_Imul ?hc ?_); (case hc => (first | (refine Or.inl ⟨?_, ?_⟩ <;> first | decide | omega) | (refine Or.inr ⟨?_, ?_⟩ <;> first | decide | omega))))
  | ((with_reducible refine g_Idiv ?hc ?_); (case hc => (first | (exact ⟨by decide, by decide⟩) | assumption)))
  | ((with_reducible refine g_Imod ?hc ?_); (case hc => (first | assumption | omega | decide)))
  | ((with_reducible refine g_exR1 ?hlo ?hhi ?_); (case hlo => omega); (case hhi => omega))
  | ((with_reducible refine g_exR2 ?hb ?_); (case hb => omega))
  | with_reducible refine g_lst ?_ | with_reducible refine g_tup ?_ | with_reducible refine g_call ?_ | with_reducible refine g_BM ?_ | with_reducible refine g_BM0 ?_
  | with_reducible refine g_intB ?_ | with_reducible refine g_lc ?_ | with_reducible refine g_yes ?_ | with_reducible refine g_iZip ?_ | with_reducible refine g_sl ?_ | with_reducible refine g_noP ?_ | with_reducible refine g_part ?_ | with_reducible refine g_gcons ?_ | with_reducible refine g_gnil ?_
  | with_reducible refine g_tfld ?_ | with_reducible refine g_tmeth ?_ | with_reducible refine g_tmake ?_ | with_reducible refine g_sfld ?_ | with_reducible refine g_tprop ?_ | with_reducible refine g_tstar ?_ | with_reducible refine g_tmethK ?_ | with_reducible refine g_isN1 ?_ | with_reducible refine g_notN1 ?_))
local macro_rules | `(tactic| walk_at "hp") => `(tactic| (first | assumption | exact upd_same | (refine same_get (by assumption) ?_; walk_at "hp")))
local macro_rules | `(tactic| walk_at "sm") => `(tactic| (first | assumption | exact Same.refl _ | (refine Same.trans ?ha (by assumption); walk_at "sm")))
local macro_rules | `(tactic| walk_at "nn") => `(tactic| (first | assumption | (refine same_free (by assumption) ?_; walk_at "nn")))
local macro_rules | `(tactic| walk_at "sb") => `(tactic| (first | decide | (refine small_bits ?_ ?_ <;> omega)))
local macro_rules | `(tactic| walk_at "ln") => `(tactic| (simp only [List.length_cons, List.length_nil]; omega))
local macro_rules | `(tactic| walk_at "gg") => `(tactic| (repeat walk_at "g"))
local macro_rules | `(tactic| walk_at "gs") => `(tactic| (repeat walk_at "gs1"))
local macro_rules | `(tactic| walk_at "gx") => `(tactic| (repeat walk_at "gx1"))

local macro_rules | `(tactic| walk_at "g") => `(tactic| (first | with_reducible refine g_revL ?_ | with_reducible refine g_lstX ?_))
section
variable {P : Program} {w : World} {K : PySem.W.Frag} {mg : Str → Option Value} {base : Heap} {X : Cx} {α : Type} [Od α]
theorem tgL {H : Hp} {a : Addr} {xs : List V} {ds : List PyData} (e : H a = some (.lst xs)) (d : DpAll K H xs ds) (o : ∀ d ∈ ds, Okd 3 4002 d) (l : ds.length ≤ 600) : Tg K H (.ref a) :=
  .lst e d (by omega) ((okd_list o).mono (by omega) (by have : 4004 * ds.length ≤ 4004 * 600 := Nat.mul_le_mul_left _ l; omega))
theorem tgP {H : Hp} {a : Addr} {as : List α} (h : PtsL K H a as) (f : ∀ a ∈ as, Fine 1 3 (Kd.D a)) (l : as.length ≤ 1000) : Tg K H (.ref a) := by
  obtain ⟨xs, e, d⟩ := h
  refine .lst e d (by rw [List.length_map]; omega) ((okd_list (n := 1) (m := 390) fun d hd => ?_).mono (by omega) (by rw [List.length_map]; omega))
  obtain ⟨b, hb, rfl⟩ := List.mem_map.mp hd
  exact okd_fine (f b hb)
/-- things, of which some make lines -/
def spBent (α : Type) [Od α] (K : PySem.W.Frag) : Sp := fun vs H Q _ => ∃ (f l : Addr) (as : List α), vs = [.ref f, .ref l] ∧ H f = some (FlowO f) ∧ PtsL K H l as ∧ as.length ≤ 500 ∧ (∀ a ∈ as, Fine 1 3 (Kd.D a)) ∧
  ∀ l' xs H', H l' = none → Same H H' → H' l' = some (.lst xs) → xs.length ≤ 100 → (∀ x ∈ xs, Tg K H' x) → Q (.ref l') H'
abbrev s_bent : Stmt := top 20
abbrev N_bent : List Str := ["_law_flow_here", "_law_rows", "_law_found", "_law_at"]
theorem sc_bent : FnScope N_bent ["_law_flow_here", "_law_rows"] (defScope s_bent) := ⟨rfl, rfl, rfl, by decide +kernel, rfl, by decide +kernel, by decide +kernel⟩

theorem ok_bent {f : Addr} {fd : FuncData} (D : Dn K mg "_law_bent" s_bent ["_law_flow_here", "_law_rows"] f fd) (T : Bt mg) (c__law_dip : Cal P w K mg base 1 "_law_dip" spDip []) : FnG P w K mg base 2 f fd ["_law_flow_here", "_law_rows"] (spBent α K) := by
  refine fnG_of D.fn sc_bent (fun vs H Q E h => ?_) (fun cdv A outer s H vs Q E gd hr h => ?_)
  · obtain ⟨f, l, as, rfl, _⟩ := h
    rfl
  · obtain ⟨f, l, as, rfl, hf, hl, few, fa, k⟩ := h
    refine ⟨_, (pss_cons (ps_set (i := 2) sc_bent.nd rfl (Or.inl rfl) (pe_lst (pa_cons (pv 1) (pa_cons (pe_callTy call_tuple_of (by rfl) T.n_tuple bt_tuple (pa_cons (pv 1) pa_nil)) (pa_cons (pe_op op_cat (pv 1) (pe_lst (pa_cons pe_non pa_nil))) (pa_cons (pe_op op_cat (pe_lst (pa_cons pe_bl pa_nil)) (pv 1)) (pa_cons (pe_op op_cat (pv 1) (pe_lst (pa_cons (pe_lst (pa_cons pe_int (pa_cons pe_int pa_nil))) pa_nil))) (pa_cons (pe_lst (pa_cons (pe_tup (pa_cons pe_int (pa_cons pe_bl pa_nil))) pa_nil)) (pa_cons (pe_lst (pa_cons (pe_tup (pa_cons pe_int (pa_cons pe_int (pa_cons pe_int pa_nil)))) pa_nil)) (pa_cons (pe_lst (pa_cons pe_str pa_nil)) (pa_cons (pe_lst (pa_cons (pe_tup (pa_cons pe_int pa_nil)) pa_nil)) pa_nil)))))))))))
    (pss_cons (ps_if (pt_cmpR (op_neD hr.units) (pv 1) (pe_lst pa_nil) (nomark _)) (pss_cons (ps_set (i := 3) sc_bent.nd rfl (Or.inl rfl) (pe_c c__law_dip hr (by decide) (by rfl) (pa_cons (pv 0) (pa_cons (pe_callB cr_lenQ (by rfl) T.n_len bt_len (pa_cons (pv 1) pa_nil)) pa_nil))))
    (pss_cons (ps_set (i := 2) sc_bent.nd rfl (Or.inl rfl) (pe_op op_cat (pv 2) (pe_lst (pa_cons (pe_op op_cat (pe_op op_cat (pe_slice sl_list (pv 1) po_none (po_some (pv 3))) (pe_slice sl_list (pv 1) (po_some (pv 3)) (po_some (pe_op op_add (pv 3) pe_int)))) (pe_slice sl_list (pv 1) (po_some (pv 3)) po_none)) (pa_cons (pe_revL (pv 1)) (pa_cons (pe_op op_cat (pe_slice sl_list (pv 1) (po_some (pv 3)) po_none) (pe_slice sl_list (pv 1) po_none (po_some (pv 3)))) pa_nil))))))
    (pss_one (ps_set (i := 2) sc_bent.nd rfl (Or.inl rfl) (pe_op op_cat (pv 2) (pe_lst (pa_cons (pe_op op_cat (pe_op op_cat (pe_slice sl_list (pv 1) po_none (po_some (pv 3))) (pe_lst (pa_cons (pe_callTy (cr_strV gd hr) (by rfl) T.n_str bt_str (pa_cons (pe_ix ix_list (pv 1) (pv 3) (fun _ _ => rfl)) pa_nil)) pa_nil))) (pe_slice sl_list (pv 1) (po_some (pe_op op_add (pv 3) pe_int)) po_none)) (pa_cons (pe_op op_cat (pe_op op_cat (pe_slice sl_list (pv 1) po_none (po_some (pv 3))) (pe_lst (pa_cons (pe_lst (pa_cons (pe_ix ix_list (pv 1) (pv 3) (fun _ _ => rfl)) pa_nil)) pa_nil))) (pe_slice sl_list (pv 1) (po_some (pe_op op_add (pv 3) pe_int)) po_none)) pa_nil)))))))) pss_nil)
    (pss_one (ps_ret (pe_op op_cat (pv 2) (pe_lst (pa_cons pe_non (pa_cons pe_int (pa_cons pe_str (pa_cons pe_str (pa_cons pe_dnewK (pa_cons (pe_disp (pps_cons pe_int pe_int pps_nil) (by rfl) (by rfl) (fun z => by cases z) (by decide)) (pa_cons (pe_tup pa_nil) (pa_cons (pe_lst (pa_cons (pe_lst pa_nil) pa_nil)) (pa_cons (pe_lstX (pa_cons pe_dnewK pa_nil)) (pa_cons (pe_lst (pa_cons (pe_tup pa_nil) pa_nil)) (pa_cons (pe_lst (pa_cons pe_bl pa_nil)) (pa_cons (pe_lst (pa_cons pe_int (pa_cons (pe_tup (pa_cons pe_int (pa_cons pe_int pa_nil))) pa_nil))) (pa_cons (pe_lst (pa_cons (pe_tup (pa_cons pe_int (pa_cons pe_int pa_nil))) (pa_cons pe_int pa_nil))) pa_nil))))))))))))))))))), ?_⟩
    obtain ⟨xs0, e0, d0⟩ := id hl
    have fad : ∀ d ∈ as.map (Kd.D (α := α)), Okd 3 4002 d := fun d hd => by
      obtain ⟨b, hb, rfl⟩ := List.mem_map.mp hd
      exact (okd_fine (fa b hb)).mono (by omega) (by omega)
    have l0 : (as.map (Kd.D (α := α))).length = as.length := List.length_map _
    have x0 : xs0.length = as.length := pts_len d0
    have oks : ∀ {ds es : List PyData}, (∀ d ∈ ds, Okd 3 4002 d) → (∀ d ∈ es, Okd 3 4002 d) → ∀ d ∈ ds ++ es, Okd 3 4002 d := fun h1 h2 d hd => by
      rcases List.mem_append.mp hd with z | z
      · exact h1 d z
      · exact h2 d z
    have ok1 : ∀ {d : PyData}, Okd 3 4002 d → ∀ e ∈ [d], Okd 3 4002 e := fun h e he => by rw [List.mem_singleton.mp he]; exact h
    have oi : ∀ n : Int, -1000 ≤ n → n ≤ 1000 → Okd 1 130 (.int n) := fun n h1 h2 => okd_fine (fine_int (n := 1) (by omega) (by omega))
    have ob : ∀ c : Bool, Okd 1 130 (.bool c) := fun c => okd_fine (fine_bool c)
    walk_at "gg"
    refine ⟨l, xs0, rfl, .inl ⟨SqL.of e0, fun p1 m1 => ?_⟩⟩
    have S1 : Same H (upd H p1 (.tup xs0)) := same_new m1
    have e1 : upd H p1 (.tup xs0) p1 = some (.tup xs0) := upd_same
    generalize upd H p1 (.tup xs0) = H1 at S1 e1 ⊢
    walk_at "gg"
    refine g_mkL (by walk_at "ln") fun p2 H2 m2 S2 e2 => ?_
    walk_at "gg"
    have S02 := S1.trans S2
    refine g_cat (S02 _ _ e0) e2 (by simp; omega) fun p3 H3 m3 S3 e3 => ?_
    walk_at "gg"
    refine g_mkL (by walk_at "ln") fun p4 H4 m4 S4 e4 => ?_
    walk_at "gg"
    have S04 := (S02.trans S3).trans S4
    refine g_cat e4 (S04 _ _ e0) (by simp; omega) fun p5 H5 m5 S5 e5 => ?_
    walk_at "gg"
    refine g_mkL (by walk_at "ln") fun p6 H6 m6 S6 e6 => ?_
    walk_at "gg"
    refine g_mkL (by walk_at "ln") fun p7 H7 m7 S7 e7 => ?_
    walk_at "gg"
    have S07 := ((S04.trans S5).trans S6).trans S7
    refine g_cat (S07 _ _ e0) e7 (by simp; omega) fun p8 H8 m8 S8 e8 => ?_
    walk_at "gg"
    refine g_mkT (by walk_at "ln") fun p9 H9 m9 S9 e9 => ?_
    walk_at "gg"
    refine g_mkL (by walk_at "ln") fun p10 H10 m10 S10 e10 => ?_
    walk_at "gg"
    refine g_mkT (by walk_at "ln") fun p11 H11 m11 S11 e11 => ?_
    walk_at "gg"
    refine g_mkL (by walk_at "ln") fun p12 H12 m12 S12 e12 => ?_
    walk_at "gg"
    refine g_mkL (by walk_at "ln") fun p13 H13 m13 S13 e13 => ?_
    walk_at "gg"
    refine g_mkT (by walk_at "ln") fun p14 H14 m14 S14 e14 => ?_
    walk_at "gg"
    refine g_mkL (by walk_at "ln") fun p15 H15 m15 S15 e15 => ?_
    walk_at "gg"
    refine g_mkL (by walk_at "ln") fun p16 H16 m16 S16 e16 => ?_
    have T16 : Same H16 H16 := Same.refl _
    have T15 : Same H15 H16 := S16.trans T16
    have T14 : Same H14 H16 := S15.trans T15
    have T13 : Same H13 H16 := S14.trans T14
    have T12 : Same H12 H16 := S13.trans T13
    have T11 : Same H11 H16 := S12.trans T12
    have T10 : Same H10 H16 := S11.trans T11
    have T9 : Same H9 H16 := S10.trans T10
    have T8 : Same H8 H16 := S9.trans T9
    have T7 : Same H7 H16 := S8.trans T8
    have T6 : Same H6 H16 := S7.trans T7
    have T5 : Same H5 H16 := S6.trans T6
    have T4 : Same H4 H16 := S5.trans T5
    have T3 : Same H3 H16 := S4.trans T4
    have T2 : Same H2 H16 := S3.trans T3
    have T1 : Same H1 H16 := S2.trans T2
    have T0 : Same H H16 := S1.trans T1
    have all : ∀ v ∈ [V.ref l, V.ref p1, V.ref p3, V.ref p5, V.ref p8, V.ref p10, V.ref p12, V.ref p13, V.ref p15], Tg K H16 v := by
      have dd0 := dp_sameAll T0 _ _ d0
      refine all_cons ?_ (all_cons ?_ (all_cons ?_ (all_cons ?_ (all_cons ?_ (all_cons ?_ (all_cons ?_ (all_cons ?_ (all_cons ?_ all_nil))))))))
      · exact tgL (T0 _ _ e0) dd0 fad (by omega)
      · exact .dat (.tup (SqT.of (T1 _ _ e1)) dd0) rfl ((okd_tuple (n := 1) (m := 390) (xs := as.map (Kd.D (α := α))) fun d hd => by obtain ⟨b, hb, rfl⟩ := List.mem_map.mp hd; exact okd_fine (fa b hb)).mono (by omega) (by rw [l0]; omega))
      · exact tgL (T3 _ _ e3) (dpAll_append dd0 (.cons .non .nil)) (oks fad (ok1 ((okd_fine fine_none).mono (n := 1) (by omega) (by omega)))) (by simp; omega)
      · exact tgL (T5 _ _ e5) (.cons (.bl true) dd0) (oks (ds := [.bool true]) (ok1 ((ob true).mono (by omega) (by omega))) fad) (by simp; omega)
      · exact tgL (T8 _ _ e8) (dpAll_append dd0 (.cons (.lst (SqL.of (T6 _ _ e6)) (.cons (.int 1) (.cons (.int 2) .nil))) .nil)) (oks fad (ok1 ((okd_list (n := 1) (m := 130) (by intro d hd; simp at hd; rcases hd with rfl | rfl <;> exact oi _ (by omega) (by omega))).mono (by omega) (by simp)))) (by simp; omega)
      · exact tgL (T10 _ _ e10) (.cons (.tup (SqT.of (T9 _ _ e9)) (.cons (.int 1) (.cons (.bl true) .nil))) .nil) (ok1 ((okd_tuple (n := 1) (m := 130) (by intro d hd; simp at hd; rcases hd with rfl | rfl; exact oi _ (by omega) (by omega); exact ob _)).mono (by omega) (by simp))) (by simp)
      · exact tgL (T12 _ _ e12) (.cons (.tup (SqT.of (T11 _ _ e11)) (.cons (.int 1) (.cons (.int 2) (.cons (.int 3) .nil)))) .nil) (ok1 ((okd_tuple (n := 1) (m := 130) (by intro d hd; simp at hd; rcases hd with rfl | rfl | rfl <;> exact oi _ (by omega) (by omega))).mono (by omega) (by simp))) (by simp)
      · exact tgL (T13 _ _ e13) (.cons (.str _) .nil) (ok1 ((okd_str (n := 1) (k := 100) (by decide +kernel) (by decide +kernel)).mono (by omega) (by omega))) (by simp)
      · exact tgL (T15 _ _ e15) (.cons (.tup (SqT.of (T14 _ _ e14)) (.cons (.int 1) .nil)) .nil) (ok1 ((okd_tuple (n := 1) (m := 130) (by intro d hd; simp at hd; rcases hd with rfl; exact oi _ (by omega) (by omega))).mono (by omega) (by simp))) (by simp)
    generalize hxs : [V.ref l, V.ref p1, V.ref p3, V.ref p5, V.ref p8, V.ref p10, V.ref p12, V.ref p13, V.ref p15] = xs16 at all e16
    have len16 : xs16.length = 9 := by rw [← hxs]; rfl
    clear hxs
    have e016 := T0 _ _ e0
    have d016 := dp_sameAll T0 _ _ d0
    have hf16 := T0 _ _ hf
    have hl16 := hl.same T0
    clear S1 S2 S3 S4 S5 S6 S7 S8 S9 S10 S11 S12 S13 S14 S15 S16 S02 S04 S07 T1 T2 T3 T4 T5 T6 T7 T8 T9 T10 T11 T12 T13 T14 T15 T16 e1 e2 e3 e4 e5 e6 e7 e8 e9 e10 e11 e12 e13 e14 e15
    have inT : ∀ n, ∀ b ∈ as.take n, b ∈ as := fun n b h => List.mem_of_mem_take h
    have inD : ∀ n, ∀ b ∈ as.drop n, b ∈ as := fun n b h => List.mem_of_mem_drop h
    have okm : ∀ {bs : List α}, (∀ b ∈ bs, b ∈ as) → ∀ d ∈ bs.map (Kd.D (α := α)), Okd 3 4002 d := fun h d hd => by
      obtain ⟨b, hb, rfl⟩ := List.mem_map.mp hd
      exact (okd_fine (fa b (h b hb))).mono (by omega) (by omega)
    with_reducible refine g_name ?_
    with_reducible refine g_seq ?_
    refine g_cutS (t := tIfS _ _ _) (fun σ' H' => ∃ (q : Addr) (xs : List V) (v3 : Option V), σ' = [some (.ref f), some (.ref l), some (.ref q), v3] ∧ Same H16 H' ∧ H' q = some (.lst xs) ∧ xs.length ≤ 40 ∧ ∀ x ∈ xs, Tg K H' x) (fun D' er kn => ?_) ?_
    · walk_at "gg"
      refine g_mkL (by walk_at "ln") fun p17 H17 m17 S17 e17 => ?_
      walk_at "gg"
      refine g_neNil (hl16.same S17) e17 ?_
      refine ⟨_, rfl, ?_⟩
      refine g_iteNd (fun ne => ?_) (fun e => ?_)
      rotate_left
      · walk_at "gg"
        exact kn _ _ ⟨p16, xs16, none, rfl, S17, S17 _ _ e16, by omega, fun x hx => tg_same S17 (all x hx)⟩
      have pos : 0 < as.length := by
        cases as with
        | nil => exact absurd rfl ne
        | cons a t => simp
      walk_at "gg"
      refine g_lenD (dt_of_pts (hl16.same S17)) ?_
      walk_at "gg"
      refine g_dip (S17 _ _ hf16) (by omega) (by walk_at "sb") fun r H18 r0 r1 S18 => ?_
      have Q18 := S17.trans S18
      have rn : r.toNat < as.length := by omega
      walk_at "gg"
      refine g_toP (hl16.same Q18) (by omega) (by omega) fun p19 H19 m19 S19 z19 => ?_
      walk_at "gg"
      have Q19 := Q18.trans S19
      refine g_slPts (hl16.same Q19) fun p20 bs H20 m20 S20 z20 inb lb => ?_
      walk_at "gg"
      refine g_catPts (z19.same S20) z20 (by rw [List.length_take]; omega) fun p21 H21 m21 S21 z21 => ?_
      have Q21 := (Q19.trans S20).trans S21
      walk_at "gg"
      refine g_fromP (hl16.same Q21) (by omega) (by omega) fun p22 H22 m22 S22 z22 => ?_
      walk_at "gg"
      refine g_catPts (z21.same S22) z22 (by rw [List.length_append, List.length_take, List.length_drop]; omega) fun p23 H23 m23 S23 z23 => ?_
      have Q23 := (Q21.trans S22).trans S23
      walk_at "gg"
      refine g_revP (hl16.same Q23) fun p24 H24 m24 S24 z24 => ?_
      have Q24 := Q23.trans S24
      walk_at "gg"
      refine g_fromP (hl16.same Q24) (by omega) (by omega) fun p25 H25 m25 S25 z25 => ?_
      walk_at "gg"
      refine g_toP (hl16.same (Q24.trans S25)) (by omega) (by omega) fun p26 H26 m26 S26 z26 => ?_
      walk_at "gg"
      refine g_catPts (z25.same S26) z26 (by rw [List.length_take, List.length_drop]; omega) fun p27 H27 m27 S27 z27 => ?_
      have Q27 := ((Q24.trans S25).trans S26).trans S27
      walk_at "gg"
      refine g_mkL (by walk_at "ln") fun p28 H28 m28 S28 e28 => ?_
      walk_at "gg"
      have Q28 := Q27.trans S28
      refine g_cat (Q28 _ _ e16) e28 (by rw [len16]; simp) fun p29 H29 m29 S29 e29 => ?_
      have Q29 := Q28.trans S29
      walk_at "gg"
      refine g_toP (hl16.same Q29) (by omega) (by omega) fun p30 H30 m30 S30 z30 => ?_
      obtain ⟨x30, e30, d30⟩ := z30
      walk_at "gg"
      refine g_ixD (dt_of_pts (hl16.same (Q29.trans S30))) r0 r1 fun v a ha hv => ?_
      have mem : a ∈ as := List.mem_of_getElem? ha
      have fna : Fine 1 3 (Kd.D a) := fa a mem
      replace hv : Dp K H30 v (Kd.D a) := hv
      walk_at "gg"
      refine ⟨v, Kd.D a, rfl, hv, od_str a, od_bool a, Kd.nn a, fna.shaped (by omega), small_show _ fna.sm, fna.text (by omega), ?_⟩
      walk_at "gg"
      refine g_mkL (by walk_at "ln") fun p31 H31 m31 S31 e31 => ?_
      walk_at "gg"
      have lx30 : x30.length ≤ 500 := by
        have := dpAll_len d30
        rw [List.length_map, List.length_take] at this
        omega
      refine g_cat (S31 _ _ e30) e31 (by simp; omega) fun p32 H32 m32 S32 e32 => ?_
      have S3032 := S31.trans S32
      have Q32 := (Q29.trans S30).trans S3032
      walk_at "gg"
      refine g_fromP (hl16.same Q32) (by omega) (by omega) fun p33 H33 m33 S33 z33 => ?_
      obtain ⟨x33, e33, d33⟩ := z33
      have lx33 : x33.length ≤ 500 := by
        have := dpAll_len d33
        rw [List.length_map, List.length_drop] at this
        omega
      walk_at "gg"
      refine g_cat (S33 _ _ e32) e33 (by simp; omega) fun p34 H34 m34 S34 e34 => ?_
      have S3034 := (S3032.trans S33).trans S34
      have Q34 := (Q32.trans S33).trans S34
      walk_at "gg"
      refine g_toP (hl16.same Q34) (by omega) (by omega) fun p35 H35 m35 S35 z35 => ?_
      obtain ⟨x35, e35, d35⟩ := z35
      have lx35 : x35.length ≤ 500 := by
        have := dpAll_len d35
        rw [List.length_map, List.length_take] at this
        omega
      walk_at "gg"
      refine g_ixD (dt_of_pts (hl16.same (Q34.trans S35))) r0 r1 fun v2 a2 ha2 hv2 => ?_
      obtain rfl : a = a2 := Option.some.inj (ha.symm.trans ha2)
      replace hv2 : Dp K H35 v2 (Kd.D a) := hv2
      walk_at "gg"
      refine g_mkL (by walk_at "ln") fun p36 H36 m36 S36 e36 => ?_
      walk_at "gg"
      refine g_mkL (by walk_at "ln") fun p37 H37 m37 S37 e37 => ?_
      walk_at "gg"
      refine g_cat ((S36.trans S37) _ _ e35) e37 (by simp; omega) fun p38 H38 m38 S38 e38 => ?_
      have S3538 := (S36.trans S37).trans S38
      have Q38 := (Q34.trans S35).trans S3538
      walk_at "gg"
      refine g_fromP (hl16.same Q38) (by omega) (by omega) fun p39 H39 m39 S39 z39 => ?_
      obtain ⟨x39, e39, d39⟩ := z39
      have lx39 : x39.length ≤ 500 := by
        have := dpAll_len d39
        rw [List.length_map, List.length_drop] at this
        omega
      walk_at "gg"
      refine g_cat (S39 _ _ e38) e39 (by simp; omega) fun p40 H40 m40 S40 e40 => ?_
      have S3540 := (S3538.trans S39).trans S40
      have Q40 := (Q38.trans S39).trans S40
      walk_at "gg"
      refine g_mkL (by walk_at "ln") fun p41 H41 m41 S41 e41 => ?_
      walk_at "gg"
      have S3441 := (S35.trans S3540).trans S41
      have S2941 := ((S30.trans S3034).trans S3441)
      refine g_cat (S2941 _ _ e29) e41 (by simp; rw [len16]; omega) fun p42 H42 m42 S42 e42 => ?_
      walk_at "gg"
      have S1642 := (Q40.trans S41).trans S42
      have S3442 := S3441.trans S42
      have S2942 := S2941.trans S42
      refine kn _ _ ⟨p42, _, _, rfl, S1642, e42, by simp; rw [len16]; omega, fun v hv => ?_⟩
      rcases List.mem_append.mp hv with hv | hv
      · rcases List.mem_append.mp hv with hv | hv
        · exact tg_same S1642 (all v hv)
        · have S2742 := (S28.trans S29).trans S2942
          refine all_cons ?_ (all_cons ?_ (all_cons ?_ all_nil)) v hv
          · refine tgP (z23.same ((((S24.trans S25).trans S26).trans S27).trans S2742)) (fun b hb => ?_) (by rw [List.length_append, List.length_append, List.length_take, List.length_drop]; omega)
            rcases List.mem_append.mp hb with hb | hb
            · rcases List.mem_append.mp hb with hb | hb
              · exact fa b (inT _ b hb)
              · exact fa b (inb b hb)
            · exact fa b (inD _ b hb)
          · exact tgP (z24.same (((S25.trans S26).trans S27).trans S2742)) (fun b hb => fa b (List.mem_reverse.mp hb)) (by rw [List.length_reverse]; omega)
          · refine tgP (z27.same S2742) (fun b hb => ?_) (by rw [List.length_append, List.length_take, List.length_drop]; omega)
            rcases List.mem_append.mp hb with hb | hb
            · exact fa b (inD _ b hb)
            · exact fa b (inT _ b hb)
      · refine all_cons ?_ (all_cons ?_ all_nil) v hv
        · have d1 : DpAll K H42 ((x30 ++ [.str (Kd.D a).shown]) ++ x33) (((as.take r.toNat).map Kd.D ++ [.str (Kd.D a).shown]) ++ (as.drop (r + 1).toNat).map Kd.D) :=
            dpAll_append (dpAll_append (dp_sameAll (S3034.trans S3442) _ _ d30) (.cons (.str _) .nil)) (dp_sameAll (S34.trans S3442) _ _ d33)
          refine tgL (S3442 _ _ e34) d1 (oks (oks (okm (inT _)) (ok1 ((okd_str (n := 3) (k := 400) (Od.ok_str a) ?_).mono (by omega) (by omega)))) (okm (inD _))) ?_
          · have := (okd_fine fna).sz
            omega
          · rw [List.length_append, List.length_append, List.length_map, List.length_map, List.length_take, List.length_drop]
            simp only [List.length_singleton]
            omega
        · have S4042 := S41.trans S42
          have da : DpAll K H42 [v2] [Kd.D a] := .cons (dp_same (S3540.trans S4042) _ _ hv2) .nil
          have dl : Dp K H42 (.ref p36) (.list [Kd.D a]) := .lst (SqL.of (((((S37.trans S38).trans S39).trans S40).trans S4042) _ _ e36)) da
          have d1 : DpAll K H42 ((x35 ++ [.ref p36]) ++ x39) (((as.take r.toNat).map Kd.D ++ [.list [Kd.D a]]) ++ (as.drop (r + 1).toNat).map Kd.D) :=
            dpAll_append (dpAll_append (dp_sameAll (S3540.trans S4042) _ _ d35) (.cons dl .nil)) (dp_sameAll (S40.trans S4042) _ _ d39)
          refine tgL (S4042 _ _ e40) d1 (oks (oks (okm (inT _)) (ok1 ((okd_list (n := 1) (m := 390) (fun d hd => by rw [List.mem_singleton.mp hd]; exact okd_fine fna)).mono (by omega) (by simp)))) (okm (inD _))) ?_
          rw [List.length_append, List.length_append, List.length_map, List.length_map, List.length_take, List.length_drop]
          simp only [List.length_singleton]
          omega
    · rintro _ H17 ⟨q, xs, v3, rfl, S17, e17, few17, all17⟩
      have SH := T0.trans S17
      walk_at "gg"
      refine fun p18 m18 => ?_
      have S18 : Same H17 (upd H17 p18 (.dK [])) := same_new m18
      have e18 : upd H17 p18 (.dK []) p18 = some (.dK []) := upd_same
      generalize upd H17 p18 (.dK []) = H18 at S18 e18 ⊢
      walk_at "gg"
      refine fun p19 m19 => ?_
      refine ⟨upd_same, [(.inl 1, .int 2)], rfl, by simp, ?_⟩
      rw [show mergeK [] [((.inl 1 : Key), V.int 2)] = mtabK [(.inl 1, 2)] from rfl]
      have S19 : Same H18 (upd (upd H18 p19 (.dK [])) p19 (.dK (mtabK [(.inl 1, 2)]))) := fun b o z => by
        have nb : b ≠ p19 := fun q => by
          rw [q, m19] at z
          cases z
        rw [upd_ne nb, upd_ne nb]
        exact z
      have e19 : upd (upd H18 p19 (.dK [])) p19 (.dK (mtabK [(.inl 1, 2)])) p19 = some (.dK (mtabK [(.inl 1, 2)])) := upd_same
      generalize upd (upd H18 p19 (.dK [])) p19 (.dK (mtabK [(.inl 1, 2)])) = H19 at S19 e19 ⊢
      dsimp only
      walk_at "gg"
      refine g_mkT (by walk_at "ln") fun p20 H20 m20 S20 e20 => ?_
      walk_at "gg"
      refine g_mkL (by walk_at "ln") fun p21 H21 m21 S21 e21 => ?_
      walk_at "gg"
      refine g_mkL (by walk_at "ln") fun p22 H22 m22 S22 e22 => ?_
      walk_at "gg"
      refine fun p23 m23 => ?_
      have S23 : Same H22 (upd H22 p23 (.dK [])) := same_new m23
      have e23 : upd H22 p23 (.dK []) p23 = some (.dK []) := upd_same
      generalize upd H22 p23 (.dK []) = H23 at S23 e23 ⊢
      walk_at "gg"
      refine g_mkLX (by walk_at "ln") fun p24 H24 m24 ns24 S24 e24 => ?_
      walk_at "gg"
      refine g_mkT (by walk_at "ln") fun p25 H25 m25 S25 e25 => ?_
      walk_at "gg"
      refine g_mkL (by walk_at "ln") fun p26 H26 m26 S26 e26 => ?_
      walk_at "gg"
      refine g_mkL (by walk_at "ln") fun p27 H27 m27 S27 e27 => ?_
      walk_at "gg"
      refine g_mkT (by walk_at "ln") fun p28 H28 m28 S28 e28 => ?_
      walk_at "gg"
      refine g_mkL (by walk_at "ln") fun p29 H29 m29 S29 e29 => ?_
      walk_at "gg"
      refine g_mkT (by walk_at "ln") fun p30 H30 m30 S30 e30 => ?_
      walk_at "gg"
      refine g_mkL (by walk_at "ln") fun p31 H31 m31 S31 e31 => ?_
      walk_at "gg"
      refine g_mkL (by walk_at "ln") fun p32 H32 m32 S32 e32 => ?_
      have S1732 := ((((((((((((((S18.trans S19).trans S20).trans S21).trans S22).trans S23).trans S24).trans S25).trans S26).trans S27).trans S28).trans S29).trans S30).trans S31).trans S32)
      refine g_cat (S1732 _ _ e17) e32 (by simp; omega) fun p33 H33 m33 S33 e33 => ?_
      have U32 := S33
      have U31 := S32.trans U32
      have U30 := S31.trans U31
      have U29 := S30.trans U30
      have U28 := S29.trans U29
      have U27 := S28.trans U28
      have U26 := S27.trans U27
      have U25 := S26.trans U26
      have U24 := S25.trans U25
      have U23 := S24.trans U24
      have U22 := S23.trans U23
      have U21 := S22.trans U22
      have U20 := S21.trans U21
      have U19 := S20.trans U20
      have U18 := S19.trans U19
      have U17 := S18.trans U18
      refine k p33 _ H33 (same_free (SH.trans S1732) m33) (SH.trans U17) e33 (by simp; omega) fun v hv => ?_
      have o0 : ∀ {d : PyData}, Okd 1 130 d → Okd 4 1000000 d := fun h => h.mono (by omega) (by omega)
      have o1 : ∀ {d : PyData}, Okd 1 130 d → Okd 3 4002 d := fun h => h.mono (by omega) (by omega)
      have os : ∀ x : Str, PyData.strOk x = true → x.length ≤ 100 → Okd 4 1000000 (.str x) := fun x h1 h2 => (okd_str (n := 4) (k := 100) h1 h2).mono (by omega) (by omega)
      rcases List.mem_append.mp hv with hv | hv
      · exact tg_same U17 (all17 v hv)
      · refine all_cons (.dat .non rfl (o0 (okd_fine fine_none))) (all_cons (.dat (.int 0) rfl (o0 (oi 0 (by omega) (by omega)))) (all_cons (.dat (.str _) rfl (os _ (by decide +kernel) (by decide +kernel))) (all_cons (.dat (.str _) rfl (os _ (by decide +kernel) (by decide +kernel)))
          (all_cons (.tab (t := []) (.inl (U18 _ _ e18)) (.inl rfl)) (all_cons (.tab (t := [(.inl 1, 2)]) (.inl (U19 _ _ e19)) (.inr rfl)) (all_cons ?_ (all_cons ?_ (all_cons (.tabs ns24 (U24 _ _ e24) (.inl (U23 _ _ e23))) (all_cons ?_ (all_cons ?_ (all_cons ?_ (all_cons ?_ all_nil)))))))))))) v hv
        · exact .dat (.tup (SqT.of (U20 _ _ e20)) .nil) rfl ((okd_tuple (n := 1) (m := 130) (xs := []) (by intro d hd; cases hd)).mono (by omega) (by simp))
        · exact tgL (U22 _ _ e22) (.cons (.lst (SqL.of (U21 _ _ e21)) .nil) .nil) (ok1 ((okd_list (n := 1) (m := 130) (xs := []) (by intro d hd; cases hd)).mono (by omega) (by simp))) (by simp)
        · exact tgL (U26 _ _ e26) (.cons (.tup (SqT.of (U25 _ _ e25)) .nil) .nil) (ok1 ((okd_tuple (n := 1) (m := 130) (xs := []) (by intro d hd; cases hd)).mono (by omega) (by simp))) (by simp)
        · exact tgL (U27 _ _ e27) (.cons (.bl false) .nil) (ok1 (o1 (ob false))) (by simp)
        · exact tgL (U29 _ _ e29) (.cons (.int 1) (.cons (.tup (SqT.of (U28 _ _ e28)) (.cons (.int 2) (.cons (.int 3) .nil))) .nil)) (oks (ds := [.int 1]) (ok1 (o1 (oi 1 (by omega) (by omega)))) (ok1 ((okd_tuple (n := 1) (m := 130) (by intro d hd; simp at hd; rcases hd with rfl | rfl <;> exact oi _ (by omega) (by omega))).mono (by omega) (by simp)))) (by simp)
        · exact tgL (U31 _ _ e31) (.cons (.tup (SqT.of (U30 _ _ e30)) (.cons (.int 0) (.cons (.int 0) .nil))) (.cons (.int 1) .nil)) (oks (es := [.int 1]) (ok1 ((okd_tuple (n := 1) (m := 130) (by intro d hd; simp at hd; rcases hd with rfl | rfl <;> exact oi _ (by omega) (by omega))).mono (by omega) (by simp))) (ok1 (o1 (oi 1 (by omega) (by omega))))) (by simp)
end
end Gk

namespace Gk
open PySem L2 Gx
open C8 (Cal Met Mak pe_c pe_mt pe_mt0 pe_mk pe_gc)
local macro_rules | `(tactic| walk_at "g") => `(tactic| (first
  | with_reducible refine g_seq ?_ | with_reducible refine g_asg ?_ | ((with_reducible show tVar _ _ _ _); refine g_var rfl ?_) | with_reducible refine g_c ?_ | with_reducible refine g_name ?_ | with_reducible refine g_op ?_ | with_reducible refine g_I0 ?_
  | with_reducible refine g_cons ?_ | with_reducible refine g_nil ?_ | with_reducible refine g_exbl ?_ | with_reducible refine g_exint ?_ | with_reducible refine g_test ?_ | with_reducible refine g_B ?_ | with_reducible refine g_ifS ?_ | with_reducible refine g_ret ?_ | with_reducible refine g_retN ?_ | with_reducible refine g_next ?_
  | with_reducible refine g_CB ?_ | with_reducible refine g_sub ?_ | with_reducible refine g_drop ?_ | with_reducible refine g_not ?_ | with_reducible refine g_and ?_ | with_reducible refine g_or ?_ | with_reducible refine g_andV ?_ | with_reducible refine g_orV ?_ | with_reducible refine g_notV ?_ | with_reducible refine g_ifE ?_ | with_reducible refine g_isN ?_
  | with_reducible refine g_par ?_ | with_reducible refine g_expar ?_ | with_reducible refine g_chain ?_ | with_reducible refine g_un ?_ | with_reducible refine g_U ?_ | with_reducible refine g_bits ?_ | ((with_reducible show rEq _ _ _ _); refine g_eq rfl ?_) | ((with_reducible show rNe _ _ _ _); refine g_ne rfl ?_)
  | with_reducible refine g_for ?_ | with_reducible refine g_iRng1 ?_ | with_reducible refine g_iRng2 ?_ | with_reducible refine g_iList ?_ | with_reducible refine g_iTup ?_
  | ((with_reducible refine g_Imul ?hc ?_); (case hc => (first | (refine Or.inl ⟨?_, ?_⟩ <;> first | decide | omega) | (refine Or.inr ⟨?_, ?_⟩ <;> first | decide | omega))))
  | ((with_reducible refine g_Idiv ?hc ?_); (case hc => (first | (exact ⟨by decide, by decide⟩) | assumption)))
  | ((with_reducible refine g_Imod ?hc ?_); (case hc => (first | assumption | omega | decide)))
  | ((with_reducible refine g_exR1 ?hlo ?hhi ?_); (case hlo => omega); (case hhi => omega))
  | ((with_reducible refine g_exR2 ?hb ?_); (case hb => omega))
  | with_reducible refine g_lst ?_ | with_reducible refine g_tup ?_ | with_reducible refine g_call ?_ | with_reducible refine g_BM ?_ | with_reducible refine g_BM0 ?_
  | with_reducible refine g_intB ?_ | with_reducible refine g_lc ?_ | with_reducible refine g_yes ?_ | with_reducible refine g_iZip ?_ | with_reducible refine g_sl ?_ | with_reducible refine g_noP ?_ | with_reducible refine g_part ?_ | with_reducible refine g_gcons ?_ | with_reducible refine g_gnil ?_
  | with_reducible refine g_tfld ?_ | with_reducible refine g_tmeth ?_ | with_reducible refine g_tmake ?_ | with_reducible refine g_sfld ?_ | with_reducible refine g_tprop ?_ | with_reducible refine g_tstar ?_ | with_reducible refine g_tmethK ?_ | with_reducible refine g_isN1 ?_ | with_reducible refine g_notN1 ?_))
local macro_rules | `(tactic| walk_at "gs1") => `(tactic| (first
  | with_reducible refine g_seq ?_ | with_reducible refine g_asg ?_ | ((with_reducible show tVar _ _ _ _); refine g_var rfl ?_) | with_reducible refine g_c ?_ | with_reducible refine g_name ?_ | with_reducible refine g_op ?_ | with_reducible refine g_I0 ?_
  | with_reducible refine g_cons ?_ | with_reducible refine g_nil ?_ | with_reducible refine g_exbl ?_ | with_reducible refine g_exint ?_ | with_reducible refine g_test ?_ | with_reducible refine g_B ?_ | with_reducible refine g_ifS ?_ | with_reducible refine g_retN ?_ | with_reducible refine g_next ?_
  | with_reducible refine g_CB ?_ | with_reducible refine g_sub ?_ | with_reducible refine g_drop ?_ | with_reducible refine g_not ?_ | with_reducible refine g_and ?_ | with_reducible refine g_or ?_ | with_reducible refine g_andV ?_ | with_reducible refine g_orV ?_ | with_reducible refine g_notV ?_ | with_reducible refine g_ifE ?_ | with_reducible refine g_isN ?_
  | with_reducible refine g_par ?_ | with_reducible refine g_expar ?_ | with_reducible refine g_chain ?_ | with_reducible refine g_un ?_ | with_reducible refine g_U ?_ | with_reducible refine g_bits ?_ | ((with_reducible show rEq _ _ _ _); refine g_eq rfl ?_) | ((with_reducible show rNe _ _ _ _); refine g_ne rfl ?_)
  | with_reducible refine g_for ?_ | with_reducible refine g_iRng1 ?_ | with_reducible refine g_iRng2 ?_ | with_reducible refine g_iList ?_ | with_reducible refine g_iTup ?_
  | ((with_reducible refine g_Imul ?hc ?_); (case hc => (first | (refine Or.inl ⟨?_, ?_⟩ <;> first | decide | omega) | (refine Or.inr ⟨?_, ?_⟩ <;> first | decide | omega))))
  | ((with_reducible refine g_Idiv ?hc ?_); (case hc => (first | (exact ⟨by decide, by decide⟩) | assumption)))
  | ((with_reducible refine g_Imod ?hc ?_); (case hc => (first | assumption | omega | decide)))
  | ((with_reducible refine g_exR1 ?hlo ?hhi ?_); (case hlo => omega); (case hhi => omega))
  | ((with_reducible refine g_exR2 ?hb ?_); (case hb => omega))
  | with_reducible refine g_lst ?_ | with_reducible refine g_tup ?_ | with_reducible refine g_call ?_ | with_reducible refine g_BM ?_ | with_reducible refine g_BM0 ?_
  | with_reducible refine g_intB ?_ | with_reducible refine g_lc ?_ | with_reducible refine g_yes ?_ | with_reducible refine g_iZip ?_ | with_reducible refine g_sl ?_ | with_reducible refine g_noP ?_ | with_reducible refine g_part ?_ | with_reducible refine g_gcons ?_ | with_reducible refine g_gnil ?_
  | with_reducible refine g_tfld ?_ | with_reducible refine g_tmeth ?_ | with_reducible refine g_tmake ?_ | with_reducible refine g_sfld ?_ | with_reducible refine g_tprop ?_ | with_reducible refine g_tstar ?_ | with_reducible refine g_tmethK ?_ | with_reducible refine g_isN1 ?_ | with_reducible refine g_notN1 ?_))
local macro_rules | `(tactic| walk_at "gx1") => `(tactic| (first
  | with_reducible refine g_seq ?_ | with_reducible refine g_asg ?_ | ((with_reducible show tVar _ _ _ _); refine g_var rfl ?_) | with_reducible refine g_c ?_ | with_reducible refine g_name ?_ | with_reducible refine g_op ?_ | with_reducible refine g_I0 ?_
  | with_reducible refine g_cons ?_ | with_reducible refine g_nil ?_ | with_reducible refine g_exbl ?_ | with_reducible refine g_exint ?_ | with_reducible refine g_test ?_ | with_reducible refine g_B ?_ | with_reducible refine g_ifS ?_ | with_reducible refine g_retN ?_ | with_reducible refine g_next ?_
  | with_reducible refine g_CB ?_ | with_reducible refine g_sub ?_ | with_reducible refine g_drop ?_ | with_reducible refine g_not ?_ | with_reducible refine g_and ?_ | with_reducible refine g_or ?_ | with_reducible refine g_andV ?_ | with_reducible refine g_orV ?_ | with_reducible refine g_notV ?_ | with_reducible refine g_ret ?_ | with_reducible refine g_isN ?_
  | with_reducible refine g_par ?_ | with_reducible refine g_expar ?_ | with_reducible refine g_chain ?_ | with_reducible refine g_un ?_ | with_reducible refine g_U ?_ | with_reducible refine g_bits ?_ | ((with_reducible show rEq _ _ _ _); refine g_eq rfl ?_) | ((with_reducible show rNe _ _ _ _); refine g_ne rfl ?_)
  | with_reducible refine g_for ?_ | with_reducible refine g_iRng1 ?_ | with_reducible refine g_iRng2 ?_ | with_reducible refine g_iList ?_ | with_reducible refine g_iTup ?_
  | ((with_reducible refine g_Imul ?hc ?_); (case hc => (first | (refine Or.inl ⟨?_, ?_⟩ <;> first | decide | omega) | (refine Or.inr ⟨?_, ?_⟩ <;> first | decide | omega))))
  | ((with_reducible refine g_Idiv ?hc ?_); (case hc => (first | (exact ⟨by decide, by decide⟩) | assumption)))
  | ((with_reducible refine g_Imod ?hc ?_); (case hc => (first | assumption | omega | decide)))
  | ((with_reducible refine g_exR1 ?hlo ?hhi ?_); (case hlo => omega); (case hhi => omega))
  | ((with_reducible refine g_exR2 ?hb ?_); (case hb => omega))
  | with_reducible refine g_lst ?_ | with_reducible refine g_tup ?_ | with_reducible refine g_call ?_ | with_reducible refine g_BM ?_ | with_reducible refine g_BM0 ?_
  | with_reducible refine g_intB ?_ | with_reducible refine g_lc ?_ | with_reducible refine g_yes ?_ | with_reducible refine g_iZip ?_ | with_reducible refine g_sl ?_ | with_reducible refine g_noP ?_ | with_reducible refine g_part ?_ | with_reducible refine g_gcons ?_ | with_reducible refine g_gnil ?_
  | with_reducible refine g_tfld ?_ | with_reducible refine g_tmeth ?_ | with_reducible refine g_tmake ?_ | with_reducible refine g_sfld ?_ | with_reducible refine g_tprop ?_ | with_reducible refine g_tstar ?_ | with_reducible refine g_tmethK ?_ | with_reducible refine g_isN1 ?_ | with_reducible refine g_notN1 ?_))
local macro_rules | `(tactic| walk_at "hp") => `(tactic| (first | assumption | exact upd_same | (refine same_get (by assumption) ?_; walk_at "hp")))
local macro_rules | `(tactic| walk_at "sm") => `(tactic| (first | assumption | exact Same.refl _ | (refine Same.trans ?ha (by assumption); walk_at "sm")))
local macro_rules | `(tactic| walk_at "nn") => `(tactic| (first | assumption | (refine same_free (by assumption) ?_; walk_at "nn")))
local macro_rules | `(tactic| walk_at "sb") => `(tactic| (first | decide | (refine small_bits ?_ ?_ <;> omega)))
local macro_rules | `(tactic| walk_at "ln") => `(tactic| (simp only [List.length_cons, List.length_nil]; omega))
local macro_rules | `(tactic| walk_at "gg") => `(tactic| (repeat walk_at "g"))
local macro_rules | `(tactic| walk_at "gs") => `(tactic| (repeat walk_at "gs1"))
local macro_rules | `(tactic| walk_at "gx") => `(tactic| (repeat walk_at "gx1"))

section
variable {P : Program} {w : World} {K : PySem.W.Frag} {mg : Str → Option Value} {base : Heap} {X : Cx}
/-- ascending ints of at most sixty digits, at most as many as asked -/
def spSpots : Sp := fun vs H Q _ => ∃ (f : Addr) (most : Int), vs = [.ref f, .int most] ∧ H f = some (FlowO f) ∧ 0 ≤ most ∧ most ≤ 1000 ∧
  ∀ (ns : List Int) (p : Addr) (H' : Hp), (ns.length : Int) ≤ most → ns.Pairwise (· < ·) → (∀ n ∈ ns, -20000000000000000000000000000000000000000000000000000000000 ≤ n ∧ n ≤ 20000000000000000000000000000000000000000000000000000000000) → H p = none → Same H H' → H' p = some (.lst (ns.map V.int)) → Q (.ref p) H'
abbrev s_spots : Stmt := top 14
abbrev N_spots : List Str := ["_law_flow_here", "_law_most", "_law_many", "_law_here", "_law_wide", "_law_found", "_law_turn"]
theorem sc_spots : FnScope N_spots ["_law_flow_here", "_law_most"] (defScope s_spots) := ⟨rfl, rfl, rfl, by decide +kernel, rfl, by decide +kernel, by decide +kernel⟩

theorem ok_spots {f : Addr} {fd : FuncData} (D : Dn K mg "_law_spots" s_spots ["_law_flow_here", "_law_most"] f fd) (T : Bt mg) (c__law_dip : Cal P w K mg base 1 "_law_dip" spDip []) : Cal P w K mg base 2 "_law_spots" spSpots [] := by
  refine cal_of D (D.fn.ok sc_spots (fun vs H Q E h => ?_) (fun cdv A outer s H vs Q E hr h => ?_))
  · obtain ⟨f, m, rfl, _⟩ := h
    rfl
  · obtain ⟨f, m, rfl, hf, h0, h1, k⟩ := h
    refine ⟨_, (pss_cons (ps_set (i := 2) sc_spots.nd rfl (Or.inl rfl) (pe_ix ix_list (pe_lst (pa_cons (pe_c c__law_dip hr (by decide) (by rfl) (pa_cons (pv 0) (pa_cons (pe_op op_add (pv 1) pe_int) pa_nil))) (pa_cons (pv 1) (pa_cons (pe_c c__law_dip hr (by decide) (by rfl) (pa_cons (pv 0) (pa_cons (pe_callB (cr_minQ rfl) (by rfl) T.n_min bt_min (pa_cons pe_int (pa_cons (pe_op op_add (pv 1) pe_int) pa_nil))) pa_nil))) pa_nil)))) (pe_c c__law_dip hr (by decide) (by rfl) (pa_cons (pv 0) (pa_cons pe_int pa_nil))) (fun _ _ => rfl)))
    (pss_cons (ps_set (i := 3) sc_spots.nd rfl (Or.inl rfl) (pe_ix ix_list (pe_lst (pa_cons pe_int (pa_cons (pe_op op_sub pe_int (pe_c c__law_dip hr (by decide) (by rfl) (pa_cons (pv 0) (pa_cons pe_int pa_nil)))) (pa_cons (pe_op op_sub (pe_c c__law_dip hr (by decide) (by rfl) (pa_cons (pv 0) (pa_cons (pe_op op_pow pe_int pe_int) pa_nil))) (pe_op op_mul pe_int (pe_op op_pow pe_int pe_int))) pa_nil)))) (pe_c c__law_dip hr (by decide) (by rfl) (pa_cons (pv 0) (pa_cons pe_int pa_nil))) (fun _ _ => rfl)))
    (pss_cons (ps_set (i := 4) sc_spots.nd rfl (Or.inl rfl) (pe_ix ix_list (pe_lst (pa_cons pe_int (pa_cons pe_int (pa_cons pe_int (pa_cons (pe_op op_pow pe_int pe_int) pa_nil))))) (pe_c c__law_dip hr (by decide) (by rfl) (pa_cons (pv 0) (pa_cons pe_int pa_nil))) (fun _ _ => rfl)))
    (pss_cons (ps_set (i := 5) sc_spots.nd rfl (Or.inl rfl) (pe_lst pa_nil))
    (pss_cons (ps_for PassesOwn.never rfl (pi_range1 (by rfl) T.n_range (pa_cons (pv 2) pa_nil)) (pg_name (i := 6) sc_spots.nd rfl (Or.inl rfl)) (pss_cons (ps_set (i := 3) sc_spots.nd rfl (Or.inl rfl) (pe_op op_add (pe_op op_add (pv 3) pe_int) (pe_c c__law_dip hr (by decide) (by rfl) (pa_cons (pv 0) (pa_cons (pv 4) pa_nil)))))
    (pss_one (ps_expr (pe_bm PySem.F.plainAttrs_list PySem.F.slot_list_append PySem.F.type_list_append mt_append (pv 5) (pa_cons (pv 3) pa_nil))))))
    (pss_one (ps_ret (pv 5)))))))), ?_⟩
    walk_at "gg"
    refine g_dip (by walk_at "hp") (by omega) (by walk_at "sb") fun r1 H1 a1 b1 S1 => ?_
    walk_at "gg"
    refine g_min2 fun c1 c2 c3 c4 => ?_
    walk_at "gg"
    refine g_dip (by walk_at "hp") (by omega) (by walk_at "sb") fun r2 H2 a2 b2 S2 => ?_
    walk_at "gg"
    refine g_mkL (by walk_at "ln") fun p3 H3 n3 S3 e3 => ?_
    walk_at "gg"
    refine g_dip (by walk_at "hp") (by omega) (by walk_at "sb") fun r4 H4 a4 b4 S4 => ?_
    refine g_ixI (fun n => 0 ≤ n ∧ n ≤ m) (S4 _ _ e3) a4 b4 (all_cons ⟨_, rfl, by omega⟩ (all_cons ⟨_, rfl, by omega⟩ (all_cons ⟨_, rfl, by omega⟩ all_nil))) fun many ⟨m1, m2⟩ => ?_
    walk_at "gg"
    -- the first number
    refine g_dip (by walk_at "hp") (by omega) (by walk_at "sb") fun r5 H5 a5 b5 S5 => ?_
    walk_at "gg"
    refine g_pow (c := 10000000000000000000000000000000000000000000000000000000000) ⟨by decide, by decide, by decide⟩ (by decide) ?_
    walk_at "gg"
    refine g_dip (by walk_at "hp") (by omega) (by walk_at "sb") fun r6 H6 a6 b6 S6 => ?_
    walk_at "gg"
    refine g_pow (c := 1000000000000000000000000000000000000000000000000000000000) ⟨by decide, by decide, by decide⟩ (by decide) ?_
    walk_at "gg"
    refine g_mkL (by walk_at "ln") fun p7 H7 n7 S7 e7 => ?_
    walk_at "gg"
    refine g_dip (by walk_at "hp") (by omega) (by walk_at "sb") fun r8 H8 a8 b8 S8 => ?_
    refine g_ixI (fun n => -10000000000000000000000000000000000000000000000000000000000 ≤ n ∧ n ≤ 10000000000000000000000000000000000000000000000000000000000) (S8 _ _ e7) a8 b8 (all_cons ⟨_, rfl, by omega⟩ (all_cons ⟨_, rfl, by omega⟩ (all_cons ⟨_, rfl, by omega⟩ all_nil))) fun here ⟨h1, h2⟩ => ?_
    walk_at "gg"
    -- how far apart
    refine g_pow (c := 10000000000000000000000000000000000000000000000000000000) ⟨by decide, by decide, by decide⟩ (by decide) ?_
    walk_at "gg"
    refine g_mkL (by walk_at "ln") fun p9 H9 n9 S9 e9 => ?_
    walk_at "gg"
    refine g_dip (by walk_at "hp") (by omega) (by walk_at "sb") fun r10 H10 a10 b10 S10 => ?_
    refine g_ixI (fun n => 1 ≤ n ∧ n ≤ 10000000000000000000000000000000000000000000000000000000) (S10 _ _ e9) a10 b10 (all_cons ⟨_, rfl, by omega⟩ (all_cons ⟨_, rfl, by omega⟩ (all_cons ⟨_, rfl, by omega⟩ (all_cons ⟨_, rfl, by omega⟩ all_nil)))) fun wide ⟨w1, w2⟩ => ?_
    walk_at "gg"
    refine g_mkL (by walk_at "ln") fun p H11 np S11 e11 => ?_
    walk_at "gg"
    have SH : Same H H10 := by walk_at "sm"
    have hf10 := SH _ _ hf
    refine fw_range (fun i σ H' => ∃ (hr : Int) (ns : List Int) (v : Option V), σ = [some (.ref f), some (.int m), some (.int many), some (.int hr), some (.int wide), some (.ref p), v] ∧ Same H10 H' ∧ H' p = some (.lst (ns.map V.int)) ∧
        ns.length = i ∧ ns.Pairwise (· < ·) ∧ (∀ n ∈ ns, -10000000000000000000000000000000000000000000000000000000000 ≤ n ∧ n ≤ hr) ∧ -10000000000000000000000000000000000000000000000000000000000 ≤ hr ∧ hr ≤ 10000000000000000000000000000000000000000000000000000000000 + i * 10000000000000000000000000000000000000000000000000000000)
      ⟨here, [], none, rfl, S11, e11, rfl, .nil, (fun n hn => nomatch hn), h1, by omega⟩ ?_ ?_
    · rintro i σ H' hi ⟨hr, ns, v, rfl, S, e, hl, pw, bd, b1, b2⟩
      walk_at "gg"
      refine g_dip (S _ _ hf10) (by omega) (by walk_at "sb") fun r H2 a b S2 => ?_
      walk_at "gg"
      refine g_tyL (S2 _ _ e) ?_
      walk_at "gg"
      refine g_app (S.trans S2) np (S2 _ _ e) (by rw [List.length_map]; omega) fun H3 S3 e3 => ?_
      walk_at "gg"
      refine ⟨hr + 1 + r, ns ++ [hr + 1 + r], _, rfl, S3, by rw [e3, List.map_append]; rfl, by rw [List.length_append, hl]; rfl, ?_, ?_, by omega, by omega⟩
      · refine List.pairwise_append.mpr ⟨pw, List.pairwise_singleton _ _, fun x hx y hy => ?_⟩
        rw [List.mem_singleton.mp hy]
        have := (bd x hx).2
        omega
      · intro n hn
        rcases List.mem_append.mp hn with hn | hn
        · have := bd n hn
          omega
        · rw [List.mem_singleton.mp hn]
          omega
    · rintro σ H' ⟨hr, ns, v, rfl, S, e, hl, pw, bd, b1, b2⟩
      walk_at "gg"
      refine k ns p H' (by omega) pw (fun n hn => ?_) (same_free SH np) (SH.trans S) e
      have := bd n hn
      omega
end
end Gk

set_option maxHeartbeats 1000000
namespace Gk
open PySem L2 Gx
open C8 (Cal Met Mak pe_c pe_mt pe_mt0 pe_mk pe_gc)
local macro_rules | `(tactic| walk_at "g") => `(tactic| (first
  | with_reducible refine g_seq ?_ | with_reducible refine g_asg ?_ | ((with_reducible show tVar _ _ _ _); refine g_var rfl ?_) | with_reducible refine g_c ?_ | with_reducible refine g_name ?_ | with_reducible refine g_op ?_ | with_reducible refine g_I0 ?_
  | with_reducible refine g_cons ?_ | with_reducible refine g_nil ?_ | with_reducible refine g_exbl ?_ | with_reducible refine g_exint ?_ | with_reducible refine g_test ?_ | with_reducible refine g_B ?_ | with_reducible refine g_ifS ?_ | with_reducible refine g_ret ?_ | with_reducible refine g_retN ?_ | with_reducible refine g_next ?_
  | with_reducible refine g_CB ?_ | with_reducible refine g_sub ?_ | with_reducible refine g_drop ?_ | with_reducible refine g_not ?_ | with_reducible refine g_and ?_ | with_reducible refine g_or ?_ | with_reducible refine g_andV ?_ | with_reducible refine g_orV ?_ | with_reducible refine g_notV ?_ | with_reducible refine g_ifE ?_ | with_reducible refine g_isN ?_
  | with_reducible refine g_par ?_ | with_reducible refine g_expar ?_ | with_reducible refine g_chain ?_ | with_reducible refine g_un ?_ | with_reducible refine g_U ?_ | with_reducible refine g_bits ?_ | ((with_reducible show rEq _ _ _ _); refine g_eq rfl ?_) | ((with_reducible show rNe _ _ _ _); refine g_ne rfl ?_)
  | with_reducible refine g_for ?_ | with_reducible refine g_iRng1 ?_ | with_reducible refine g_iRng2 ?_ | with_reducible refine g_iList ?_ | with_reducible refine g_iTup ?_
  | ((with_reducible refine g_Imul ?hc ?_); (case hc => (first | (refine Or.inl ⟨?_, ?_⟩ <;> first | decide | omega) | (refine Or.inr ⟨?_, ?_⟩ <;> first | decide | omega))))
  | ((with_reducible refine g_Idiv ?hc ?_); (case hc => (first | (exact ⟨by decide, by decide⟩) | assumption)))
  | ((with_reducible refine g_Imod ?hc ?_); (case hc => (first | assumption | omega | decide)))
  | ((with_reducible refine g_exR1 ?hlo ?hhi ?_); (case hlo => omega); (case hhi => omega))
  | ((with_reducible refine g_exR2 ?hb ?_); (case hb => omega))
  | with_reducible refine g_lst ?_ | with_reducible refine g_tup ?_ | with_reducible refine g_call ?_ | with_reducible refine g_BM ?_ | with_reducible refine g_BM0 ?_
  | with_reducible refine g_intB ?_ | with_reducible refine g_lc ?_ | with_reducible refine g_yes ?_ | with_reducible refine g_iZip ?_ | with_reducible refine g_sl ?_ | with_reducible refine g_noP ?_ | with_reducible refine g_part ?_ | with_reducible refine g_gcons ?_ | with_reducible refine g_gnil ?_
  | with_reducible refine g_tfld ?_ | with_reducible refine g_tmeth ?_ | with_reducible refine g_tmake ?_ | with_reducible refine g_sfld ?_ | with_reducible refine g_tprop ?_ | with_reducible refine g_tstar ?_ | with_reducible refine g_tmethK ?_ | with_reducible refine g_isN1 ?_ | with_reducible refine g_notN1 ?_))
local macro_rules | `(tactic| walk_at "gs1") => `(tactic| (first
  | with_reducible refine g_seq ?_ | with_reducible refine g_asg ?_ | ((with_reducible show tVar _ _ _ _); refine g_var rfl ?_) | with_reducible refine g_c ?_ | with_reducible refine g_name ?_ | with_reducible refine g_op ?_ | with_reducible refine g_I0 ?_
  | with_reducible refine g_cons ?_ | with_reducible refine g_nil ?_ | with_reducible refine g_exbl ?_ | with_reducible refine g_exint ?_ | with_reducible refine g_test ?_ | with_reducible refine g_B ?_ | with_reducible refine g_ifS ?_ | with_reducible refine g_retN ?_ | with_reducible refine g_next ?_
  | with_reducible refine g_CB ?_ | with_reducible refine g_sub ?_ | with_reducible refine g_drop ?_ | with_reducible refine g_not ?_ | with_reducible refine g_and ?_ | with_reducible refine g_or ?_ | with_reducible refine g_andV ?_ | with_reducible refine g_orV ?_ | with_reducible refine g_notV ?_ | with_reducible refine g_ifE ?_ | with_reducible refine g_isN ?_
  | with_reducible refine g_par ?_ | with_reducible refine g_expar ?_ | with_reducible refine g_chain ?_ | with_reducible refine g_un ?_ | with_reducible refine g_U ?_ | with_reducible refine g_bits ?_ | ((with_reducible show rEq _ _ _ _); refine g_eq rfl ?_) | ((with_reducible show rNe _ _ _ _); refine g_ne rfl ?_)
  | with_reducible refine g_for ?_ | with_reducible refine g_iRng1 ?_ | with_reducible refine g_iRng2 ?_ | with_reducible refine g_iList ?_ | with_reducible refine g_iTup ?_
  | ((with_reducible refine g_Imul ?hc ?_); (case hc => (first | (refine Or.inl ⟨?_, ?_⟩ <;> first | decide | omega) | (refine Or.inr ⟨?_, ?_⟩ <;> first | decide | omega))))
  | ((with_reducible refine g_Idiv ?hc ?_); (case hc => (first | (exact ⟨by decide, by decide⟩) | assumption)))
  | ((with_reducible refine g_Imod ?hc ?_); (case hc => (first | assumption | omega | decide)))
  | ((with_reducible refine g_exR1 ?hlo ?hhi ?_); (case hlo => omega); (case hhi => omega))
  | ((with_reducible refine g_exR2 ?hb ?_); (case hb => omega))
  | with_reducible refine g_lst ?_ | with_reducible refine g_tup ?_ | with_reducible refine g_call ?_ | with_reducible refine g_BM ?_ | with_reducible refine g_BM0 ?_
  | with_reducible refine g_intB ?_ | with_reducible refine g_lc ?_ | with_reducible refine g_yes ?_ | with_reducible refine g_iZip ?_ | with_reducible refine g_sl ?_ | with_reducible refine g_noP ?_ | with_reducible refine g_part ?_ | with_reducible refine g_gcons ?_ | with_reducible refine g_gnil ?_
  | with_reducible refine g_tfld ?_ | with_reducible refine g_tmeth ?_ | with_reducible refine g_tmake ?_ | with_reducible refine g_sfld ?_ | with_reducible refine g_tprop ?_ | with_reducible refine g_tstar ?_ | with_reducible refine g_tmethK ?_ | with_reducible refine g_isN1 ?_ | with_reducible refine g_notN1 ?_))
local macro_rules | `(tactic| walk_at "gx1") => `(tactic| (first
  | with_reducible refine g_seq ?_ | with_reducible refine g_asg ?_ | ((with_reducible show tVar _ _ _ _); refine g_var rfl ?_) | with_reducible refine g_c ?_ | with_reducible refine g_name ?_ | with_reducible refine g_op ?_ | with_reducible refine g_I0 ?_
  | with_reducible refine g_cons ?_ | with_reducible refine g_nil ?_ | with_reducible refine g_exbl ?_ | with_reducible refine g_exint ?_ | with_reducible refine g_test ?_ | with_reducible refine g_B ?_ | with_reducible refine g_ifS ?_ | with_reducible refine g_retN ?_ | with_reducible refine g_next ?_
  | with_reducible refine g_CB ?_ | with_reducible refine g_sub ?_ | with_reducible refine g_drop ?_ | with_reducible refine g_not ?_ | with_reducible refine g_and ?_ | with_reducible refine g_or ?_ | with_reducible refine g_andV ?_ | with_reducible refine g_orV ?_ | with_reducible refine g_notV ?_ | with_reducible refine g_ret ?_ | with_reducible refine g_isN ?_
  | with_reducible refine g_par ?_ | with_reducible refine g_expar ?_ | with_reducible refine g_chain ?_ | with_reducible refine g_un ?_ | with_reducible refine g_U ?_ | with_reducible refine g_bits ?_ | ((with_reducible show rEq _ _ _ _); refine g_eq rfl ?_) | ((with_reducible show rNe _ _ _ _); refine g_ne rfl ?_)
  | with_reducible refine g_for ?_ | with_reducible refine g_iRng1 ?_ | with_reducible refine g_iRng2 ?_ | with_reducible refine g_iList ?_ | with_reducible refine g_iTup ?_
  | ((with_reducible refine g_Imul ?hc ?_); (case hc => (first | (refine Or.inl ⟨?_, ?_⟩ <;> first | decide | omega) | (refine Or.inr ⟨?_, ?_⟩ <;> first | decide | omega))))
  | ((with_reducible refine g_Idiv ?hc ?_); (case hc => (first | (exact ⟨by decide, by decide⟩) | assumption)))
  | ((with_reducible refine g_Imod ?hc ?_); (case hc => (first | assumption | omega | decide)))
  | ((with_reducible refine g_exR1 ?hlo ?hhi ?_); (case hlo => omega); (case hhi => omega))
  | ((with_reducible refine g_exR2 ?hb ?_); (case hb => omega))
  | with_reducible refine g_lst ?_ | with_reducible refine g_tup ?_ | with_reducible refine g_call ?_ | with_reducible refine g_BM ?_ | with_reducible refine g_BM0 ?_
  | with_reducible refine g_intB ?_ | with_reducible refine g_lc ?_ | with_reducible refine g_yes ?_ | with_reducible refine g_iZip ?_ | with_reducible refine g_sl ?_ | with_reducible refine g_noP ?_ | with_reducible refine g_part ?_ | with_reducible refine g_gcons ?_ | with_reducible refine g_gnil ?_
  | with_reducible refine g_tfld ?_ | with_reducible refine g_tmeth ?_ | with_reducible refine g_tmake ?_ | with_reducible refine g_sfld ?_ | with_reducible refine g_tprop ?_ | with_reducible refine g_tstar ?_ | with_reducible refine g_tmethK ?_ | with_reducible refine g_isN1 ?_ | with_reducible refine g_notN1 ?_))
local macro_rules | `(tactic| walk_at "hp") => `(tactic| (first | assumption | exact upd_same | (refine same_get (by assumption) ?_; walk_at "hp")))
local macro_rules | `(tactic| walk_at "sm") => `(tactic| (first | assumption | exact Same.refl _ | (refine Same.trans ?ha (by assumption); walk_at "sm")))
local macro_rules | `(tactic| walk_at "nn") => `(tactic| (first | assumption | (refine same_free (by assumption) ?_; walk_at "nn")))
local macro_rules | `(tactic| walk_at "sb") => `(tactic| (first | decide | (refine small_bits ?_ ?_ <;> omega)))
local macro_rules | `(tactic| walk_at "ln") => `(tactic| (simp only [List.length_cons, List.length_nil]; omega))
local macro_rules | `(tactic| walk_at "gg") => `(tactic| (repeat walk_at "g"))
local macro_rules | `(tactic| walk_at "gs") => `(tactic| (repeat walk_at "gs1"))
local macro_rules | `(tactic| walk_at "gx") => `(tactic| (repeat walk_at "gx1"))

section
variable {P : Program} {w : World} {K : PySem.W.Frag} {mg : Str → Option Value} {base : Heap} {X : Cx}
/-- of numbers of at most 60 digits or so -/
def Sml (n : Int) : Prop := -2000000000000000000000000000000000000000000000000000000000000 ≤ n ∧ n ≤ 2000000000000000000000000000000000000000000000000000000000000
def SmlP (p : Pr) : Prop := Sml p.1 ∧ Sml p.2
theorem fine_pr {p : Pr} (h : SmlP p) : Fine 1 3 (Kd.D p) := by
  obtain ⟨⟨a, b⟩, ⟨c, d⟩⟩ := h
  refine fine_tuple (n := 0) (m := 1) (xs := [.int p.1, .int p.2]) fun x hx => ?_
  rcases List.mem_cons.mp hx with z | hx
  · rw [z]
    exact fine_int (by omega) (by omega)
  · rw [List.mem_singleton.mp hx]
    exact fine_int (by omega) (by omega)
theorem fine_in {n : Int} (h : Sml n) : Fine 1 3 (Kd.D n) := by
  obtain ⟨a, b⟩ := h
  exact (fine_int (n := 0) (by omega) (by omega)).mono (by omega) (by omega)
/-- ascending pairs, at most as many as asked -/
def spPairs (K : PySem.W.Frag) : Sp := fun vs H Q _ => ∃ (f : Addr) (most : Int), vs = [.ref f, .int most] ∧ H f = some (FlowO f) ∧ 0 ≤ most ∧ most ≤ 1000 ∧
  ∀ (as : List Pr) (p : Addr) (H' : Hp), (as.length : Int) ≤ most → Up as → (∀ a ∈ as, -10000000000000000000000000000000000000000000000000000000000 ≤ a.1 ∧ a.1 ≤ 10000000000000000000000000000000000000000000000000000000000 ∧ -10000000000000000000000000000000000000000000000000000000000 ≤ a.2 ∧ a.2 ≤ 10000000000000000000000000000000000000000000000000000000000) → H p = none → Same H H' → PtsL K H' p as → Q (.ref p) H'
abbrev s_pairs : Stmt := top 15
abbrev N_pairs : List Str := ["_law_flow_here", "_law_most", "_law_far", "_law_found", "_law_turn", "_law_first"]
theorem sc_pairs : FnScope N_pairs ["_law_flow_here", "_law_most"] (defScope s_pairs) := ⟨rfl, rfl, rfl, by decide +kernel, rfl, by decide +kernel, by decide +kernel⟩

theorem ok_pairs {f : Addr} {fd : FuncData} (D : Dn K mg "_law_pairs" s_pairs ["_law_flow_here", "_law_most"] f fd) (T : Bt mg) (c__law_dip : Cal P w K mg base 1 "_law_dip" spDip []) : Cal P w K mg base 2 "_law_pairs" (spPairs K) [] := by
  refine cal_of D (D.fn.ok sc_pairs (fun vs H Q E h => ?_) (fun cdv A outer s H vs Q E hr h => ?_))
  · obtain ⟨f, m, rfl, _⟩ := h
    rfl
  · obtain ⟨f, m, rfl, hf, h0, h1, k⟩ := h
    refine ⟨_, (pss_cons (ps_set (i := 2) sc_pairs.nd rfl (Or.inl rfl) (pe_ix ix_list (pe_lst (pa_cons pe_int (pa_cons pe_int (pa_cons (pe_op op_pow pe_int pe_int) pa_nil)))) (pe_c c__law_dip hr (by decide) (by rfl) (pa_cons (pv 0) (pa_cons pe_int pa_nil))) (fun _ _ => rfl)))
    (pss_cons (ps_set (i := 3) sc_pairs.nd rfl (Or.inl rfl) (pe_lst pa_nil))
    (pss_cons (ps_for PassesOwn.never rfl (pi_range1 (by rfl) T.n_range (pa_cons (pe_ix ix_list (pe_lst (pa_cons (pe_c c__law_dip hr (by decide) (by rfl) (pa_cons (pv 0) (pa_cons (pe_op op_add (pv 1) pe_int) pa_nil))) (pa_cons (pv 1) pa_nil))) (pe_c c__law_dip hr (by decide) (by rfl) (pa_cons (pv 0) (pa_cons pe_int pa_nil))) (fun _ _ => rfl)) pa_nil)) (pg_name (i := 4) sc_pairs.nd rfl (Or.inl rfl)) (pss_cons (ps_set (i := 5) sc_pairs.nd rfl (Or.inl rfl) (pe_op op_sub (pe_c c__law_dip hr (by decide) (by rfl) (pa_cons (pv 0) (pa_cons (pv 2) pa_nil))) (pe_op op_fdiv (pv 2) pe_int)))
    (pss_one (ps_expr (pe_bm PySem.F.plainAttrs_list PySem.F.slot_list_append PySem.F.type_list_append mt_append (pv 3) (pa_cons (pe_tup (pa_cons (pv 5) (pa_cons (pe_ix ix_list (pe_lst (pa_cons (pe_op op_sub (pe_c c__law_dip hr (by decide) (by rfl) (pa_cons (pv 0) (pa_cons pe_int pa_nil))) pe_int) (pa_cons (pe_c c__law_dip hr (by decide) (by rfl) (pa_cons (pv 0) (pa_cons (pv 2) pa_nil))) pa_nil))) (pe_c c__law_dip hr (by decide) (by rfl) (pa_cons (pv 0) (pa_cons pe_int pa_nil))) (fun _ _ => rfl)) pa_nil))) pa_nil))))))
    (pss_one (ps_ret (pe_callB (cr_sortAny rfl) (by rfl) T.n_sorted bt_sorted (pa_cons (pe_callTy (cr_setAny rfl hr) (by rfl) T.n_set bt_set (pa_cons (pv 3) pa_nil)) pa_nil))))))), ?_⟩
    walk_at "gg"
    refine g_pow (c := 10000000000000000000000000000000000000000000000000000000000) ⟨by decide, by decide, by decide⟩ (by decide) ?_
    walk_at "gg"
    refine g_mkL (by walk_at "ln") fun p1 H1 n1 S1 e1 => ?_
    walk_at "gg"
    refine g_dip (by walk_at "hp") (by omega) (by walk_at "sb") fun r2 H2 a2 b2 S2 => ?_
    refine g_ixI (fun n => 1 ≤ n ∧ n ≤ 10000000000000000000000000000000000000000000000000000000000) (S2 _ _ e1) a2 b2 (all_cons ⟨_, rfl, by omega⟩ (all_cons ⟨_, rfl, by omega⟩ (all_cons ⟨_, rfl, by omega⟩ all_nil))) fun far ⟨f1, f2⟩ => ?_
    walk_at "gg"
    refine g_mkL (by walk_at "ln") fun p H3 np S3 e3 => ?_
    have S13 : Same H H3 := by walk_at "sm"
    have n0 : H p = none := same_free (S1.trans S2) np
    walk_at "gg"
    refine g_dip (by walk_at "hp") (by omega) (by walk_at "sb") fun r4 H4 a4 b4 S4 => ?_
    walk_at "gg"
    refine g_mkL (by walk_at "ln") fun p5 H5 n5 S5 e5 => ?_
    walk_at "gg"
    refine g_dip (by walk_at "hp") (by omega) (by walk_at "sb") fun r6 H6 a6 b6 S6 => ?_
    refine g_ixI (fun n => 0 ≤ n ∧ n ≤ m) (S6 _ _ e5) a6 b6 (all_cons ⟨_, rfl, by omega⟩ (all_cons ⟨_, rfl, by omega⟩ all_nil)) fun many ⟨m1, m2⟩ => ?_
    walk_at "gg"
    have S36 : Same H3 H6 := (S4.trans S5).trans S6
    have SH : Same H H6 := S13.trans S36
    refine fw_range (fun i σ H' => ∃ (xs : List V) (as : List Pr) (v4 v5 : Option V), σ = [some (.ref f), some (.int m), some (.int far), some (.ref p), v4, v5] ∧ Same H H' ∧ H' p = some (.lst xs) ∧ DpAll K H' xs (as.map Kd.D) ∧ as.length = i ∧
        (∀ a ∈ as, -10000000000000000000000000000000000000000000000000000000000 ≤ a.1 ∧ a.1 ≤ 10000000000000000000000000000000000000000000000000000000000 ∧ -10000000000000000000000000000000000000000000000000000000000 ≤ a.2 ∧ a.2 ≤ 10000000000000000000000000000000000000000000000000000000000))
      ⟨[], [], none, none, rfl, SH, S36 _ _ e3, .nil, rfl, (fun a ha => by cases ha)⟩ ?_ ?_
    · rintro i σ H' hi ⟨xs, as, v4, v5, rfl, S, e, d, hl, bd⟩
      have len := pts_len d
      walk_at "gg"
      refine g_dip (S _ _ hf) (by omega) (by walk_at "sb") fun r7 H7 a7 b7 S7 => ?_
      walk_at "gg"
      refine g_I (C := CDiv) ⟨by decide, by decide⟩ ?_
      walk_at "gg"
      refine g_tyL (S7 _ _ e) ?_
      walk_at "gg"
      refine g_dip (S7 _ _ (S _ _ hf)) (by omega) (by walk_at "sb") fun r8 H8 a8 b8 S8 => ?_
      walk_at "gg"
      refine g_dip (S8 _ _ (S7 _ _ (S _ _ hf))) (by omega) (by walk_at "sb") fun r9 H9 a9 b9 S9 => ?_
      walk_at "gg"
      refine g_mkL (by walk_at "ln") fun p10 H10 n10 S10 e10 => ?_
      walk_at "gg"
      have S79 := (S7.trans S8).trans S9
      refine g_dip (S10 _ _ (S79 _ _ (S _ _ hf))) (by omega) (by walk_at "sb") fun r11 H11 a11 b11 S11 => ?_
      refine g_ixI (fun n => -4 ≤ n ∧ n ≤ 10000000000000000000000000000000000000000000000000000000000) (S11 _ _ e10) a11 b11 (all_cons ⟨_, rfl, by omega⟩ (all_cons ⟨_, rfl, by omega⟩ all_nil)) fun two ⟨t1, t2⟩ => ?_
      walk_at "gg"
      refine g_mkT (by walk_at "ln") fun p12 H12 n12 S12 e12 => ?_
      have SX := ((S79.trans S10).trans S11).trans S12
      walk_at "gg"
      have e12p := SX _ _ e
      refine g_appB e12p (by omega) fun H13 B13 e13 => ?_
      have S13 : Same H H13 := same_but (S.trans SX) n0 B13
      walk_at "gg"
      refine ⟨xs ++ [.ref p12], as ++ [(r7 - far / 2, two)], _, _, rfl, S13, e13, ?_, by rw [List.length_append, hl]; rfl, ?_⟩
      · rw [List.map_append]
        refine dp_butAll e12p B13 _ _ ?_ (dpAll_append (dp_sameAll SX _ _ d) (.cons (pr_of (p := (r7 - far / 2, two)) (SqT.of e12)) .nil))
        rw [← List.map_append]
        exact kd_nols _
      · intro a ha
        rcases List.mem_append.mp ha with z | z
        · exact bd a z
        · rw [List.mem_singleton.mp z]
          have q1 : 0 ≤ far / 2 := by omega
          have q2 : far / 2 ≤ far := by omega
          exact ⟨by show _ ≤ r7 - far / 2; omega, by show r7 - far / 2 ≤ _; omega, by show _ ≤ two; omega, by show two ≤ _; omega⟩
    · rintro σ H' ⟨xs, as, v4, v5, rfl, S, e, d, hl, bd⟩
      walk_at "gg"
      refine Sk.mkS ⟨xs, e, d⟩ (by omega) fun a H14 n14 S14 set => ?_
      walk_at "gg"
      refine Sk.srt set fun bs q H15 up mem le n15 S15 l15 => ?_
      exact k bs q H15 (by omega) up (fun x hx => bd x ((mem x).mp hx)) (same_free (S.trans S14) n15) ((S.trans S14).trans S15) l15
end
end Gk

set_option maxHeartbeats 4000000
namespace Gk
open PySem L2 Gx
open C8 (Cal Met Mak pe_c pe_mt pe_mt0 pe_mk pe_gc)
local macro_rules | `(tactic| walk_at "g") => `(tactic| (first
  | with_reducible refine g_seq ?_ | with_reducible refine g_asg ?_ | ((with_reducible show tVar _ _ _ _); refine g_var rfl ?_) | with_reducible refine g_c ?_ | with_reducible refine g_name ?_ | with_reducible refine g_op ?_ | with_reducible refine g_I0 ?_
  | with_reducible refine g_cons ?_ | with_reducible refine g_nil ?_ | with_reducible refine g_exbl ?_ | with_reducible refine g_exint ?_ | with_reducible refine g_test ?_ | with_reducible refine g_B ?_ | with_reducible refine g_ifS ?_ | with_reducible refine g_ret ?_ | with_reducible refine g_retN ?_ | with_reducible refine g_next ?_
  | with_reducible refine g_CB ?_ | with_reducible refine g_sub ?_ | with_reducible refine g_drop ?_ | with_reducible refine g_not ?_ | with_reducible refine g_and ?_ | with_reducible refine g_or ?_ | with_reducible refine g_andV ?_ | with_reducible refine g_orV ?_ | with_reducible refine g_notV ?_ | with_reducible refine g_ifE ?_ | with_reducible refine g_isN ?_
  | with_reducible refine g_par ?_ | with_reducible refine g_expar ?_ | with_reducible refine g_chain ?_ | with_reducible refine g_un ?_ | with_reducible refine g_U ?_ | with_reducible refine g_bits ?_ | ((with_reducible show rEq _ _ _ _); refine g_eq rfl ?_) | ((with_reducible show rNe _ _ _ _); refine g_ne rfl ?_)
  | with_reducible refine g_for ?_ | with_reducible refine g_iRng1 ?_ | with_reducible refine g_iRng2 ?_ | with_reducible refine g_iList ?_ | with_reducible refine g_iTup ?_
  | ((with_reducible refine g_Imul ?hc ?_); (case hc => (first | (refine Or.inl ⟨?_, ?_⟩ <;> first | decide | omega) | (refine Or.inr ⟨?_, ?_⟩ <;> first | decide | omega))))
  | ((with_reducible refine g_Idiv ?hc ?_); (case hc => (first | (exact ⟨by decide, by decide⟩) | assumption)))
  | ((with_reducible refine g_Imod ?hc ?_); (case hc => (first | assumption | omega | decide)))
  | ((with_reducible refine g_exR1 ?hlo ?hhi ?_); (case hlo => omega); (case hhi => omega))
  | ((with_reducible refine g_exR2 ?hb ?_); (case hb => omega))
  | with_reducible refine g_lst ?_ | with_reducible refine g_tup ?_ | with_reducible refine g_call ?_ | with_reducible refine g_BM ?_ | with_reducible refine g_BM0 ?_
  | with_reducible refine g_intB ?_ | with_reducible refine g_lc ?_ | with_reducible refine g_yes ?_ | with_reducible refine g_iZip ?_ | with_reducible refine g_sl ?_ | with_reducible refine g_noP ?_ | with_reducible refine g_part ?_ | with_reducible refine g_gcons ?_ | with_reducible refine g_gnil ?_
  | with_reducible refine g_tfld ?_ | with_reducible refine g_tmeth ?_ | with_reducible refine g_tmake ?_ | with_reducible refine g_sfld ?_ | with_reducible refine g_tprop ?_ | with_reducible refine g_tstar ?_ | with_reducible refine g_tmethK ?_ | with_reducible refine g_isN1 ?_ | with_reducible refine g_notN1 ?_))
local macro_rules | `(tactic| walk_at "gs1") => `(tactic| (first
  | with_reducible refine g_seq ?_ | with_reducible refine g_asg ?_ | ((with_reducible show tVar _ _ _ _); refine g_var rfl ?_) | with_reducible refine g_c ?_ | with_reducible refine g_name ?_ | with_reducible refine g_op ?_ | with_reducible refine g_I0 ?_
  | with_reducible refine g_cons ?_ | with_reducible refine g_nil ?_ | with_reducible refine g_exbl ?_ | with_reducible refine g_exint ?_ | with_reducible refine g_test ?_ | with_reducible refine g_B ?_ | with_reducible refine g_ifS ?_ | with_reducible refine g_retN ?_ | with_reducible refine g_next ?_
  | with_reducible refine g_CB ?_ | with_reducible refine g_sub ?_ | with_reducible refine g_drop ?_ | with_reducible refine g_not ?_ | with_reducible refine g_and ?_ | with_reducible refine g_or ?_ | with_reducible refine g_andV ?_ | with_reducible refine g_orV ?_ | with_reducible refine g_notV ?_ | with_reducible refine g_ifE ?_ | with_reducible refine g_isN ?_
  | with_reducible refine g_par ?_ | with_reducible refine g_expar ?_ | with_reducible refine g_chain ?_ | with_reducible refine g_un ?_ | with_reducible refine g_U ?_ | with_reducible refine g_bits ?_ | ((with_reducible show rEq _ _ _ _); refine g_eq rfl ?_) | ((with_reducible show rNe _ _ _ _); refine g_ne rfl ?_)
  | with_reducible refine g_for ?_ | with_reducible refine g_iRng1 ?_ | with_reducible refine g_iRng2 ?_ | with_reducible refine g_iList ?_ | with_reducible refine g_iTup ?_
  | ((with_reducible refine g_Imul ?hc ?_); (case hc => (first | (refine Or.inl ⟨?_, ?_⟩ <;> first | decide | omega) | (refine Or.inr ⟨?_, ?_⟩ <;> first | decide | omega))))
  | ((with_reducible refine g_Idiv ?hc ?_); (case hc => (first | (exact ⟨by decide, by decide⟩) | assumption)))
  | ((with_reducible refine g_Imod ?hc ?_); (case hc => (first | assumption | omega | decide)))
  | ((with_reducible refine g_exR1 ?hlo ?hhi ?_); (case hlo => omega); (case hhi => omega))
  | ((with_reducible refine g_exR2 ?hb ?_); (case hb => omega))
  | with_reducible refine g_lst ?_ | with_reducible refine g_tup ?_ | with_reducible refine g_call ?_ | with_reducible refine g_BM ?_ | with_reducible refine g_BM0 ?_
  | with_reducible refine g_intB ?_ | with_reducible refine g_lc ?_ | with_reducible refine g_yes ?_ | with_reducible refine g_iZip ?_ | with_reducible refine g_sl ?_ | with_reducible refine g_noP ?_ | with_reducible refine g_part ?_ | with_reducible refine g_gcons ?_ | with_reducible refine g_gnil ?_
  | with_reducible refine g_tfld ?_ | with_reducible refine g_tmeth ?_ | with_reducible refine g_tmake ?_ | with_reducible refine g_sfld ?_ | with_reducible refine g_tprop ?_ | with_reducible refine g_tstar ?_ | with_reducible refine g_tmethK ?_ | with_reducible refine g_isN1 ?_ | with_reducible refine g_notN1 ?_))
local macro_rules | `(tactic| walk_at "gx1") => `(tactic| (first
  | with_reducible refine g_seq ?_ | with_reducible refine g_asg ?_ | ((with_reducible show tVar _ _ _ _); refine g_var rfl ?_) | with_reducible refine g_c ?_ | with_reducible refine g_name ?_ | with_reducible refine g_op ?_ | with_reducible refine g_I0 ?_
  | with_reducible refine g_cons ?_ | with_reducible refine g_nil ?_ | with_reducible refine g_exbl ?_ | with_reducible refine g_exint ?_ | with_reducible refine g_test ?_ | with_reducible refine g_B ?_ | with_reducible refine g_ifS ?_ | with_reducible refine g_retN ?_ | with_reducible refine g_next ?_
  | with_reducible refine g_CB ?_ | with_reducible refine g_sub ?_ | with_reducible refine g_drop ?_ | with_reducible refine g_not ?_ | with_reducible refine g_and ?_ | with_reducible refine g_or ?_ | with_reducible refine g_andV ?_ | with_reducible refine g_orV ?_ | with_reducible refine g_notV ?_ | with_reducible refine g_ret ?_ | with_reducible refine g_isN ?_
  | with_reducible refine g_par ?_ | with_reducible refine g_expar ?_ | with_reducible refine g_chain ?_ | with_reducible refine g_un ?_ | with_reducible refine g_U ?_ | with_reducible refine g_bits ?_ | ((with_reducible show rEq _ _ _ _); refine g_eq rfl ?_) | ((with_reducible show rNe _ _ _ _); refine g_ne rfl ?_)
  | with_reducible refine g_for ?_ | with_reducible refine g_iRng1 ?_ | with_reducible refine g_iRng2 ?_ | with_reducible refine g_iList ?_ | with_reducible refine g_iTup ?_
  | ((with_reducible refine g_Imul ?hc ?_); (case hc => (first | (refine Or.inl ⟨?_, ?_⟩ <;> first | decide | omega) | (refine Or.inr ⟨?_, ?_⟩ <;> first | decide | omega))))
  | ((with_reducible refine g_Idiv ?hc ?_); (case hc => (first | (exact ⟨by decide, by decide⟩) | assumption)))
  | ((with_reducible refine g_Imod ?hc ?_); (case hc => (first | assumption | omega | decide)))
  | ((with_reducible refine g_exR1 ?hlo ?hhi ?_); (case hlo => omega); (case hhi => omega))
  | ((with_reducible refine g_exR2 ?hb ?_); (case hb => omega))
  | with_reducible refine g_lst ?_ | with_reducible refine g_tup ?_ | with_reducible refine g_call ?_ | with_reducible refine g_BM ?_ | with_reducible refine g_BM0 ?_
  | with_reducible refine g_intB ?_ | with_reducible refine g_lc ?_ | with_reducible refine g_yes ?_ | with_reducible refine g_iZip ?_ | with_reducible refine g_sl ?_ | with_reducible refine g_noP ?_ | with_reducible refine g_part ?_ | with_reducible refine g_gcons ?_ | with_reducible refine g_gnil ?_
  | with_reducible refine g_tfld ?_ | with_reducible refine g_tmeth ?_ | with_reducible refine g_tmake ?_ | with_reducible refine g_sfld ?_ | with_reducible refine g_tprop ?_ | with_reducible refine g_tstar ?_ | with_reducible refine g_tmethK ?_ | with_reducible refine g_isN1 ?_ | with_reducible refine g_notN1 ?_))
local macro_rules | `(tactic| walk_at "hp") => `(tactic| (first | assumption | exact upd_same | (refine same_get (by assumption) ?_; walk_at "hp")))
local macro_rules | `(tactic| walk_at "sm") => `(tactic| (first | assumption | exact Same.refl _ | (refine Same.trans ?ha (by assumption); walk_at "sm")))
local macro_rules | `(tactic| walk_at "nn") => `(tactic| (first | assumption | (refine same_free (by assumption) ?_; walk_at "nn")))
local macro_rules | `(tactic| walk_at "sb") => `(tactic| (first | decide | (refine small_bits ?_ ?_ <;> omega)))
local macro_rules | `(tactic| walk_at "ln") => `(tactic| (simp only [List.length_cons, List.length_nil]; omega))
local macro_rules | `(tactic| walk_at "gg") => `(tactic| (repeat walk_at "g"))
local macro_rules | `(tactic| walk_at "gs") => `(tactic| (repeat walk_at "gs1"))
local macro_rules | `(tactic| walk_at "gx") => `(tactic| (repeat walk_at "gx1"))

section
variable {P : Program} {w : World} {K : PySem.W.Frag} {mg : Str → Option Value} {base : Heap} {X : Cx}
/-- where the draws begin -/
def spFlow0 (K : PySem.W.Frag) : Sp := fun vs H Q _ => ∃ (a : Addr) (ns : List Int) (k : Int), vs = [.ref a, .int k] ∧ SqL K H a (ns.map V.int) ∧ 0 ≤ k ∧
  ∀ (p : Addr) (x y z : Int) (H' : Hp), 0 ≤ x → H p = none → Same H H' → H' p = some (three x y z) → Q (.ref p) H'
def spFlow (K : PySem.W.Frag) : Sp := fun vs H Q _ => ∃ (a : Addr) (ns : List Int) (k : Int), vs = [.ref a, .int k] ∧ SqL K H a (ns.map V.int) ∧ 0 ≤ k ∧
  ∀ (p : Addr) (H' : Hp), H p = none → Same H H' → H' p = some (FlowO p) → Q (.ref p) H'
abbrev s_flow : Stmt := top 12
abbrev N_flow : List Str := ["_law_script", "_law_k", "_law_begin_here"]
theorem sc_flow : FnScope N_flow ["_law_script", "_law_k"] (defScope s_flow) := ⟨rfl, rfl, rfl, by decide +kernel, rfl, by decide +kernel, by decide +kernel⟩

theorem ok_flow0 {f : Addr} {fd : FuncData} (D : Dn K mg "_law_flow" s_flow ["_law_script", "_law_k"] f fd) (T : Bt mg) : FnOk P w K mg base L2.CX0 1 f fd ["_law_script", "_law_k"] (spFlow0 K) := by
  refine D.fn.ok sc_flow (fun vs H Q E h => ?_) (fun cdv A outer s H vs Q E hr h => ?_)
  · obtain ⟨a, ns, k, rfl, _⟩ := h
    rfl
  · obtain ⟨a, ns, n, rfl, ha, hn, k⟩ := h
    refine ⟨_, (pss_cons (ps_set (i := 2) sc_flow.nd rfl (Or.inl rfl) pe_int)
    (pss_cons (ps_if (pt_cmpR op_lt (pv 1) (pe_callB cr_lenQ (by rfl) T.n_len bt_len (pa_cons (pv 0) pa_nil)) (nomark _)) (pss_one (ps_set (i := 2) sc_flow.nd rfl (Or.inl rfl) (pe_ix ix_list (pv 0) (pv 1) (fun _ _ => rfl)))) pss_nil)
    (pss_one (ps_ret (pe_lst (pa_cons (pe_callB (cr_maxQ rfl) (by rfl) T.n_max bt_max (pa_cons pe_int (pa_cons (pe_op op_sub (pe_callB cr_absQ (by rfl) T.n_abs bt_abs (pa_cons (pv 2) pa_nil)) (pe_op op_pow pe_int pe_int)) pa_nil))) (pa_cons (pe_op op_mod (pe_op op_add (pe_op op_add (pe_op op_mul (pv 2) pe_int) (pe_op op_mul pe_int (pv 1))) pe_int) pe_int) (pa_cons pe_int pa_nil)))))))), ?_⟩
    walk_at "gg"
    refine g_len ha ?_
    rw [List.length_map]
    walk_at "gg"
    refine g_iteJ (fun σ' H' => ∃ b : Int, σ' = [some (.ref a), some (.int n), some (.int b)] ∧ H' = H) ?_ ?_ ?_
    · rintro σ' H' ⟨b, rfl, rfl⟩
      walk_at "gg"
      refine g_abs fun c c0 _ => ?_
      walk_at "gg"
      refine g_pow (c := 1000000000000000000) ⟨by decide, by decide, by decide⟩ (by decide) ?_
      walk_at "gg"
      refine g_max2 fun x x0 _ _ => ?_
      walk_at "gg"
      refine g_mkL (by walk_at "ln") fun p H1 n1 S1 e1 => ?_
      exact k p x _ 0 H1 x0 n1 S1 e1
    · intro N' tl c
      walk_at "gg"
      refine g_ixN ha hn c fun v _ _ => ?_
      walk_at "gg"
      exact tl _ _ ⟨v, rfl, rfl⟩
    · intro N' tl c
      walk_at "gg"
      exact tl _ _ ⟨0, rfl, rfl⟩
theorem ok_flow {f : Addr} {fd : FuncData} (D : Dn K mg "_law_flow" s_flow ["_law_script", "_law_k"] f fd) (T : Bt mg) : Cal P w K mg base 1 "_law_flow" (spFlow K) [] := by
  refine cal_of D (flow_made (ok_flow0 D T) fun vs H Q E h => ?_)
  obtain ⟨a, ns, n, rfl, ha, hn, k⟩ := h
  refine ⟨a, ns, n, rfl, ha, hn, fun p x y z H' hx np S e => ⟨p, x, y, z, rfl, hx, e, k p _ np (same_mut S np) upd_same⟩⟩
end
end Gk

set_option maxHeartbeats 1000000
/-! Lists of texts as data; a list times a number; comprehensions that make texts -/
namespace Gx
open PySem L2
/-- a text that can stand in the heap -/
abbrev Wd := { x : Str // PyData.strOk x = true }
instance daWd : Da Wd where
  dec := inferInstance
  D w := .str w.1
  inj a b h := Subtype.ext (by injection h)
  bar a := by simp [bare]
  lay a := by simp [PyData.canLay0, a.2]
  dep a := by simp [PyData.depth]
  nol a := by simp [noLst]
section
variable {K : PySem.W.Frag} {H H1 : Hp} {Q : VK} {J : It} {n : Nat} {item : Nat → V → Hp → Prop} {g : TG} {te : TE} {vs : List Nat} {σ : L2.St}
theorem dt_wds {p : Addr} {ws : List Wd} (e : H p = some (.lst (ws.map fun w => V.str w.1))) : DtL K H p ws := by
  refine ⟨_, e, ?_⟩
  have key : ∀ ws : List Wd, DpAll K H (ws.map fun w => V.str w.1) (ws.map Da.D) := by
    intro ws
    induction ws with
    | nil => exact .nil
    | cons w ws ih => exact .cons (.str w.1) ih
  exact key ws
/-- [a text for each turn] -/
theorem lc_wds (src : Src J H1 n item) (hn : n ≤ 100000) (w : Nat → Wd)
    (turn : ∀ i x H' (Nx : V → Hp → Prop), i < n → Same H1 H' → item i x H' → (∀ H4, Same H' H4 → Nx (.str (w i).1) H4) → g x (wipe σ vs) H' fun σ2 H2 => wipe σ2 vs = wipe σ vs ∧ te σ2 H2 Nx)
    (done : ∀ D H', H1 D = none → Same H1 H' → DtL K H' D ((List.range n).map w) → Q (.ref D) H') : LC g tYes te vs J σ H1 Q := by
  refine lc_map src hn (fun i y => y = .str (w i).1) (fun i x H' Nx hi S it k => turn i x H' Nx hi S it fun H4 S4 => k _ H4 S4 rfl) fun D acc H' n1 S1 e1 hl ha => done D H' n1 S1 (dt_wds ?_)
  have ea : acc = ((List.range n).map w).map (fun z => V.str z.1) := by
    refine List.ext_getElem? fun i => ?_
    by_cases hi : i < n
    · have h1 : acc[i]? = some acc[i] := List.getElem?_eq_getElem (by omega)
      rw [h1, ha i _ h1]
      simp [hi]
    · rw [List.getElem?_eq_none (by omega), List.getElem?_eq_none (by simp; omega)]
  rw [e1, ea]
theorem g_rep {p : Addr} {xs : List V} {n : Int} (h : H p = some (.lst xs)) (h0 : 0 ≤ n) (h1 : n ≤ 1000) (hl : xs.length ≤ 100) (k : ∀ q H', H q = none → Same H H' → H' q = some (.lst (List.replicate n.toNat xs).flatten) → Q (.ref q) H') : rRep (.ref p) (.int n) H Q := by
  have e : sizeLine = 16777216 := sizeLine_eq
  have m : xs.length * n.toNat ≤ 100 * 1000 := Nat.mul_le_mul hl (by omega)
  exact ⟨p, n, xs, rfl, rfl, h, by omega, by omega, by omega, fun q hq => k q _ hq (same_new hq) upd_same⟩
end
end Gx

set_option maxHeartbeats 4000000
namespace Gk
open PySem L2 Gx
open C8 (Cal Met Mak pe_c pe_mt pe_mt0 pe_mk pe_gc)
local macro_rules | `(tactic| walk_at "g") => `(tactic| (first
  | with_reducible refine g_seq ?_ | with_reducible refine g_asg ?_ | ((with_reducible show tVar _ _ _ _); refine g_var rfl ?_) | with_reducible refine g_c ?_ | with_reducible refine g_name ?_ | with_reducible refine g_op ?_ | with_reducible refine g_I0 ?_
  | with_reducible refine g_cons ?_ | with_reducible refine g_nil ?_ | with_reducible refine g_exbl ?_ | with_reducible refine g_exint ?_ | with_reducible refine g_test ?_ | with_reducible refine g_B ?_ | with_reducible refine g_ifS ?_ | with_reducible refine g_ret ?_ | with_reducible refine g_retN ?_ | with_reducible refine g_next ?_
  | with_reducible refine g_CB ?_ | with_reducible refine g_sub ?_ | with_reducible refine g_drop ?_ | with_reducible refine g_not ?_ | with_reducible refine g_and ?_ | with_reducible refine g_or ?_ | with_reducible refine g_andV ?_ | with_reducible refine g_orV ?_ | with_reducible refine g_notV ?_ | with_reducible refine g_ifE ?_ | with_reducible refine g_isN ?_
  | with_reducible refine g_par ?_ | with_reducible refine g_expar ?_ | with_reducible refine g_chain ?_ | with_reducible refine g_un ?_ | with_reducible refine g_U ?_ | with_reducible refine g_bits ?_ | ((with_reducible show rEq _ _ _ _); refine g_eq rfl ?_) | ((with_reducible show rNe _ _ _ _); refine g_ne rfl ?_)
  | with_reducible refine g_for ?_ | with_reducible refine g_iRng1 ?_ | with_reducible refine g_iRng2 ?_ | with_reducible refine g_iList ?_ | with_reducible refine g_iTup ?_
  | ((with_reducible refine g_Imul ?hc ?_); (case hc => (first | (refine Or.inl ⟨?_, ?_⟩ <;> first | decide | omega) | (refine Or.inr ⟨?_, ?_⟩ <;> first | decide | omega))))
  | ((with_reducible refine g_Idiv ?hc ?_); (case hc => (first | (exact ⟨by decide, by decide⟩) | assumption)))
  | ((with_reducible refine g_Imod ?hc ?_); (case hc => (first | assumption | omega | decide)))
  | ((with_reducible refine g_exR1 ?hlo ?hhi ?_); (case hlo => omega); (case hhi => omega))
  | ((with_reducible refine g_exR2 ?hb ?_); (case hb => omega))
  | with_reducible refine g_lst ?_ | with_reducible refine g_tup ?_ | with_reducible refine g_call ?_ | with_reducible refine g_BM ?_ | with_reducible refine g_BM0 ?_
  | with_reducible refine g_intB ?_ | with_reducible refine g_lc ?_ | with_reducible refine g_yes ?_ | with_reducible refine g_iZip ?_ | with_reducible refine g_sl ?_ | with_reducible refine g_noP ?_ | with_reducible refine g_part ?_ | with_reducible refine g_gcons ?_ | with_reducible refine g_gnil ?_
  | with_reducible refine g_tfld ?_ | with_reducible refine g_tmeth ?_ | with_reducible refine g_tmake ?_ | with_reducible refine g_sfld ?_ | with_reducible refine g_tprop ?_ | with_reducible refine g_tstar ?_ | with_reducible refine g_tmethK ?_ | with_reducible refine g_isN1 ?_ | with_reducible refine g_notN1 ?_))
local macro_rules | `(tactic| walk_at "gs1") => `(tactic| (first
  | with_reducible refine g_seq ?_ | with_reducible refine g_asg ?_ | ((with_reducible show tVar _ _ _ _); refine g_var rfl ?_) | with_reducible refine g_c ?_ | with_reducible refine g_name ?_ | with_reducible refine g_op ?_ | with_reducible refine g_I0 ?_
  | with_reducible refine g_cons ?_ | with_reducible refine g_nil ?_ | with_reducible refine g_exbl ?_ | with_reducible refine g_exint ?_ | with_reducible refine g_test ?_ | with_reducible refine g_B ?_ | with_reducible refine g_ifS ?_ | with_reducible refine g_retN ?_ | with_reducible refine g_next ?_
  | with_reducible refine g_CB ?_ | with_reducible refine g_sub ?_ | with_reducible refine g_drop ?_ | with_reducible refine g_not ?_ | with_reducible refine g_and ?_ | with_reducible refine g_or ?_ | with_reducible refine g_andV ?_ | with_reducible refine g_orV ?_ | with_reducible refine g_notV ?_ | with_reducible refine g_ifE ?_ | with_reducible refine g_isN ?_
  | with_reducible refine g_par ?_ | with_reducible refine g_expar ?_ | with_reducible refine g_chain ?_ | with_reducible refine g_un ?_ | with_reducible refine g_U ?_ | with_reducible refine g_bits ?_ | ((with_reducible show rEq _ _ _ _); refine g_eq rfl ?_) | ((with_reducible show rNe _ _ _ _); refine g_ne rfl ?_)
  | with_reducible refine g_for ?_ | with_reducible refine g_iRng1 ?_ | with_reducible refine g_iRng2 ?_ | with_reducible refine g_iList ?_ | with_reducible refine g_iTup ?_
  | ((with_reducible refine g_Imul ?hc ?_); (case hc => (first | (refine Or.inl ⟨?_, ?_⟩ <;> first | decide | omega) | (refine Or.inr ⟨?_, ?_⟩ <;> first | decide | omega))))
  | ((with_reducible refine g_Idiv ?hc ?_); (case hc => (first | (exact ⟨by decide, by decide⟩) | assumption)))
  | ((with_reducible refine g_Imod ?hc ?_); (case hc => (first | assumption | omega | decide)))
  | ((with_reducible refine g_exR1 ?hlo ?hhi ?_); (case hlo => omega); (case hhi => omega))
  | ((with_reducible refine g_exR2 ?hb ?_); (case hb => omega))
  | with_reducible refine g_lst ?_ | with_reducible refine g_tup ?_ | with_reducible refine g_call ?_ | with_reducible refine g_BM ?_ | with_reducible refine g_BM0 ?_
  | with_reducible refine g_intB ?_ | with_reducible refine g_lc ?_ | with_reducible refine g_yes ?_ | with_reducible refine g_iZip ?_ | with_reducible refine g_sl ?_ | with_reducible refine g_noP ?_ | with_reducible refine g_part ?_ | with_reducible refine g_gcons ?_ | with_reducible refine g_gnil ?_
  | with_reducible refine g_tfld ?_ | with_reducible refine g_tmeth ?_ | with_reducible refine g_tmake ?_ | with_reducible refine g_sfld ?_ | with_reducible refine g_tprop ?_ | with_reducible refine g_tstar ?_ | with_reducible refine g_tmethK ?_ | with_reducible refine g_isN1 ?_ | with_reducible refine g_notN1 ?_))
local macro_rules | `(tactic| walk_at "gx1") => `(tactic| (first
  | with_reducible refine g_seq ?_ | with_reducible refine g_asg ?_ | ((with_reducible show tVar _ _ _ _); refine g_var rfl ?_) | with_reducible refine g_c ?_ | with_reducible refine g_name ?_ | with_reducible refine g_op ?_ | with_reducible refine g_I0 ?_
  | with_reducible refine g_cons ?_ | with_reducible refine g_nil ?_ | with_reducible refine g_exbl ?_ | with_reducible refine g_exint ?_ | with_reducible refine g_test ?_ | with_reducible refine g_B ?_ | with_reducible refine g_ifS ?_ | with_reducible refine g_retN ?_ | with_reducible refine g_next ?_
  | with_reducible refine g_CB ?_ | with_reducible refine g_sub ?_ | with_reducible refine g_drop ?_ | with_reducible refine g_not ?_ | with_reducible refine g_and ?_ | with_reducible refine g_or ?_ | with_reducible refine g_andV ?_ | with_reducible refine g_orV ?_ | with_reducible refine g_notV ?_ | with_reducible refine g_ret ?_ | with_reducible refine g_isN ?_
  | with_reducible refine g_par ?_ | with_reducible refine g_expar ?_ | with_reducible refine g_chain ?_ | with_reducible refine g_un ?_ | with_reducible refine g_U ?_ | with_reducible refine g_bits ?_ | ((with_reducible show rEq _ _ _ _); refine g_eq rfl ?_) | ((with_reducible show rNe _ _ _ _); refine g_ne rfl ?_)
  | with_reducible refine g_for ?_ | with_reducible refine g_iRng1 ?_ | with_reducible refine g_iRng2 ?_ | with_reducible refine g_iList ?_ | with_reducible refine g_iTup ?_
  | ((with_reducible refine g_Imul ?hc ?_); (case hc => (first | (refine Or.inl ⟨?_, ?_⟩ <;> first | decide | omega) | (refine Or.inr ⟨?_, ?_⟩ <;> first | decide | omega))))
  | ((with_reducible refine g_Idiv ?hc ?_); (case hc => (first | (exact ⟨by decide, by decide⟩) | assumption)))
  | ((with_reducible refine g_Imod ?hc ?_); (case hc => (first | assumption | omega | decide)))
  | ((with_reducible refine g_exR1 ?hlo ?hhi ?_); (case hlo => omega); (case hhi => omega))
  | ((with_reducible refine g_exR2 ?hb ?_); (case hb => omega))
  | with_reducible refine g_lst ?_ | with_reducible refine g_tup ?_ | with_reducible refine g_call ?_ | with_reducible refine g_BM ?_ | with_reducible refine g_BM0 ?_
  | with_reducible refine g_intB ?_ | with_reducible refine g_lc ?_ | with_reducible refine g_yes ?_ | with_reducible refine g_iZip ?_ | with_reducible refine g_sl ?_ | with_reducible refine g_noP ?_ | with_reducible refine g_part ?_ | with_reducible refine g_gcons ?_ | with_reducible refine g_gnil ?_
  | with_reducible refine g_tfld ?_ | with_reducible refine g_tmeth ?_ | with_reducible refine g_tmake ?_ | with_reducible refine g_sfld ?_ | with_reducible refine g_tprop ?_ | with_reducible refine g_tstar ?_ | with_reducible refine g_tmethK ?_ | with_reducible refine g_isN1 ?_ | with_reducible refine g_notN1 ?_))
local macro_rules | `(tactic| walk_at "hp") => `(tactic| (first | assumption | exact upd_same | (refine same_get (by assumption) ?_; walk_at "hp")))
local macro_rules | `(tactic| walk_at "sm") => `(tactic| (first | assumption | exact Same.refl _ | (refine Same.trans ?ha (by assumption); walk_at "sm")))
local macro_rules | `(tactic| walk_at "nn") => `(tactic| (first | assumption | (refine same_free (by assumption) ?_; walk_at "nn")))
local macro_rules | `(tactic| walk_at "sb") => `(tactic| (first | decide | (refine small_bits ?_ ?_ <;> omega)))
local macro_rules | `(tactic| walk_at "ln") => `(tactic| (simp only [List.length_cons, List.length_nil]; omega))
local macro_rules | `(tactic| walk_at "gg") => `(tactic| (repeat walk_at "g"))
local macro_rules | `(tactic| walk_at "gs") => `(tactic| (repeat walk_at "gs1"))
local macro_rules | `(tactic| walk_at "gx") => `(tactic| (repeat walk_at "gx1"))

local macro_rules | `(tactic| walk_at "g") => `(tactic| (first | with_reducible refine g_tpropF ?_ | with_reducible refine g_tmethF ?_ | with_reducible refine g_tmethKF ?_ | with_reducible refine g_lstRg1 ?_))
section
variable {P : Program} {w : World} {K : PySem.W.Frag} {mg : Str → Option Value} {base : Heap} {X : Cx}
def spLaw (K : PySem.W.Frag) : Sp := fun vs H Q _ => ∃ (a : Addr) (ns : List Int), vs = [.ref a] ∧ SqL K H a (ns.map V.int) ∧ ∀ H', Same H H' → Q (.bl true) H'
/-- how the classes of lines stand to one another -/
structure OrdC (K : PySem.W.Frag) (CL CK CV : Addr) : Prop where
  su : PySem.W.subIn K (.ref CK) (.ref CL) = some true
  sv : PySem.W.subIn K (.ref CV) (.ref CL) = some true
  uk : (Value.ref CL != Value.ref CK) = true
  uv : (Value.ref CL != Value.ref CV) = true
  lk : PySem.W.kitOne K (.ref CL) (.ref CK) = some false
  kv : PySem.W.kitOne K (.ref CK) (.ref CV) = some false
  vk : PySem.W.kitOne K (.ref CV) (.ref CK) = some false
theorem lc_empty {H1 : Hp} {Q : VK} {σ : L2.St} {te : TE} {tt : TT} {g : TG} {vs : List Nat} {J : It} {n : Nat} {item : Nat → V → Hp → Prop} (src : Src J H1 n item) (hn : n ≤ 100000)
    (turn : ∀ i x H' (Nx : V → Hp → Prop) (No : Hp → Prop), i < n → Same H1 H' → item i x H' → (∀ H4, Same H' H4 → No H4) →
      g x (wipe σ vs) H' fun σ2 H2 => wipe σ2 vs = wipe σ vs ∧ tt σ2 H2 fun b H3 => if b = true then te σ2 H3 Nx else No H3)
    (done : ∀ p H', H1 p = none → Same H1 H' → H' p = some (.lst []) → Q (.ref p) H') : LC g tt te vs J σ H1 Q :=
  lc_ones (K := []) src hn (fun _ => false) (fun i x H' Nx No hi S it _ k2 => turn i x H' Nx No hi S it fun H4 S4 => k2 H4 S4 rfl) fun p as H' n1 S ⟨xs, e, d⟩ iff => by
    have z : as = [] := iff.mpr fun _ _ => rfl
    subst z
    cases d
    exact done p H' n1 S e
theorem bent_or {H : Hp} {f p : Addr} {Q' : VK} {E' : XK} (hf : H f = some (FlowO f)) (hp : (∃ as : List Int, PtsL K H p as ∧ as.length ≤ 500 ∧ ∀ a ∈ as, Fine 1 3 (Kd.D a)) ∨ ∃ as : List Pr, PtsL K H p as ∧ as.length ≤ 500 ∧ ∀ a ∈ as, Fine 1 3 (Kd.D a))
    (k : ∀ l' xs H', H l' = none → Same H H' → H' l' = some (.lst xs) → xs.length ≤ 100 → (∀ x ∈ xs, Tg K H' x) → Q' (.ref l') H') : spOr (spBent Int K) (spBent Pr K) [.ref f, .ref p] H Q' E' := by
  rcases hp with ⟨as, h, l, fa⟩ | ⟨as, h, l, fa⟩
  · exact .inl ⟨f, p, as, rfl, hf, h, l, fa, k⟩
  · exact .inr ⟨f, p, as, rfl, hf, h, l, fa, k⟩
theorem pts_but {α : Type} [Kd α] {H H' : Hp} {g l : Addr} {ys : List V} {as : List α} (hg : H g = some (.lst ys)) (B : But g H H') (n : l ≠ g) (h : PtsL K H l as) : PtsL K H' l as := by
  obtain ⟨xs, e, d⟩ := h
  exact ⟨xs, B _ _ n e, dp_butAll hg B _ _ (kd_nols as) d⟩
theorem g_cutT {tt : TT} {σ : L2.St} {H : Hp} {C : Bool → Hp → Prop} (Mid : Bool → Hp → Prop) (h : ∀ C' : Bool → Hp → Prop, (∀ v H', Mid v H' → C' v H') → tt σ H C') (tail : ∀ v H', Mid v H' → C v H') : tt σ H C := h C tail
abbrev s_law : Stmt := top 21
abbrev N_law : List Str := ["_law_script", "_law_k", "_law_flow_here", "_law_spots_here", "_law_rows", "_law_some", "_law_one", "_law_given", "_law_two", "_law_far", "_law_told", "_law_n"]
theorem sc_law : FnScope N_law ["_law_script"] (defScope s_law) := ⟨rfl, rfl, rfl, by decide +kernel, rfl, by decide +kernel, by decide +kernel⟩

theorem ok_law {f CL CK CV : Addr} {fd : FuncData} (D : Dn K mg "law" s_law ["_law_script"] f fd) (T : Bt mg) (KA : KndAll K CL CK CV) (OC : OrdC K CL CK CV) (g_Line : ∃ u, mg "Line" = some u ∧ RelV (.ref CL) u)
    (m_Line : Mak P w K mg base 3 "Line" CL (spInitN Int K CL) []) (m_KeyLine : Mak P w K mg base 3 "KeyLine" CK (spInitN Int K CK) []) (m_ValueLine : Mak P w K mg base 3 "ValueLine" CV (spInitN Pr K CV) [])
    (c__law_flow : Cal P w K mg base 1 "_law_flow" (spFlow K) []) (c__law_spots : Cal P w K mg base 2 "_law_spots" spSpots []) (c__law_pairs : Cal P w K mg base 2 "_law_pairs" (spPairs K) [])
    (c__law_bent : CalG P w K mg base 2 "_law_bent" (spOr (spBent Int K) (spBent Pr K))) (c__law_tried : CalG P w K mg base 6 "_law_tried" (spTried K)) (c__law_made : Cal P w K mg base 5 "_law_made" (spMade K CL CK CV) [])
    (p_points : PropF P w K mg base 1 (WayS CL CK CV) "points" (fun _ => spPtsD K (WayS CL CK CV))) (d_eq : MetF P w K mg base CX0 1 (WayS CL CK CV) "__eq__" (fun C => spEqD K (WayS CL CK CV) CL C)) (d_ne : ∀ C, WayS CL CK CV C → NoNe K C) :
    FnG P w K mg base 7 f fd ["_law_script"] (spLaw K) := by
  refine fnG_of D.fn sc_law (fun vs H Q E h => ?_) (fun cdv A outer s H vs Q E gd hr h => ?_)
  · obtain ⟨a, ns, rfl, _⟩ := h
    rfl
  · obtain ⟨a, ns, rfl, ha, k⟩ := h
    refine ⟨_, (pss_cons (ps_for PassesOwn.never rfl (pi_range1 (by rfl) T.n_range (pa_cons (pe_callB (cr_maxQ rfl) (by rfl) T.n_max bt_max (pa_cons pe_int (pa_cons (pe_callB (cr_minQ rfl) (by rfl) T.n_min bt_min (pa_cons pe_int (pa_cons (pe_callB cr_lenQ (by rfl) T.n_len bt_len (pa_cons (pv 0) pa_nil)) pa_nil))) pa_nil))) pa_nil)) (pg_name (i := 1) sc_law.nd rfl (Or.inl rfl)) (pss_cons (ps_set (i := 2) sc_law.nd rfl (Or.inl rfl) (pe_c c__law_flow hr (by decide) (by rfl) (pa_cons (pv 0) (pa_cons (pv 1) pa_nil))))
    (pss_cons (ps_par (i := 3) (j := 4) (by rfl) sc_law.nd rfl rfl (by decide) rfl rfl (pa_cons (pe_c c__law_spots hr (by decide) (by rfl) (pa_cons (pv 2) (pa_cons (pe_ix ix_list (pe_lst (pa_cons pe_int (pa_cons pe_int pa_nil))) (pe_callTy cr_intQ (by rfl) T.n_int bt_int (pa_cons (pe_cmpR op_gt (pv 1) pe_int (nomark _)) pa_nil)) (fun _ _ => rfl)) pa_nil))) (pa_cons (pe_c c__law_pairs hr (by decide) (by rfl) (pa_cons (pv 2) (pa_cons pe_int pa_nil))) pa_nil)) (by rfl))
    (pss_cons (ps_for PassesOwn.never rfl (pi_list (pe_lst (pa_cons (pv 3) (pa_cons (pv 4) (pa_cons (pe_c c__law_spots hr (by decide) (by rfl) (pa_cons (pv 2) (pa_cons pe_int pa_nil))) pa_nil))))) (pg_name (i := 5) sc_law.nd rfl (Or.inl rfl)) (pss_one (ps_if (pt_cmpR (op_neD hr.units) (pe_lc (own := [("_law_one", 6)]) (g := gName 6) rfl sc_law.nd (pi_list (pe_cG c__law_bent gd hr (by decide) (by rfl) (pa_cons (pv 2) (pa_cons (pv 5) pa_nil)))) (blkOk_by (own := [("_law_one", 6)]) (N := N_law) (sc := defScope s_law) (by decide +kernel)) (fun _ _ _ _ _ => pg_name (i := 6) sc_law.nd rfl (Or.inl rfl)) (fun _ _ _ _ _ => (pts_one (pt_not (pt_val (pe_cG c__law_tried gd hr (by decide) (by rfl) (pa_cons (pv 6) pa_nil)))))) (fun _ _ _ _ _ => (pv 6))) (pe_lst pa_nil) (nomark _)) (pss_one (ps_ret pe_bl)) pss_nil)))
    (pss_cons (ps_set (i := 7) sc_law.nd rfl (Or.inl rfl) (pe_callTy cr_listQ (by rfl) T.n_list bt_list (pa_cons (pv 3) pa_nil)))
    (pss_cons (ps_par (i := 6) (j := 8) (by rfl) sc_law.nd rfl rfl (by decide) rfl rfl (pa_cons (pe_mk m_KeyLine hr (by decide) (by rfl) (pa_cons (pv 7) pa_nil)) (pa_cons (pe_mk m_Line hr (by decide) (by rfl) (pa_cons (pv 3) pa_nil)) pa_nil)) (by rfl))
    (pss_cons (ps_expr (pe_bm PySem.F.plainAttrs_list PySem.F.slot_list_append PySem.F.type_list_append mt_append (pv 7) (pa_cons pe_non pa_nil)))
    (pss_cons (ps_expr (pe_bm0 PySem.F.plainAttrs_list PySem.F.slot_list_reverse PySem.F.type_list_reverse mt_reverse (pv 7)))
    (pss_cons (ps_if (PW.pt (pw_or (pt_cmpR (op_neD hr.units) (pe_prF p_points hr (by decide) (pv 6)) (pv 3) (nomark _)) (pw_or (pt_cmpR (op_anyNe d_eq d_ne hr (by decide)) (pv 6) (pv 8) (nomark _)) (pw_or (pt_not (pt_cmpR (op_anyEq d_eq hr (by decide)) (pv 6) (pv 8) (nomark _))) (pw_or1 (pt_cmpR (op_anyNe d_eq d_ne hr (by decide)) (pv 8) (pv 6) (nomark _))))))) (pss_one (ps_ret pe_bl)) pss_nil)
    (pss_one (ps_if (PW.pt (pw_or (PW.pt (pw_and (pt_cmpR (op_neD hr.units) (pv 3) (pe_lst pa_nil) (nomark _)) (pw_and1 (pt_cmpR (op_anyEq d_eq hr (by decide)) (pe_mk m_KeyLine hr (by decide) (by rfl) (pa_cons (pe_slice sl_list (pv 3) (po_some pe_int) po_none) pa_nil)) (pv 6) (nomark _))))) (pw_or1 (pt_cmpR (op_anyEq d_eq hr (by decide)) (pe_mk m_ValueLine hr (by decide) (by rfl) (pa_cons (pe_lc (own := [("_law_n", 11)]) (g := gName 11) (tt := tYes) rfl sc_law.nd (pi_list (pv 3)) (blkOk_by (own := [("_law_n", 11)]) (N := N_law) (sc := defScope s_law) (by decide +kernel)) (fun _ _ _ _ _ => pg_name (i := 11) sc_law.nd rfl (Or.inl rfl)) (fun _ _ _ _ _ => pts_nil) (fun _ _ _ _ _ => (pe_tup (pa_cons (pv 11) (pa_cons (pv 11) pa_nil))))) pa_nil)) (pv 6) (nomark _))))) (pss_one (ps_ret pe_bl)) pss_nil)))))))))))
    (pss_cons (ps_set (i := 9) sc_law.nd rfl (Or.inl rfl) (pe_lst (pa_cons (pe_listRg rfl (by rfl) T.n_list (prg_1 (by rfl) T.n_range pe_int)) (pa_cons (pe_listRg rfl (by rfl) T.n_list (prg_1 (by rfl) T.n_range pe_int)) (pa_cons (pe_lc (own := [("_law_n", 11)]) (g := gName 11) (tt := tYes) rfl sc_law.nd (pi_range1 (by rfl) T.n_range (pa_cons pe_int pa_nil)) (blkOk_by (own := [("_law_n", 11)]) (N := N_law) (sc := defScope s_law) (by decide +kernel)) (fun _ _ _ _ _ => pg_name (i := 11) sc_law.nd rfl (Or.inl rfl)) (fun _ _ _ _ _ => pts_nil) (fun _ _ _ _ _ => (pe_tup (pa_cons pe_int (pa_cons (pv 11) pa_nil))))) pa_nil)))))
    (pss_cons (ps_set (i := 10) sc_law.nd rfl (Or.inl rfl) (pe_lst (pa_cons (pe_cmpR (op_anyEq d_eq hr (by decide)) (pe_mk m_Line hr (by decide) (by rfl) (pa_cons (pe_lst pa_nil) pa_nil)) (pe_mk m_ValueLine hr (by decide) (by rfl) (pa_cons (pe_lst pa_nil) pa_nil)) (nomark _)) (pa_cons (pe_cmpR (op_anyEq d_eq hr (by decide)) (pe_mk m_KeyLine hr (by decide) (by rfl) (pa_cons (pe_lst pa_nil) pa_nil)) (pe_mk m_ValueLine hr (by decide) (by rfl) (pa_cons (pe_lst pa_nil) pa_nil)) (nomark _)) (pa_cons (pe_cmpR (op_anyEq d_eq hr (by decide)) (pe_mk m_KeyLine hr (by decide) (by rfl) (pa_cons (pe_lst pa_nil) pa_nil)) (pe_mk m_Line hr (by decide) (by rfl) (pa_cons (pe_lst pa_nil) pa_nil)) (nomark _)) (pa_cons (pe_cmpR (op_anyEq d_eq hr (by decide)) (pe_mk m_KeyLine hr (by decide) (by rfl) (pa_cons (pe_lst pa_nil) pa_nil)) (pe_lst pa_nil) (nomark _)) pa_nil))))))
    (pss_cons (ps_set (i := 10) sc_law.nd rfl (Or.inl rfl) (pe_op op_cat (pv 10) (pe_lst (pa_cons (pe_cmpR op_isN1 (pe_c c__law_made hr (by decide) (by rfl) (pa_cons pe_int (pa_cons (pe_ix ix_list (pv 9) pe_int (fun _ _ => rfl)) pa_nil))) pe_non (nomark _)) (pa_cons (pe_cmpR op_isN1 (pe_c c__law_made hr (by decide) (by rfl) (pa_cons pe_int (pa_cons (pe_ix ix_list (pv 9) pe_int (fun _ _ => rfl)) pa_nil))) pe_non (nomark _)) (pa_cons (pe_cmpR op_isN1 (pe_c c__law_made hr (by decide) (by rfl) (pa_cons pe_int (pa_cons (pe_ix ix_list (pv 9) pe_int (fun _ _ => rfl)) pa_nil))) pe_non (nomark _)) pa_nil))))))
    (pss_one (ps_ret (pe_and (pe_cmpR (op_eqD hr.units) (pv 10) (pe_lst (pa_cons pe_bl (pa_cons pe_bl (pa_cons pe_bl (pa_cons pe_bl (pa_cons pe_bl (pa_cons pe_bl (pa_cons pe_bl pa_nil)))))))) (nomark _)) (pe_one (pe_callB call_isi (by rfl) T.n_isinstance bt_isinstance (pa_cons (pe_mk m_ValueLine hr (by decide) (by rfl) (pa_cons (pe_lst pa_nil) pa_nil)) (pa_cons (pe_gc (by rfl) g_Line) pa_nil))))))))))), ?_⟩
    walk_at "gg"
    refine g_len ha ?_
    walk_at "gg"
    refine g_min2 fun m _ m3 _ => ?_
    walk_at "gg"
    refine g_max2 fun n n1 _ n2 => ?_
    walk_at "gg"
    refine fw_range (fun i σ H' => ∃ (v1 v2 v3 v4 v5 v6 v7 v8 v9 v10 v11 : Option V), σ = [some (.ref a), v1, v2, v3, v4, v5, v6, v7, v8, v9, v10, v11] ∧ Same H H') ⟨none, none, none, none, none, none, none, none, none, none, none, rfl, Same.refl _⟩ ?_ ?_
    · rintro i σ H1 hi ⟨v1, v2, v3, v4, v5, v6, v7, v8, v9, v10, v11, rfl, S1⟩
      generalize hj : (0 + (i : Int)) = j
      walk_at "gg"
      refine ⟨a, ns, j, rfl, same_sq S1 ha, by omega, fun f H2 f2 S2 ef => ?_⟩
      walk_at "gg"
      refine g_mkL (by walk_at "ln") fun l3 H3 n3 S3 e3 => ?_
      walk_at "gg"
      have z01 : 0 ≤ (if decide (0 < j) = true then (1 : Int) else 0) ∧ (if decide (0 < j) = true then (1 : Int) else 0) < 2 := by split <;> decide
      refine g_ixP (fun v => ∃ m : Int, v = .int m ∧ 0 ≤ m ∧ m ≤ 500) e3 z01.1 z01.2 (all_cons ⟨500, rfl, by decide, by decide⟩ (all_cons ⟨20, rfl, by decide, by decide⟩ all_nil)) ?_
      rintro _ ⟨most, rfl, m0, m5⟩
      walk_at "gg"
      have ef3 := S3 _ _ ef
      refine ⟨f, most, rfl, ef3, m0, by omega, fun ss ps H6 sl su sb n6 S6 es => ?_⟩
      walk_at "gg"
      refine ⟨f, 60, rfl, S6 _ _ ef3, by omega, by omega, fun rs pr H7 rl ru rb n7 S7 er => ?_⟩
      walk_at "gg"
      have es7 : PtsL K H7 ps ss := (ptsI es).same S7
      have usS : Up ss := su.imp fun {a b} z => decide_eq_true z
      have ef7 := (S6.trans S7) _ _ ef3
      refine ⟨f, 5, rfl, ef7, by omega, by omega, fun s3 p3 H8 sl3 su3 sb3 n8 S8 es3 => ?_⟩
      walk_at "gg"
      refine g_mkL (by walk_at "ln") fun l9 H9 n9 S9 e9 => ?_
      walk_at "gg"
      have S79 := S8.trans S9
      have fss : ∀ a ∈ ss, Fine 1 3 (Kd.D a) := fun a ha => fine_in ⟨by have := (sb a ha).1; omega, by have := (sb a ha).2; omega⟩
      have fs3 : ∀ a ∈ s3, Fine 1 3 (Kd.D a) := fun a ha => fine_in ⟨by have := (sb3 a ha).1; omega, by have := (sb3 a ha).2; omega⟩
      have frs : ∀ a ∈ rs, Fine 1 3 (Kd.D a) := fun a ha => fine_pr ⟨⟨by have := (rb a ha).1; omega, by have := (rb a ha).2.1; omega⟩, ⟨by have := (rb a ha).2.2.1; omega, by have := (rb a ha).2.2.2; omega⟩⟩
      refine g_exL (SqL.of e9) ?_
      refine fw_list (xs := [.ref ps, .ref pr, .ref p3]) (fun i σ H' => Same H9 H' ∧ ∃ v5 v6 v7 v8 v9 v10 v11, σ = [some (.ref a), some (.int j), some (.ref f), some (.ref ps), some (.ref pr), v5, v6, v7, v8, v9, v10, v11]) ⟨Same.refl _, _, _, _, _, _, _, _, rfl⟩ (fun i σ H' _ ⟨S, _⟩ => SqL.of (S _ _ e9)) ?_ ?_
      · rintro i3 x σ H10 hx ⟨S10, v5, v6, v7, v8, v9, v10, v11, rfl⟩
        have S710 := S79.trans S10
        obtain ⟨p, rfl, hp⟩ : ∃ p, x = .ref p ∧ ((∃ as : List Int, PtsL K H10 p as ∧ as.length ≤ 500 ∧ ∀ a ∈ as, Fine 1 3 (Kd.D a)) ∨ ∃ as : List Pr, PtsL K H10 p as ∧ as.length ≤ 500 ∧ ∀ a ∈ as, Fine 1 3 (Kd.D a)) := by
          match i3, hx with
          | 0, hx => exact ⟨ps, (Option.some.inj hx).symm, .inl ⟨ss, es7.same S710, by omega, fss⟩⟩
          | 1, hx => exact ⟨pr, (Option.some.inj hx).symm, .inr ⟨rs, er.same S710, by omega, frs⟩⟩
          | 2, hx => exact ⟨p3, (Option.some.inj hx).symm, .inl ⟨s3, (ptsI es3).same (S9.trans S10), by omega, fs3⟩⟩
        walk_at "gg"
        refine bent_or (S710 _ _ ef7) hp fun l11 xs11 H11 n11 S11 e11 few11 tg11 => ?_
        refine g_exL (SqL.of e11) ?_
        refine lc_empty (src_list (SqL.of e11)) (by omega) (fun i x H' Nx No hi S it kx => ?_) fun l12 H12 n12 S12 e12 => ?_
        · walk_at "gg"
          refine ⟨rfl, ?_⟩
          walk_at "gg"
          refine ⟨x, rfl, tg_same S (tg11 x (List.mem_of_getElem? it)), fun H13 S13 => ?_⟩
          walk_at "gg"
          refine g_ifF rfl ?_
          exact kx _ S13
        walk_at "gg"
        refine g_mkL (by walk_at "ln") fun l13 H13 n13 S13 e13 => ?_
        refine g_neD (.lst (SqL.of (S13 _ _ e12)) .nil) (.lst (SqL.of e13) .nil) (by decide +kernel) (by decide +kernel) ?_
        rw [show PyData.eqv (.list []) (.list []) = true by decide +kernel]
        refine ⟨false, rfl, ?_⟩
        refine g_ifF rfl ?_
        walk_at "gg"
        exact ⟨((S10.trans S11).trans S12).trans S13, _, _, _, _, _, _, _, rfl⟩
      · rintro σ H10 ⟨S10, v5, v6, v7, v8, v9, v10, v11, rfl⟩
        have S710 := S79.trans S10
        have es10 := es7.same S710
        obtain ⟨xs0, e0, d0⟩ := id es10
        have KL : KndC K CL CL "keys" := KA.k 0 (by omega) (by omega)
        have KK : KndC K CL CK "keys" := KA.k 1 (by omega) (by omega)
        have KV : KndC K CL CV "values" := KA.k 2 (by omega) (by omega)
        have SL : WayS CL CK CV CL := ⟨0, by omega, by omega, rfl⟩
        have SK : WayS CL CK CV CK := ⟨1, by omega, by omega, rfl⟩
        have SV : WayS CL CK CV CV := ⟨2, by omega, by omega, rfl⟩
        walk_at "gg"
        refine g_listof (SqL.of e0) fun g11 H11 n11 S11 e11 => ?_
        walk_at "gg"
        refine g_make fun p12 d12 H12 n12 S12 e12 => ?_
        refine ⟨p12, g11, d12, ss, rfl, e12, ⟨xs0, S12 _ _ e11, dp_sameAll (S11.trans S12) _ _ d0⟩, by omega, usS, fun H13 l13 nl13 hp13 z13 B13 => ⟨rfl, ?_⟩⟩
        have S1113 : Same H11 H13 := same_but S12 n12 B13
        walk_at "gg"
        refine g_make fun p14 d14 H14 n14 S14 e14 => ?_
        refine ⟨p14, ps, d14, ss, rfl, e14, es10.same ((S11.trans S1113).trans S14), by omega, usS, fun H15 l15 nl15 hp15 z15 B15 => ⟨rfl, ?_⟩⟩
        have S1315 : Same H13 H15 := same_but S14 n14 B15
        have S1115 := S1113.trans S1315
        have g15 := S1115 _ _ e11
        walk_at "gg"
        refine g_tyL g15 ?_
        walk_at "gg"
        refine g_appB g15 (by have := pts_len d0; omega) fun H16 B16 e16 => ?_
        walk_at "gg"
        refine g_tyL e16 ?_
        refine ⟨g11, _, rfl, rfl, e16, ?_⟩
        have B17 : But g11 H16 (upd H16 g11 (.lst (xs0 ++ [V.non]).reverse)) := fun b u nb e => by rw [upd_ne nb]; exact e
        generalize upd H16 g11 (.lst (xs0 ++ [V.non]).reverse) = H17 at B17 ⊢
        have S1016 : Same H10 H16 := same_but (S11.trans S1115) n11 B16
        have S1017 : Same H10 H17 := same_but S1016 n11 B17
        have ng12 : p12 ≠ g11 := ne_of e12 (S12 _ _ e11) (by intro z; cases z)
        have g12 := S12 _ _ e11
        have ng13 : l13 ≠ g11 := fun q => by
          rw [q, g12] at nl13
          cases nl13
        have ng14 : p14 ≠ g11 := ne_of e14 ((S1113.trans S14) _ _ e11) (by intro z; cases z)
        have ng15 : l15 ≠ g11 := fun q => by
          rw [q, (S1113.trans S14) _ _ e11] at nl15
          cases nl15
        have h12 : H17 p12 = some (.ins CK d12 (lf l13)) := B17 _ _ ng12 (B16 _ _ ng12 (S1315 _ _ hp13))
        have h14 : H17 p14 = some (.ins CL d14 (lf l15)) := B17 _ _ ng14 (B16 _ _ ng14 hp15)
        have q12 : PtsL K H17 l13 ss := pts_but e16 B17 ng13 (pts_but g15 B16 ng13 (z13.same S1315))
        have q14 : PtsL K H17 l15 ss := pts_but e16 B17 ng15 (pts_but g15 B16 ng15 z15)
        have L1 : LnD K CK H17 p12 (ss.map Kd.D) := lnd_int ⟨d12, l13, h12, q12⟩
        have L2' : LnD K CL H17 p14 (ss.map Kd.D) := lnd_int ⟨d14, l15, h14, q14⟩
        have pt : PtD (ss.map Kd.D) := .inl ⟨ss, rfl⟩
        walk_at "gg"
        refine g_propF h12 SK ⟨p12, CK, _, rfl, SK, L1, fun l18 xs18 H18 n18 S18 e18 d18 => ?_⟩
        walk_at "gg"
        have S1018 := S1017.trans S18
        refine g_neD (.lst (SqL.of e18) d18) (.lst (SqL.of (S1018 _ _ e0)) (dp_sameAll S1018 _ _ d0)) (ptd_shape pt) (ptd_shape pt) ?_
        rw [(ptd_eqv pt pt).mpr rfl]
        walk_at "gg"
        refine g_ifF rfl ?_
        walk_at "gg"
        have L1' := L1.same S18
        have L2'' := L2'.same S18
        have k12 := S18 _ _ h12
        have k14 := S18 _ _ h14
        refine .inl ⟨p12, CK, d12, _, .ref CL, rfl, k12, SK, KL.ty k14, nf_of OC.lk, p12, _, _, "keys", rfl, L1', KK, .inr ⟨p14, CL, _, "keys", rfl, SL, L2'', KL, fun c hc => ⟨c, rfl, ?_⟩⟩⟩
        rw [show c = true from hc.mpr ⟨rfl, rfl⟩]
        walk_at "gg"
        refine g_ifF rfl ?_
        walk_at "gg"
        refine .inl ⟨p12, CK, d12, _, .ref CL, rfl, k12, SK, KL.ty k14, nf_of OC.lk, p12, _, _, "keys", rfl, L1', KK, .inr ⟨p14, CL, _, "keys", rfl, SL, L2'', KL, fun c hc => ⟨c, rfl, ?_⟩⟩⟩
        rw [show c = true from hc.mpr ⟨rfl, rfl⟩]
        walk_at "gg"
        refine g_ifF rfl ?_
        walk_at "gg"
        refine .inr (.inl ⟨p14, p12, CL, CK, d14, d12, _, _, rfl, rfl, k14, k12, SK, OC.uk, OC.su, p12, _, _, "keys", rfl, L1', KK, .inr ⟨p14, CL, _, "keys", rfl, SL, L2'', KL, fun c hc => ⟨c, rfl, ?_⟩⟩⟩)
        rw [show c = true from hc.mpr ⟨rfl, rfl⟩]
        refine ⟨_, rfl, ?_⟩
        refine g_ifF rfl ?_
        with_reducible refine g_next ?_
        with_reducible refine g_ifS ?_
        with_reducible refine g_or ?_
        refine g_cutT (tt := tAnd _ _) (fun b H' => b = false ∧ Same H18 H') (fun C' kc => ?_) ?_
        · walk_at "gg"
          refine g_mkL (by walk_at "ln") fun p19 H19 n19 S19 e19 => ?_
          walk_at "gg"
          refine g_neNil (es10.same (S1018.trans S19)) e19 ?_
          refine ⟨_, rfl, ?_⟩
          refine g_iteNd (fun ne => ?_) (fun e => ?_)
          rotate_left
          · exact kc _ _ ⟨rfl, S19⟩
          have pos : 0 < ss.length := by
            cases ss with
            | nil => exact absurd rfl ne
            | cons a t => simp
          walk_at "gg"
          refine g_fromP (es10.same (S1018.trans S19)) (by omega) (by show 1 ≤ _; omega) fun p20 H20 n20 S20 z20 => ?_
          walk_at "gg"
          refine g_make fun p21 d21 H21 n21 S21 e21 => ?_
          have up20 : Up (ss.drop (1 : Int).toNat) := usS.sublist (List.drop_sublist _ _)
          refine ⟨p21, p20, d21, _, rfl, e21, z20.same S21, by rw [List.length_drop]; omega, up20, fun H22 l22 nl22 hp22 z22 B22 => ⟨rfl, ?_⟩⟩
          have S2022 : Same H20 H22 := same_but S21 n21 B22
          have S1822 := (S19.trans S20).trans S2022
          walk_at "gg"
          have LX : LnD K CK H22 p21 ((ss.drop (1 : Int).toNat).map Kd.D) := lnd_int ⟨d21, l22, hp22, z22⟩
          refine .inl ⟨p21, CK, d21, _, .ref CK, rfl, hp22, SK, KK.ty (S1822 _ _ k12), nf_self, p21, _, _, "keys", rfl, LX, KK, .inr ⟨p12, CK, _, "keys", rfl, SK, L1'.same S1822, KK, fun c hc => ⟨c, rfl, ?_⟩⟩⟩
          have cf : c = false := by
            cases c with
            | false => rfl
            | true =>
              have := congrArg List.length (hc.mp rfl).2
              rw [List.length_map, List.length_map, List.length_drop] at this
              have t1 : (1 : Int).toNat = 1 := rfl
              omega
          rw [cf]
          refine ⟨false, rfl, ?_⟩
          exact kc _ _ ⟨rfl, S1822⟩
        rintro b H19 ⟨rfl, S19⟩
        refine g_ifF rfl ?_
        walk_at "gg"
        have S1019 := S1018.trans S19
        refine ⟨ps, rfl, lc_someL (dt_of_pts (es10.same S1019)) (by omega) (fun n => some ((n, n) : Pr)) (fun x b H' Nx No hb hx S kx _ => ?_) fun p20 H20 n20 S20 z20 => ?_⟩
        · cases (hx : Dp K H' x (.int b))
          walk_at "gg"
          refine ⟨rfl, ?_⟩
          walk_at "gg"
          refine g_ifT rfl ?_
          walk_at "gg"
          refine g_mkT (by walk_at "ln") fun t21 H21 m21 S21 e21 => ?_
          exact kx _ _ _ S21 rfl (pr_of (p := (b, b)) (SqT.of e21))
        walk_at "gg"
        have fm : ss.filterMap (fun n => some ((n, n) : Pr)) = ss.map fun n => ((n, n) : Pr) := by
          rw [← List.filterMap_eq_map]
          rfl
        rw [fm] at z20
        refine g_make fun p21 d21 H21 n21 S21 e21 => ?_
        have up20 : Up (ss.map fun n => ((n, n) : Pr)) := by
          refine List.pairwise_map.mpr (usS.imp fun {a b} z => ?_)
          have z : a < b := of_decide_eq_true z
          exact decide_eq_true (.inl z)
        refine ⟨p21, p20, d21, _, rfl, e21, (pts_of_dt z20).same S21, by rw [List.length_map]; omega, up20, fun H22 l22 nl22 hp22 z22 B22 => ⟨rfl, ?_⟩⟩
        have S2022 : Same H20 H22 := same_but S21 n21 B22
        have S1822 := (S19.trans S20).trans S2022
        walk_at "gg"
        have LX : LnD K CV H22 p21 _ := lnd_pr ⟨d21, l22, hp22, z22⟩
        refine .inl ⟨p21, CV, d21, _, .ref CK, rfl, hp22, SV, KK.ty (S1822 _ _ k12), nf_of OC.kv, p21, _, _, "values", rfl, LX, KV, .inr ⟨p12, CK, _, "keys", rfl, SK, L1'.same S1822, KK, fun c hc => ⟨c, rfl, ?_⟩⟩⟩
        have cf : c = false := by
          cases c with
          | false => rfl
          | true => exact absurd (hc.mp rfl).1 (by decide)
        rw [cf]
        refine ⟨false, rfl, ?_⟩
        refine g_ifF rfl ?_
        walk_at "gg"
        exact ⟨_, _, _, _, _, _, _, _, _, _, _, rfl, ((((((S1.trans S2).trans S3).trans S6).trans S7).trans S710).trans S1018).trans S1822⟩
    · rintro σ H1 ⟨v1, v2, v3, v4, v5, v6, v7, v8, v9, v10, v11, rfl, S1⟩
      have KL : KndC K CL CL "keys" := KA.k 0 (by omega) (by omega)
      have KK : KndC K CL CK "keys" := KA.k 1 (by omega) (by omega)
      have KV : KndC K CL CV "values" := KA.k 2 (by omega) (by omega)
      have SL : WayS CL CK CV CL := ⟨0, by omega, by omega, rfl⟩
      have SK : WayS CL CK CV CK := ⟨1, by omega, by omega, rfl⟩
      have SV : WayS CL CK CV CV := ⟨2, by omega, by omega, rfl⟩
      walk_at "gg"
      refine g_lrg (by omega) (by omega) fun f1 H2 n2 S2 e2 => ?_
      walk_at "gg"
      refine g_lrg (by omega) (by omega) fun f2 H3 n3 S3 e3 => ?_
      walk_at "gg"
      refine lc_pts (α := Pr) (K := K) src_rng (by omega) (fun _ => True) (fun i x H' Nx hi S it kx => ?_) fun f3 rs H4 n4 S4 e4 _ l4 => ?_
      · subst it
        walk_at "gg"
        refine ⟨rfl, ?_⟩
        walk_at "gg"
        refine g_mkT (by walk_at "ln") fun t5 H5 n5 S5 e5 => ?_
        exact kx _ (0, (i : Int)) _ S5 (by have := pr_of (K := K) (p := (0, 0 + (i : Int))) (SqT.of e5); rw [Int.zero_add] at this; exact this) trivial
      walk_at "gg"
      refine g_mkL (by walk_at "ln") fun l5 H5 n5 S5 e5 => ?_
      walk_at "gg"
      -- Line([]) == ValueLine([])
      have nil' : ∀ {H : Hp} {p : Addr} {α : Type} [Kd α], H p = some (.lst []) → PtsL K H p ([] : List α) := fun e => ⟨[], e, .nil⟩
      refine g_mkL (by walk_at "ln") fun p6 H6 n6 S6 e6 => ?_
      walk_at "gg"
      refine g_make fun p7 d7 H7 n7 S7 e7 => ?_
      refine ⟨p7, p6, d7, [], rfl, e7, nil' (S7 _ _ e6), by simp, .nil, fun H8 l8 nl8 hp8 z8 B8 => ⟨rfl, ?_⟩⟩
      have S68 : Same H6 H8 := same_but S7 n7 B8
      walk_at "gg"
      refine g_mkL (by walk_at "ln") fun p9 H9 n9 S9 e9 => ?_
      walk_at "gg"
      refine g_make fun p10 d10 H10 n10 S10 e10 => ?_
      refine ⟨p10, p9, d10, [], rfl, e10, nil' (S10 _ _ e9), by simp, .nil, fun H11 l11 nl11 hp11 z11 B11 => ⟨rfl, ?_⟩⟩
      have S911 : Same H9 H11 := same_but S10 n10 B11
      have S511 := (((S6.trans S68).trans S9).trans S911)
      walk_at "gg"
      refine .inr (.inl ⟨p7, p10, CL, CV, d7, d10, _, _, rfl, rfl, (S9.trans S911) _ _ hp8, hp11, SV, OC.uv, OC.sv, p10, _, _, "values", rfl, lnd_pr ⟨d10, l11, hp11, z11⟩, KV, .inr ⟨p7, CL, _, "keys", rfl, SL, (lnd_int ⟨d7, l8, hp8, z8⟩).same (S9.trans S911), KL, fun c hc => ⟨c, rfl, ?_⟩⟩⟩)
      have cf : c = false := by
        cases c with
        | false => rfl
        | true => exact absurd (hc.mp rfl).1 (by decide)
      subst cf
      clear hc
      walk_at "gg"
      -- KeyLine([]) == ValueLine([])
      refine g_mkL (by walk_at "ln") fun p12 H12 n12 S12 e12 => ?_
      walk_at "gg"
      refine g_make fun p13 d13 H13 n13 S13 e13 => ?_
      refine ⟨p13, p12, d13, [], rfl, e13, nil' (S13 _ _ e12), by simp, .nil, fun H14 l14 nl14 hp14 z14 B14 => ⟨rfl, ?_⟩⟩
      have S1214 : Same H12 H14 := same_but S13 n13 B14
      walk_at "gg"
      refine g_mkL (by walk_at "ln") fun p15 H15 n15 S15 e15 => ?_
      walk_at "gg"
      refine g_make fun p16 d16 H16 n16 S16 e16 => ?_
      refine ⟨p16, p15, d16, [], rfl, e16, nil' (S16 _ _ e15), by simp, .nil, fun H17 l17 nl17 hp17 z17 B17 => ⟨rfl, ?_⟩⟩
      have S1517 : Same H15 H17 := same_but S16 n16 B17
      have S1117 := (((S12.trans S1214).trans S15).trans S1517)
      walk_at "gg"
      refine .inl ⟨p13, CK, d13, _, .ref CV, rfl, (S15.trans S1517) _ _ hp14, SK, KV.ty hp17, nf_of OC.vk, p13, _, _, "keys", rfl, (lnd_int ⟨d13, l14, hp14, z14⟩).same (S15.trans S1517), KK, .inr ⟨p16, CV, _, "values", rfl, SV, lnd_pr ⟨d16, l17, hp17, z17⟩, KV, fun c hc => ⟨c, rfl, ?_⟩⟩⟩
      have cf : c = false := by
        cases c with
        | false => rfl
        | true => exact absurd (hc.mp rfl).1 (by decide)
      subst cf
      clear hc
      walk_at "gg"
      -- KeyLine([]) == Line([])
      refine g_mkL (by walk_at "ln") fun p18 H18 n18 S18 e18 => ?_
      walk_at "gg"
      refine g_make fun p19 d19 H19 n19 S19 e19 => ?_
      refine ⟨p19, p18, d19, [], rfl, e19, nil' (S19 _ _ e18), by simp, .nil, fun H20 l20 nl20 hp20 z20 B20 => ⟨rfl, ?_⟩⟩
      have S1820 : Same H18 H20 := same_but S19 n19 B20
      walk_at "gg"
      refine g_mkL (by walk_at "ln") fun p21 H21 n21 S21 e21 => ?_
      walk_at "gg"
      refine g_make fun p22 d22 H22 n22 S22 e22 => ?_
      refine ⟨p22, p21, d22, [], rfl, e22, nil' (S22 _ _ e21), by simp, .nil, fun H23 l23 nl23 hp23 z23 B23 => ⟨rfl, ?_⟩⟩
      have S2123 : Same H21 H23 := same_but S22 n22 B23
      have S1723 := (((S18.trans S1820).trans S21).trans S2123)
      walk_at "gg"
      refine .inl ⟨p19, CK, d19, _, .ref CL, rfl, (S21.trans S2123) _ _ hp20, SK, KL.ty hp23, nf_of OC.lk, p19, _, _, "keys", rfl, (lnd_int ⟨d19, l20, hp20, z20⟩).same (S21.trans S2123), KK, .inr ⟨p22, CL, _, "keys", rfl, SL, lnd_int ⟨d22, l23, hp23, z23⟩, KL, fun c hc => ⟨c, rfl, ?_⟩⟩⟩
      obtain rfl : c = true := hc.mpr ⟨rfl, rfl⟩
      clear hc
      walk_at "gg"
      -- KeyLine([]) == []
      refine g_mkL (by walk_at "ln") fun p24 H24 n24 S24 e24 => ?_
      walk_at "gg"
      refine g_make fun p25 d25 H25 n25 S25 e25 => ?_
      refine ⟨p25, p24, d25, [], rfl, e25, nil' (S25 _ _ e24), by simp, .nil, fun H26 l26 nl26 hp26 z26 B26 => ⟨rfl, ?_⟩⟩
      have S2426 : Same H24 H26 := same_but S25 n25 B26
      walk_at "gg"
      refine g_mkL (by walk_at "ln") fun p27 H27 n27 S27 e27 => ?_
      walk_at "gg"
      refine .inl ⟨p25, CK, d25, _, .type "list", rfl, S27 _ _ hp26, SK, .base (.lst e27), nf_of (KA.nl CK SK), p25, _, _, "keys", rfl, (lnd_int ⟨d25, l26, hp26, z26⟩).same S27, KK, .inl ⟨_, .base (.lst e27), KA.nl CL SL, false, rfl, ?_⟩⟩
      walk_at "gg"
      refine g_mkL (by walk_at "ln") fun p28 H28 n28 S28 e28 => ?_
      walk_at "gg"
      have S528 : Same H5 H28 := (((S511.trans S1117).trans S1723).trans ((S24.trans S2426).trans S27)).trans S28
      have intsP : ∀ {H : Hp} {p : Addr} {n : Int}, H p = some (.lst (rgV 0 n)) → PtsL K H p ((List.range n.toNat).map fun i : Nat => (i : Int)) := fun {H p n} e => by
        rw [rgV_ints n] at e
        exact ptsI e
      have up1 : ∀ n : Nat, Up ((List.range n).map fun i : Nat => (i : Int)) := fun n => List.pairwise_map.mpr (List.pairwise_lt_range.imp fun {a b} z => decide_eq_true (by omega))
      have S228 : Same H2 H28 := ((S3.trans S4).trans S5).trans S528
      have S328 : Same H3 H28 := (S4.trans S5).trans S528
      have S428 : Same H4 H28 := S5.trans S528
      refine g_ixL (SqL.of (S528 _ _ e5)) rfl ?_
      walk_at "gg"
      refine ⟨0, .ref f1, some _, rfl, by omega, by omega, .inl ⟨f1, _, rfl, S228 _ _ e2⟩, .inl ⟨by omega, some _, ⟨f1, rfl, intsP (S228 _ _ e2), up1 _, by rw [List.length_map, List.length_range]; decide⟩, rfl⟩, fun ds p29 H29 ej n29 S29 L29 => ?_, fun z => nomatch z⟩
      walk_at "gg"
      refine g_ixL (SqL.of (S29 _ _ (S528 _ _ e5))) rfl ?_
      walk_at "gg"
      have S329 := S328.trans S29
      refine ⟨1, .ref f2, none, rfl, by omega, by omega, .inl ⟨f2, _, rfl, S329 _ _ e3⟩, .inl ⟨by omega, none, .inl ⟨f2, _, rfl, ine_pts (intsP (S329 _ _ e3)), by rw [List.length_map, List.length_map, List.length_range]; decide, ?_⟩, rfl⟩, fun _ _ _ z => (nomatch z), fun _ H30 S30 => ?_⟩
      · unfold okLn
        rw [List.length_map, List.length_map, List.length_range, decide_eq_false (by decide)]
        rfl
      walk_at "gg"
      refine g_ixL (SqL.of ((S29.trans S30) _ _ (S528 _ _ e5))) rfl ?_
      walk_at "gg"
      have S430 := (S428.trans S29).trans S30
      have pr30 := e4.same S430
      obtain ⟨ys3, ey3, _⟩ := id pr30
      refine ⟨2, .ref f3, none, rfl, by omega, by omega, .inl ⟨f3, _, rfl, ey3⟩, .inr ⟨by omega, none, .inl ⟨f3, _, rfl, ine_pts pr30, by rw [List.length_map, l4]; decide, ?_⟩, rfl⟩, fun _ _ _ z => (nomatch z), fun _ H31 S31 => ?_⟩
      · unfold okLn
        rw [List.length_map, l4, decide_eq_false (by decide)]
        rfl
      walk_at "gg"
      refine g_mkL (by walk_at "ln") fun p32 H32 n32 S32 e32 => ?_
      walk_at "gg"
      have S2832 := ((S29.trans S30).trans S31).trans S32
      refine g_cat (S2832 _ _ e28) e32 (by simp) fun p33 H33 n33 S33 e33 => ?_
      walk_at "gg"
      refine g_mkL (by walk_at "ln") fun p34 H34 n34 S34 e34 => ?_
      walk_at "gg"
      refine g_eqD (d := .list [.bool false, .bool false, .bool true, .bool false, .bool false, .bool true, .bool true]) (e := .list [.bool false, .bool false, .bool true, .bool false, .bool false, .bool true, .bool true])
        (.lst (SqL.of (S34 _ _ e33)) (.cons (.bl _) (.cons (.bl _) (.cons (.bl _) (.cons (.bl _) (.cons (.bl _) (.cons (.bl _) (.cons (.bl _) .nil))))))))
        (.lst (SqL.of e34) (.cons (.bl _) (.cons (.bl _) (.cons (.bl _) (.cons (.bl _) (.cons (.bl _) (.cons (.bl _) (.cons (.bl _) .nil)))))))) (by decide +kernel) (by decide +kernel) ?_
      rw [show PyData.eqv (.list [.bool false, .bool false, .bool true, .bool false, .bool false, .bool true, .bool true]) (.list [.bool false, .bool false, .bool true, .bool false, .bool false, .bool true, .bool true]) = true by decide +kernel]
      refine ⟨true, rfl, ?_⟩
      refine g_ifT rfl ?_
      walk_at "gg"
      refine g_mkL (by walk_at "ln") fun p35 H35 n35 S35 e35 => ?_
      walk_at "gg"
      refine g_make fun p36 d36 H36 n36 S36 e36 => ?_
      refine ⟨p36, p35, d36, [], rfl, e36, nil' (S36 _ _ e35), by simp, .nil, fun H37 l37 nl37 hp37 z37 B37 => ⟨rfl, ?_⟩⟩
      have S3537 : Same H35 H37 := same_but S36 n36 B37
      walk_at "gg"
      refine g_isi (.own CL) (KV.ty hp37) KV.under ?_
      walk_at "gg"
      exact k _ (((((S1.trans S2).trans S228).trans S2832).trans (S33.trans S34)).trans (S35.trans S3537))
end
end Gk

namespace Gk
open PySem L2 Gx PySem.Spec PyProof.Rows
open C8 (Cal Met Mak pe_c pe_mt pe_mt0 pe_mk pe_gc)
theorem all_mk {l : PySem.W.OpenLaw} {w : World} {K : PySem.W.Frag} {h : Heap} {mg : Str → Option Value} {fa C_Found C_Line C_KeyLine C_ValueLine f_law f_flow f_dip f_spots f_pairs f_whole f_good f_made f_tried f_bent f_is_whole_number f_Found_init f_Line_init f_Line_is_point f_Line_count_less f_Line_contains f_Line_eq f_Line_len f_Line_points p_Line_points p_KeyLine_points f_ValueLine_is_point p_ValueLine_points C_InvalidPoints C_LockError : Addr} (X : K.In h) (G : h.Ns mainGlobals mg) (hfa : mg "law" = some (.ref fa))
    {od_law an_law od_flow an_flow od_dip an_dip od_spots an_spots od_pairs an_pairs od_whole an_whole od_good an_good od_made an_made od_tried an_tried od_bent an_bent od_is_whole_number an_is_whole_number od_Found_init an_Found_init od_Line_init an_Line_init od_Line_is_point an_Line_is_point od_Line_count_less an_Line_count_less od_Line_contains an_Line_contains od_Line_eq an_Line_eq od_Line_len an_Line_len od_Line_points an_Line_points od_ValueLine_is_point an_ValueLine_is_point : Option Addr} {sl_law sl_flow sl_dip sl_spots sl_pairs sl_whole sl_good sl_made sl_tried sl_bent sl_is_whole_number sl_Found_init sl_Line_init sl_Line_is_point sl_Line_count_less sl_Line_contains sl_Line_eq sl_Line_len sl_Line_points sl_ValueLine_is_point : Array (Option Value)} {oc_law kV_law dc_law pm_law cd_law ct_law oc_flow kV_flow dc_flow pm_flow cd_flow ct_flow oc_dip kV_dip dc_dip pm_dip cd_dip ct_dip oc_spots kV_spots dc_spots pm_spots cd_spots ct_spots oc_pairs kV_pairs dc_pairs pm_pairs cd_pairs ct_pairs oc_whole kV_whole dc_whole pm_whole cd_whole ct_whole oc_good kV_good dc_good pm_good cd_good ct_good oc_made kV_made dc_made pm_made cd_made ct_made oc_tried kV_tried dc_tried pm_tried cd_tried ct_tried oc_bent kV_bent dc_bent pm_bent cd_bent ct_bent oc_is_whole_number kV_is_whole_number dc_is_whole_number pm_is_whole_number cd_is_whole_number ct_is_whole_number oc_Found_init kV_Found_init dc_Found_init pm_Found_init cd_Found_init ct_Found_init oc_Line_init kV_Line_init dc_Line_init pm_Line_init cd_Line_init ct_Line_init oc_Line_is_point kV_Line_is_point dc_Line_is_point pm_Line_is_point cd_Line_is_point ct_Line_is_point oc_Line_count_less kV_Line_count_less dc_Line_count_less pm_Line_count_less cd_Line_count_less ct_Line_count_less oc_Line_contains kV_Line_contains dc_Line_contains pm_Line_contains cd_Line_contains ct_Line_contains oc_Line_eq kV_Line_eq dc_Line_eq pm_Line_eq cd_Line_eq ct_Line_eq oc_Line_len kV_Line_len dc_Line_len pm_Line_len cd_Line_len ct_Line_len oc_Line_points kV_Line_points dc_Line_points pm_Line_points cd_Line_points ct_Line_points oc_ValueLine_is_point kV_ValueLine_is_point dc_ValueLine_is_point pm_ValueLine_is_point cd_ValueLine_is_point ct_ValueLine_is_point : Value} {r_Line_points r_KeyLine_points r_ValueLine_points : List Value} {tk_Line_KIND tk_KeyLine_KIND tk_ValueLine_KIND tk_MOST_POINTS : Tok}
    (aC_Found : PySem.W.nsIn K mainGlobals "Found" = some (some (.ref C_Found)))
    (aC_Line : PySem.W.nsIn K mainGlobals "Line" = some (some (.ref C_Line)))
    (aC_KeyLine : PySem.W.nsIn K mainGlobals "KeyLine" = some (some (.ref C_KeyLine)))
    (aC_ValueLine : PySem.W.nsIn K mainGlobals "ValueLine" = some (some (.ref C_ValueLine)))
    (a_law : PySem.W.nsIn K mainGlobals "law" = some (some (.ref f_law)))
    (l_law : K.lookup f_law = some ⟨oc_law, od_law, .func (PySem.W.fnOf "law" "law" (defArgs s_law) (defBody s_law) (defScope s_law) .none kV_law dc_law pm_law an_law cd_law ct_law), sl_law⟩)
    (c_law : PySem.W.codeIn K cd_law "law" = true)
    (k_law : PySem.W.keepIn K (.ref f_law) = true)
    (a_flow : PySem.W.nsIn K mainGlobals "_law_flow" = some (some (.ref f_flow)))
    (l_flow : K.lookup f_flow = some ⟨oc_flow, od_flow, .func (PySem.W.fnOf "_law_flow" "_law_flow" (defArgs s_flow) (defBody s_flow) (defScope s_flow) .none kV_flow dc_flow pm_flow an_flow cd_flow ct_flow), sl_flow⟩)
    (c_flow : PySem.W.codeIn K cd_flow "_law_flow" = true)
    (k_flow : PySem.W.keepIn K (.ref f_flow) = true)
    (a_dip : PySem.W.nsIn K mainGlobals "_law_dip" = some (some (.ref f_dip)))
    (l_dip : K.lookup f_dip = some ⟨oc_dip, od_dip, .func (PySem.W.fnOf "_law_dip" "_law_dip" (defArgs s_dip) (defBody s_dip) (defScope s_dip) .none kV_dip dc_dip pm_dip an_dip cd_dip ct_dip), sl_dip⟩)
    (c_dip : PySem.W.codeIn K cd_dip "_law_dip" = true)
    (k_dip : PySem.W.keepIn K (.ref f_dip) = true)
    (a_spots : PySem.W.nsIn K mainGlobals "_law_spots" = some (some (.ref f_spots)))
    (l_spots : K.lookup f_spots = some ⟨oc_spots, od_spots, .func (PySem.W.fnOf "_law_spots" "_law_spots" (defArgs s_spots) (defBody s_spots) (defScope s_spots) .none kV_spots dc_spots pm_spots an_spots cd_spots ct_spots), sl_spots⟩)
    (c_spots : PySem.W.codeIn K cd_spots "_law_spots" = true)
    (k_spots : PySem.W.keepIn K (.ref f_spots) = true)
    (a_pairs : PySem.W.nsIn K mainGlobals "_law_pairs" = some (some (.ref f_pairs)))
    (l_pairs : K.lookup f_pairs = some ⟨oc_pairs, od_pairs, .func (PySem.W.fnOf "_law_pairs" "_law_pairs" (defArgs s_pairs) (defBody s_pairs) (defScope s_pairs) .none kV_pairs dc_pairs pm_pairs an_pairs cd_pairs ct_pairs), sl_pairs⟩)
    (c_pairs : PySem.W.codeIn K cd_pairs "_law_pairs" = true)
    (k_pairs : PySem.W.keepIn K (.ref f_pairs) = true)
    (a_whole : PySem.W.nsIn K mainGlobals "_law_whole" = some (some (.ref f_whole)))
    (l_whole : K.lookup f_whole = some ⟨oc_whole, od_whole, .func (PySem.W.fnOf "_law_whole" "_law_whole" (defArgs s_whole) (defBody s_whole) (defScope s_whole) .none kV_whole dc_whole pm_whole an_whole cd_whole ct_whole), sl_whole⟩)
    (c_whole : PySem.W.codeIn K cd_whole "_law_whole" = true)
    (k_whole : PySem.W.keepIn K (.ref f_whole) = true)
    (a_good : PySem.W.nsIn K mainGlobals "_law_good" = some (some (.ref f_good)))
    (l_good : K.lookup f_good = some ⟨oc_good, od_good, .func (PySem.W.fnOf "_law_good" "_law_good" (defArgs s_good) (defBody s_good) (defScope s_good) .none kV_good dc_good pm_good an_good cd_good ct_good), sl_good⟩)
    (c_good : PySem.W.codeIn K cd_good "_law_good" = true)
    (k_good : PySem.W.keepIn K (.ref f_good) = true)
    (a_made : PySem.W.nsIn K mainGlobals "_law_made" = some (some (.ref f_made)))
    (l_made : K.lookup f_made = some ⟨oc_made, od_made, .func (PySem.W.fnOf "_law_made" "_law_made" (defArgs s_made) (defBody s_made) (defScope s_made) .none kV_made dc_made pm_made an_made cd_made ct_made), sl_made⟩)
    (c_made : PySem.W.codeIn K cd_made "_law_made" = true)
    (k_made : PySem.W.keepIn K (.ref f_made) = true)
    (a_tried : PySem.W.nsIn K mainGlobals "_law_tried" = some (some (.ref f_tried)))
    (l_tried : K.lookup f_tried = some ⟨oc_tried, od_tried, .func (PySem.W.fnOf "_law_tried" "_law_tried" (defArgs s_tried) (defBody s_tried) (defScope s_tried) .none kV_tried dc_tried pm_tried an_tried cd_tried ct_tried), sl_tried⟩)
    (c_tried : PySem.W.codeIn K cd_tried "_law_tried" = true)
    (k_tried : PySem.W.keepIn K (.ref f_tried) = true)
    (a_bent : PySem.W.nsIn K mainGlobals "_law_bent" = some (some (.ref f_bent)))
    (l_bent : K.lookup f_bent = some ⟨oc_bent, od_bent, .func (PySem.W.fnOf "_law_bent" "_law_bent" (defArgs s_bent) (defBody s_bent) (defScope s_bent) .none kV_bent dc_bent pm_bent an_bent cd_bent ct_bent), sl_bent⟩)
    (c_bent : PySem.W.codeIn K cd_bent "_law_bent" = true)
    (k_bent : PySem.W.keepIn K (.ref f_bent) = true)
    (a_is_whole_number : PySem.W.nsIn K mainGlobals "is_whole_number" = some (some (.ref f_is_whole_number)))
    (l_is_whole_number : K.lookup f_is_whole_number = some ⟨oc_is_whole_number, od_is_whole_number, .func (PySem.W.fnOf "is_whole_number" "is_whole_number" (defArgs s_is_whole_number) (defBody s_is_whole_number) (defScope s_is_whole_number) .none kV_is_whole_number dc_is_whole_number pm_is_whole_number an_is_whole_number cd_is_whole_number ct_is_whole_number), sl_is_whole_number⟩)
    (c_is_whole_number : PySem.W.codeIn K cd_is_whole_number "is_whole_number" = true)
    (k_is_whole_number : PySem.W.keepIn K (.ref f_is_whole_number) = true)
    (a_Found_init : PySem.W.findIn K (.ref C_Found) "__init__" = some (some (.ref f_Found_init)))
    (i_Found_init : PySem.W.isFn K (.ref f_Found_init) = true)
    (l_Found_init : K.lookup f_Found_init = some ⟨oc_Found_init, od_Found_init, .func (PySem.W.fnOf "__init__" "Found.__init__" (defArgs s_Found_init) (defBody s_Found_init) (defScope s_Found_init) .none kV_Found_init dc_Found_init pm_Found_init an_Found_init cd_Found_init ct_Found_init), sl_Found_init⟩)
    (c_Found_init : PySem.W.codeIn K cd_Found_init "Found.__init__" = true)
    (k_Found_init : PySem.W.keepIn K (.ref f_Found_init) = true)
    (pg_Found : PySem.W.plainGet K C_Found Str.empty = true)
    (hd_Found : PySem.W.hasDictIn K C_Found = true)
    (po_Found : PySem.W.plainOver K C_Found = true)
    (sa_Found : PySem.W.findIn K (.ref C_Found) "__setattr__" = some (some (.builtin "object.__setattr__")))
    (mk_Found : PySem.W.makesIn K C_Found = true)
    (kc_Found : PySem.W.keepIn K (.ref C_Found) = true)
    (n_Found_found_points : PySem.W.findIn K (.ref C_Found) "found_points" = some none)
    (a_Line_init : PySem.W.findIn K (.ref C_Line) "__init__" = some (some (.ref f_Line_init)))
    (i_Line_init : PySem.W.isFn K (.ref f_Line_init) = true)
    (l_Line_init : K.lookup f_Line_init = some ⟨oc_Line_init, od_Line_init, .func (PySem.W.fnOf "__init__" "Line.__init__" (defArgs s_Line_init) (defBody s_Line_init) (defScope s_Line_init) .none kV_Line_init dc_Line_init pm_Line_init an_Line_init cd_Line_init ct_Line_init), sl_Line_init⟩)
    (c_Line_init : PySem.W.codeIn K cd_Line_init "Line.__init__" = true)
    (k_Line_init : PySem.W.keepIn K (.ref f_Line_init) = true)
    (a_Line_is_point : PySem.W.findIn K (.ref C_Line) "is_point" = some (some (.ref f_Line_is_point)))
    (i_Line_is_point : PySem.W.isFn K (.ref f_Line_is_point) = true)
    (l_Line_is_point : K.lookup f_Line_is_point = some ⟨oc_Line_is_point, od_Line_is_point, .func (PySem.W.fnOf "is_point" "Line.is_point" (defArgs s_Line_is_point) (defBody s_Line_is_point) (defScope s_Line_is_point) .none kV_Line_is_point dc_Line_is_point pm_Line_is_point an_Line_is_point cd_Line_is_point ct_Line_is_point), sl_Line_is_point⟩)
    (c_Line_is_point : PySem.W.codeIn K cd_Line_is_point "Line.is_point" = true)
    (k_Line_is_point : PySem.W.keepIn K (.ref f_Line_is_point) = true)
    (a_Line_count_less : PySem.W.findIn K (.ref C_Line) "count_less" = some (some (.ref f_Line_count_less)))
    (i_Line_count_less : PySem.W.isFn K (.ref f_Line_count_less) = true)
    (l_Line_count_less : K.lookup f_Line_count_less = some ⟨oc_Line_count_less, od_Line_count_less, .func (PySem.W.fnOf "count_less" "Line.count_less" (defArgs s_Line_count_less) (defBody s_Line_count_less) (defScope s_Line_count_less) .none kV_Line_count_less dc_Line_count_less pm_Line_count_less an_Line_count_less cd_Line_count_less ct_Line_count_less), sl_Line_count_less⟩)
    (c_Line_count_less : PySem.W.codeIn K cd_Line_count_less "Line.count_less" = true)
    (k_Line_count_less : PySem.W.keepIn K (.ref f_Line_count_less) = true)
    (a_Line_contains : PySem.W.findIn K (.ref C_Line) "__contains__" = some (some (.ref f_Line_contains)))
    (i_Line_contains : PySem.W.isFn K (.ref f_Line_contains) = true)
    (l_Line_contains : K.lookup f_Line_contains = some ⟨oc_Line_contains, od_Line_contains, .func (PySem.W.fnOf "__contains__" "Line.__contains__" (defArgs s_Line_contains) (defBody s_Line_contains) (defScope s_Line_contains) .none kV_Line_contains dc_Line_contains pm_Line_contains an_Line_contains cd_Line_contains ct_Line_contains), sl_Line_contains⟩)
    (c_Line_contains : PySem.W.codeIn K cd_Line_contains "Line.__contains__" = true)
    (k_Line_contains : PySem.W.keepIn K (.ref f_Line_contains) = true)
    (a_Line_eq : PySem.W.findIn K (.ref C_Line) "__eq__" = some (some (.ref f_Line_eq)))
    (i_Line_eq : PySem.W.isFn K (.ref f_Line_eq) = true)
    (l_Line_eq : K.lookup f_Line_eq = some ⟨oc_Line_eq, od_Line_eq, .func (PySem.W.fnOf "__eq__" "Line.__eq__" (defArgs s_Line_eq) (defBody s_Line_eq) (defScope s_Line_eq) .none kV_Line_eq dc_Line_eq pm_Line_eq an_Line_eq cd_Line_eq ct_Line_eq), sl_Line_eq⟩)
    (c_Line_eq : PySem.W.codeIn K cd_Line_eq "Line.__eq__" = true)
    (k_Line_eq : PySem.W.keepIn K (.ref f_Line_eq) = true)
    (a_Line_len : PySem.W.findIn K (.ref C_Line) "__len__" = some (some (.ref f_Line_len)))
    (i_Line_len : PySem.W.isFn K (.ref f_Line_len) = true)
    (l_Line_len : K.lookup f_Line_len = some ⟨oc_Line_len, od_Line_len, .func (PySem.W.fnOf "__len__" "Line.__len__" (defArgs s_Line_len) (defBody s_Line_len) (defScope s_Line_len) .none kV_Line_len dc_Line_len pm_Line_len an_Line_len cd_Line_len ct_Line_len), sl_Line_len⟩)
    (c_Line_len : PySem.W.codeIn K cd_Line_len "Line.__len__" = true)
    (k_Line_len : PySem.W.keepIn K (.ref f_Line_len) = true)
    (pg_Line : PySem.W.plainGet K C_Line Str.empty = true)
    (hd_Line : PySem.W.hasDictIn K C_Line = true)
    (po_Line : PySem.W.plainOver K C_Line = true)
    (sa_Line : PySem.W.findIn K (.ref C_Line) "__setattr__" = some (some (.builtin "object.__setattr__")))
    (mk_Line : PySem.W.makesIn K C_Line = true)
    (kc_Line : PySem.W.keepIn K (.ref C_Line) = true)
    (cf_Line_KIND : PySem.W.findIn K (.ref C_Line) "KIND" = some (some (.str "keys" tk_Line_KIND)))
    (cg_Line_KIND : PySem.W.specialIn K (.str "keys" tk_Line_KIND) "__get__" = some none)
    (nn_Line : PySem.W.findIn K (.ref C_Line) "__ne__" = some (some (.builtin "object.__ne__")))
    (n_Line_own_points : PySem.W.findIn K (.ref C_Line) "own_points" = some none)
    (a_Line_points : PySem.W.findIn K (.ref C_Line) "points" = some (some (.ref p_Line_points)))
    (pr_Line_points : PySem.W.specialIn K (.ref p_Line_points) "__get__" = some (some (.builtin "property.__get__")))
    (pt_Line_points : PySem.W.takesIn K (.ref p_Line_points) = some true)
    (pf_Line_points : PySem.W.recIn K p_Line_points "property" = some (.ref f_Line_points :: r_Line_points))
    (l_Line_points : K.lookup f_Line_points = some ⟨oc_Line_points, od_Line_points, .func (PySem.W.fnOf "points" "Line.points" (defArgs s_Line_points) (defBody s_Line_points) (defScope s_Line_points) .none kV_Line_points dc_Line_points pm_Line_points an_Line_points cd_Line_points ct_Line_points), sl_Line_points⟩)
    (c_Line_points : PySem.W.codeIn K cd_Line_points "Line.points" = true)
    (k_Line_points : PySem.W.keepIn K (.ref f_Line_points) = true)
    (a_KeyLine_init : PySem.W.findIn K (.ref C_KeyLine) "__init__" = some (some (.ref f_Line_init)))
    (a_KeyLine_is_point : PySem.W.findIn K (.ref C_KeyLine) "is_point" = some (some (.ref f_Line_is_point)))
    (a_KeyLine_count_less : PySem.W.findIn K (.ref C_KeyLine) "count_less" = some (some (.ref f_Line_count_less)))
    (a_KeyLine_contains : PySem.W.findIn K (.ref C_KeyLine) "__contains__" = some (some (.ref f_Line_contains)))
    (a_KeyLine_eq : PySem.W.findIn K (.ref C_KeyLine) "__eq__" = some (some (.ref f_Line_eq)))
    (a_KeyLine_len : PySem.W.findIn K (.ref C_KeyLine) "__len__" = some (some (.ref f_Line_len)))
    (pg_KeyLine : PySem.W.plainGet K C_KeyLine Str.empty = true)
    (hd_KeyLine : PySem.W.hasDictIn K C_KeyLine = true)
    (po_KeyLine : PySem.W.plainOver K C_KeyLine = true)
    (sa_KeyLine : PySem.W.findIn K (.ref C_KeyLine) "__setattr__" = some (some (.builtin "object.__setattr__")))
    (mk_KeyLine : PySem.W.makesIn K C_KeyLine = true)
    (kc_KeyLine : PySem.W.keepIn K (.ref C_KeyLine) = true)
    (cf_KeyLine_KIND : PySem.W.findIn K (.ref C_KeyLine) "KIND" = some (some (.str "keys" tk_KeyLine_KIND)))
    (cg_KeyLine_KIND : PySem.W.specialIn K (.str "keys" tk_KeyLine_KIND) "__get__" = some none)
    (nn_KeyLine : PySem.W.findIn K (.ref C_KeyLine) "__ne__" = some (some (.builtin "object.__ne__")))
    (n_KeyLine_own_points : PySem.W.findIn K (.ref C_KeyLine) "own_points" = some none)
    (a_KeyLine_points : PySem.W.findIn K (.ref C_KeyLine) "points" = some (some (.ref p_KeyLine_points)))
    (pr_KeyLine_points : PySem.W.specialIn K (.ref p_KeyLine_points) "__get__" = some (some (.builtin "property.__get__")))
    (pt_KeyLine_points : PySem.W.takesIn K (.ref p_KeyLine_points) = some true)
    (pf_KeyLine_points : PySem.W.recIn K p_KeyLine_points "property" = some (.ref f_Line_points :: r_KeyLine_points))
    (a_ValueLine_init : PySem.W.findIn K (.ref C_ValueLine) "__init__" = some (some (.ref f_Line_init)))
    (a_ValueLine_is_point : PySem.W.findIn K (.ref C_ValueLine) "is_point" = some (some (.ref f_ValueLine_is_point)))
    (i_ValueLine_is_point : PySem.W.isFn K (.ref f_ValueLine_is_point) = true)
    (l_ValueLine_is_point : K.lookup f_ValueLine_is_point = some ⟨oc_ValueLine_is_point, od_ValueLine_is_point, .func (PySem.W.fnOf "is_point" "ValueLine.is_point" (defArgs s_ValueLine_is_point) (defBody s_ValueLine_is_point) (defScope s_ValueLine_is_point) .none kV_ValueLine_is_point dc_ValueLine_is_point pm_ValueLine_is_point an_ValueLine_is_point cd_ValueLine_is_point ct_ValueLine_is_point), sl_ValueLine_is_point⟩)
    (c_ValueLine_is_point : PySem.W.codeIn K cd_ValueLine_is_point "ValueLine.is_point" = true)
    (k_ValueLine_is_point : PySem.W.keepIn K (.ref f_ValueLine_is_point) = true)
    (a_ValueLine_count_less : PySem.W.findIn K (.ref C_ValueLine) "count_less" = some (some (.ref f_Line_count_less)))
    (a_ValueLine_contains : PySem.W.findIn K (.ref C_ValueLine) "__contains__" = some (some (.ref f_Line_contains)))
    (a_ValueLine_eq : PySem.W.findIn K (.ref C_ValueLine) "__eq__" = some (some (.ref f_Line_eq)))
    (a_ValueLine_len : PySem.W.findIn K (.ref C_ValueLine) "__len__" = some (some (.ref f_Line_len)))
    (pg_ValueLine : PySem.W.plainGet K C_ValueLine Str.empty = true)
    (hd_ValueLine : PySem.W.hasDictIn K C_ValueLine = true)
    (po_ValueLine : PySem.W.plainOver K C_ValueLine = true)
    (sa_ValueLine : PySem.W.findIn K (.ref C_ValueLine) "__setattr__" = some (some (.builtin "object.__setattr__")))
    (mk_ValueLine : PySem.W.makesIn K C_ValueLine = true)
    (kc_ValueLine : PySem.W.keepIn K (.ref C_ValueLine) = true)
    (cf_ValueLine_KIND : PySem.W.findIn K (.ref C_ValueLine) "KIND" = some (some (.str "values" tk_ValueLine_KIND)))
    (cg_ValueLine_KIND : PySem.W.specialIn K (.str "values" tk_ValueLine_KIND) "__get__" = some none)
    (nn_ValueLine : PySem.W.findIn K (.ref C_ValueLine) "__ne__" = some (some (.builtin "object.__ne__")))
    (n_ValueLine_own_points : PySem.W.findIn K (.ref C_ValueLine) "own_points" = some none)
    (a_ValueLine_points : PySem.W.findIn K (.ref C_ValueLine) "points" = some (some (.ref p_ValueLine_points)))
    (pr_ValueLine_points : PySem.W.specialIn K (.ref p_ValueLine_points) "__get__" = some (some (.builtin "property.__get__")))
    (pt_ValueLine_points : PySem.W.takesIn K (.ref p_ValueLine_points) = some true)
    (pf_ValueLine_points : PySem.W.recIn K p_ValueLine_points "property" = some (.ref f_Line_points :: r_ValueLine_points))
    (cls_get : PySem.W.specialIn K (.builtin "object.__class__") "__get__" = some (some (.builtin "getset_descriptor.__get__")))
    (cls_take : PySem.W.takesIn K (.builtin "object.__class__") = some true)
    (ha_Found : PySem.W.findIn K (.ref C_Found) "__class__" = some (some (.builtin "object.__class__")))
    (hm_Found : PySem.W.mroIn K C_Found (.type "object") = some true)
    (ha_Line : PySem.W.findIn K (.ref C_Line) "__class__" = some (some (.builtin "object.__class__")))
    (hm_Line : PySem.W.mroIn K C_Line (.type "object") = some true)
    (ha_KeyLine : PySem.W.findIn K (.ref C_KeyLine) "__class__" = some (some (.builtin "object.__class__")))
    (hm_KeyLine : PySem.W.mroIn K C_KeyLine (.type "object") = some true)
    (ha_ValueLine : PySem.W.findIn K (.ref C_ValueLine) "__class__" = some (some (.builtin "object.__class__")))
    (hm_ValueLine : PySem.W.mroIn K C_ValueLine (.type "object") = some true)
    (aC_InvalidPoints : PySem.W.nsIn K mainGlobals "InvalidPoints" = some (some (.ref C_InvalidPoints)))
    (xq_InvalidPoints : PySem.W.excIn K C_InvalidPoints [.type "ValueError", .type "Exception", .type "BaseException", .type "object"] "ValueError.__new__" = true)
    (xk_InvalidPoints : PySem.W.keepIn K (.ref C_InvalidPoints) = true)
    (xs_InvalidPoints : PySem.W.subIn K (.ref C_InvalidPoints) (.type "BaseException") = some true)
    (xt_InvalidPoints : PySem.W.typeIn K (.ref C_InvalidPoints) = some (.type "type"))
    (aC_LockError : PySem.W.nsIn K mainGlobals "LockError" = some (some (.ref C_LockError)))
    (eb_base : PySem.W.subIn K (.ref C_LockError) (.type "BaseException") = some true)
    (ed_base : PySem.W.hasDictIn K C_LockError = true)
    (et_base : PySem.W.typeIn K (.ref C_LockError) = some (.type "type"))
    (eg_InvalidPoints : PySem.W.findIn K (.ref C_InvalidPoints) "__getattribute__" = some (some (.builtin "BaseException.__getattribute__")))
    (ek_InvalidPoints : PySem.W.findIn K (.ref C_InvalidPoints) "__getattr__" = some none)
    (ed_InvalidPoints : PySem.W.hasDictIn K C_InvalidPoints = true)
    (ea_InvalidPoints : PySem.W.findIn K (.ref C_InvalidPoints) "__class__" = some (some (.builtin "object.__class__")))
    (em_InvalidPoints : PySem.W.mroIn K C_InvalidPoints (.type "object") = some true)
    (el_InvalidPoints : PySem.W.subIn K (.ref C_InvalidPoints) (.ref C_LockError) = some true)
    (g_MOST_POINTS : PySem.W.nsIn K mainGlobals "MOST_POINTS" = some (some (.int 500 tk_MOST_POINTS)))
    (un_Line_Line : PySem.W.kitOne K (.ref C_Line) (.ref C_Line) = some true)
    (un_KeyLine_Line : PySem.W.kitOne K (.ref C_KeyLine) (.ref C_Line) = some true)
    (un_ValueLine_Line : PySem.W.kitOne K (.ref C_ValueLine) (.ref C_Line) = some true)
    (un_InvalidPoints_InvalidPoints : PySem.W.kitOne K (.ref C_InvalidPoints) (.ref C_InvalidPoints) = some true)
    (nu_Line_KeyLine : PySem.W.kitOne K (.ref C_Line) (.ref C_KeyLine) = some false)
    (nu_KeyLine_ValueLine : PySem.W.kitOne K (.ref C_KeyLine) (.ref C_ValueLine) = some false)
    (nu_ValueLine_KeyLine : PySem.W.kitOne K (.ref C_ValueLine) (.ref C_KeyLine) = some false)
    (su_KeyLine_Line : PySem.W.subIn K (.ref C_KeyLine) (.ref C_Line) = some true)
    (su_ValueLine_Line : PySem.W.subIn K (.ref C_ValueLine) (.ref C_Line) = some true)
    (ul_Line_KeyLine : (Value.ref C_Line != Value.ref C_KeyLine) = true)
    (ul_Line_ValueLine : (Value.ref C_Line != Value.ref C_ValueLine) = true)
    (kit_NoneType_Found : PySem.W.kitOne K (.type "NoneType") (.ref C_Found) = some false)
    (kit_bool_Found : PySem.W.kitOne K (.type "bool") (.ref C_Found) = some false)
    (kit_int_Found : PySem.W.kitOne K (.type "int") (.ref C_Found) = some false)
    (kit_str_Found : PySem.W.kitOne K (.type "str") (.ref C_Found) = some false)
    (kit_tuple_Found : PySem.W.kitOne K (.type "tuple") (.ref C_Found) = some false)
    (kit_dict_Found : PySem.W.kitOne K (.type "dict") (.ref C_Found) = some false)
    (kit_list_Found : PySem.W.kitOne K (.type "list") (.ref C_Found) = some false)
    (kit_str_Line : PySem.W.kitOne K (.type "str") (.ref C_Line) = some false)
    (kit_str_KeyLine : PySem.W.kitOne K (.type "str") (.ref C_KeyLine) = some false)
    (kit_str_ValueLine : PySem.W.kitOne K (.type "str") (.ref C_ValueLine) = some false)
    (kit_list_Line : PySem.W.kitOne K (.type "list") (.ref C_Line) = some false)
    (kit_list_KeyLine : PySem.W.kitOne K (.type "list") (.ref C_KeyLine) = some false)
    (kit_list_ValueLine : PySem.W.kitOne K (.type "list") (.ref C_ValueLine) = some false)
    (z_len : PySem.W.nsIn K mainGlobals "len" = some none)
    (z_abs : PySem.W.nsIn K mainGlobals "abs" = some none)
    (z_max : PySem.W.nsIn K mainGlobals "max" = some none)
    (z_min : PySem.W.nsIn K mainGlobals "min" = some none)
    (z_range : PySem.W.nsIn K mainGlobals "range" = some none)
    (z_sorted : PySem.W.nsIn K mainGlobals "sorted" = some none)
    (z_set : PySem.W.nsIn K mainGlobals "set" = some none)
    (z_list : PySem.W.nsIn K mainGlobals "list" = some none)
    (z_tuple : PySem.W.nsIn K mainGlobals "tuple" = some none)
    (z_dict : PySem.W.nsIn K mainGlobals "dict" = some none)
    (z_int : PySem.W.nsIn K mainGlobals "int" = some none)
    (z_str : PySem.W.nsIn K mainGlobals "str" = some none)
    (z_bool : PySem.W.nsIn K mainGlobals "bool" = some none)
    (z_all : PySem.W.nsIn K mainGlobals "all" = some none)
    (z_any : PySem.W.nsIn K mainGlobals "any" = some none)
    (z_sum : PySem.W.nsIn K mainGlobals "sum" = some none)
    (z_isinstance : PySem.W.nsIn K mainGlobals "isinstance" = some none)
    (z_repr : PySem.W.nsIn K mainGlobals "repr" = some none)
    (z_zip : PySem.W.nsIn K mainGlobals "zip" = some none)
    (z_enumerate : PySem.W.nsIn K mainGlobals "enumerate" = some none)
    : ∃ fd : FuncData, (∀ (s : Shared) (v : Value), BindsTo s fd ⟨[v], []⟩ [("_law_script", v)]) ∧ ∀ base : Heap, K.In base → base.Ns mainGlobals mg → FnG l.prog w K mg base 7 fa fd ["_law_script"] (Gk.spLaw K) := by
  have e := hfa.symm.trans (PySem.W.mg_of X G a_law)
  cases e
  have G_Found : mg "Found" = some (.ref C_Found) := PySem.W.mg_of X G aC_Found
  have G_Line : mg "Line" = some (.ref C_Line) := PySem.W.mg_of X G aC_Line
  have G_KeyLine : mg "KeyLine" = some (.ref C_KeyLine) := PySem.W.mg_of X G aC_KeyLine
  have G_ValueLine : mg "ValueLine" = some (.ref C_ValueLine) := PySem.W.mg_of X G aC_ValueLine
  have F_law := fun_mk (st := s_law) l_law c_law k_law
  have B_law := F_law.binds (ps := ["_law_script"]) fun _ _ _ _ _ _ us hl => match us, hl with | [_], _ => rfl
  have F_flow := fun_mk (st := s_flow) l_flow c_flow k_flow
  have B_flow := F_flow.binds (ps := ["_law_script", "_law_k"]) fun _ _ _ _ _ _ us hl => match us, hl with | [_, _], _ => rfl
  have G_flow : mg "_law_flow" = some (.ref f_flow) := PySem.W.mg_of X G a_flow
  have D_flow : Dn K mg "_law_flow" s_flow ["_law_script", "_law_k"] f_flow _ := ⟨F_flow, G_flow, B_flow⟩
  have F_dip := fun_mk (st := s_dip) l_dip c_dip k_dip
  have B_dip := F_dip.binds (ps := ["_law_flow_here", "_law_many"]) fun _ _ _ _ _ _ us hl => match us, hl with | [_, _], _ => rfl
  have G_dip : mg "_law_dip" = some (.ref f_dip) := PySem.W.mg_of X G a_dip
  have D_dip : Dn K mg "_law_dip" s_dip ["_law_flow_here", "_law_many"] f_dip _ := ⟨F_dip, G_dip, B_dip⟩
  have F_spots := fun_mk (st := s_spots) l_spots c_spots k_spots
  have B_spots := F_spots.binds (ps := ["_law_flow_here", "_law_most"]) fun _ _ _ _ _ _ us hl => match us, hl with | [_, _], _ => rfl
  have G_spots : mg "_law_spots" = some (.ref f_spots) := PySem.W.mg_of X G a_spots
  have D_spots : Dn K mg "_law_spots" s_spots ["_law_flow_here", "_law_most"] f_spots _ := ⟨F_spots, G_spots, B_spots⟩
  have F_pairs := fun_mk (st := s_pairs) l_pairs c_pairs k_pairs
  have B_pairs := F_pairs.binds (ps := ["_law_flow_here", "_law_most"]) fun _ _ _ _ _ _ us hl => match us, hl with | [_, _], _ => rfl
  have G_pairs : mg "_law_pairs" = some (.ref f_pairs) := PySem.W.mg_of X G a_pairs
  have D_pairs : Dn K mg "_law_pairs" s_pairs ["_law_flow_here", "_law_most"] f_pairs _ := ⟨F_pairs, G_pairs, B_pairs⟩
  have F_whole := fun_mk (st := s_whole) l_whole c_whole k_whole
  have B_whole := F_whole.binds (ps := ["_law_thing"]) fun _ _ _ _ _ _ us hl => match us, hl with | [_], _ => rfl
  have G_whole : mg "_law_whole" = some (.ref f_whole) := PySem.W.mg_of X G a_whole
  have D_whole : Dn K mg "_law_whole" s_whole ["_law_thing"] f_whole _ := ⟨F_whole, G_whole, B_whole⟩
  have F_good := fun_mk (st := s_good) l_good c_good k_good
  have B_good := F_good.binds (ps := ["_law_kind_here", "_law_thing"]) fun _ _ _ _ _ _ us hl => match us, hl with | [_, _], _ => rfl
  have G_good : mg "_law_good" = some (.ref f_good) := PySem.W.mg_of X G a_good
  have D_good : Dn K mg "_law_good" s_good ["_law_kind_here", "_law_thing"] f_good _ := ⟨F_good, G_good, B_good⟩
  have F_made := fun_mk (st := s_made) l_made c_made k_made
  have B_made := F_made.binds (ps := ["_law_way", "_law_thing"]) fun _ _ _ _ _ _ us hl => match us, hl with | [_, _], _ => rfl
  have G_made : mg "_law_made" = some (.ref f_made) := PySem.W.mg_of X G a_made
  have D_made : Dn K mg "_law_made" s_made ["_law_way", "_law_thing"] f_made _ := ⟨F_made, G_made, B_made⟩
  have F_tried := fun_mk (st := s_tried) l_tried c_tried k_tried
  have B_tried := F_tried.binds (ps := ["_law_thing"]) fun _ _ _ _ _ _ us hl => match us, hl with | [_], _ => rfl
  have G_tried : mg "_law_tried" = some (.ref f_tried) := PySem.W.mg_of X G a_tried
  have D_tried : Dn K mg "_law_tried" s_tried ["_law_thing"] f_tried _ := ⟨F_tried, G_tried, B_tried⟩
  have F_bent := fun_mk (st := s_bent) l_bent c_bent k_bent
  have B_bent := F_bent.binds (ps := ["_law_flow_here", "_law_rows"]) fun _ _ _ _ _ _ us hl => match us, hl with | [_, _], _ => rfl
  have G_bent : mg "_law_bent" = some (.ref f_bent) := PySem.W.mg_of X G a_bent
  have D_bent : Dn K mg "_law_bent" s_bent ["_law_flow_here", "_law_rows"] f_bent _ := ⟨F_bent, G_bent, B_bent⟩
  have F_is_whole_number := fun_mk (st := s_is_whole_number) l_is_whole_number c_is_whole_number k_is_whole_number
  have B_is_whole_number := F_is_whole_number.binds (ps := ["thing"]) fun _ _ _ _ _ _ us hl => match us, hl with | [_], _ => rfl
  have G_is_whole_number : mg "is_whole_number" = some (.ref f_is_whole_number) := PySem.W.mg_of X G a_is_whole_number
  have D_is_whole_number : Dn K mg "is_whole_number" s_is_whole_number ["thing"] f_is_whole_number _ := ⟨F_is_whole_number, G_is_whole_number, B_is_whole_number⟩
  have F_Found_init := fun_mk (st := s_Found_init) l_Found_init c_Found_init k_Found_init
  have B_Found_init := F_Found_init.binds (ps := ["self", "rows"]) fun _ _ _ _ _ _ us hl => match us, hl with | [_, _], _ => rfl
  have Cl_Found : Cls K C_Found := ⟨pg_Found, hd_Found, po_Found, sa_Found⟩
  have Mk_Found : Mk K C_Found f_Found_init := ⟨mk_Found, a_Found_init, i_Found_init, kc_Found⟩
  have F_Line_init := fun_mk (st := s_Line_init) l_Line_init c_Line_init k_Line_init
  have B_Line_init := F_Line_init.binds (ps := ["self", "points"]) fun _ _ _ _ _ _ us hl => match us, hl with | [_, _], _ => rfl
  have F_Line_is_point := fun_mk (st := s_Line_is_point) l_Line_is_point c_Line_is_point k_Line_is_point
  have B_Line_is_point := F_Line_is_point.binds (ps := ["self", "thing"]) fun _ _ _ _ _ _ us hl => match us, hl with | [_, _], _ => rfl
  have Me_Line_is_point : Meth K C_Line "is_point" f_Line_is_point := ⟨a_Line_is_point, i_Line_is_point, k_Line_is_point⟩
  have F_Line_count_less := fun_mk (st := s_Line_count_less) l_Line_count_less c_Line_count_less k_Line_count_less
  have B_Line_count_less := F_Line_count_less.binds (ps := ["self", "point"]) fun _ _ _ _ _ _ us hl => match us, hl with | [_, _], _ => rfl
  have Me_Line_count_less : Meth K C_Line "count_less" f_Line_count_less := ⟨a_Line_count_less, i_Line_count_less, k_Line_count_less⟩
  have F_Line_contains := fun_mk (st := s_Line_contains) l_Line_contains c_Line_contains k_Line_contains
  have B_Line_contains := F_Line_contains.binds (ps := ["self", "thing"]) fun _ _ _ _ _ _ us hl => match us, hl with | [_, _], _ => rfl
  have Me_Line_contains : Meth K C_Line "__contains__" f_Line_contains := ⟨a_Line_contains, i_Line_contains, k_Line_contains⟩
  have F_Line_eq := fun_mk (st := s_Line_eq) l_Line_eq c_Line_eq k_Line_eq
  have B_Line_eq := F_Line_eq.binds (ps := ["self", "other"]) fun _ _ _ _ _ _ us hl => match us, hl with | [_, _], _ => rfl
  have Me_Line_eq : Meth K C_Line "__eq__" f_Line_eq := ⟨a_Line_eq, i_Line_eq, k_Line_eq⟩
  have F_Line_len := fun_mk (st := s_Line_len) l_Line_len c_Line_len k_Line_len
  have B_Line_len := F_Line_len.binds (ps := ["self"]) fun _ _ _ _ _ _ us hl => match us, hl with | [_], _ => rfl
  have Me_Line_len : Meth K C_Line "__len__" f_Line_len := ⟨a_Line_len, i_Line_len, k_Line_len⟩
  have Cl_Line : Cls K C_Line := ⟨pg_Line, hd_Line, po_Line, sa_Line⟩
  have Mk_Line : Mk K C_Line f_Line_init := ⟨mk_Line, a_Line_init, i_Line_init, kc_Line⟩
  have Con_Line_KIND : Con K C_Line "KIND" (.str "keys") (.str "keys" tk_Line_KIND) := ⟨cf_Line_KIND, ⟨_, rfl⟩, cg_Line_KIND, by decide +kernel⟩
  have Ne_Line : NoNe K C_Line := ⟨nn_Line, hm_Line⟩
  have F_Line_points := fun_mk (st := s_Line_points) l_Line_points c_Line_points k_Line_points
  have B_Line_points := F_Line_points.binds (ps := ["self"]) fun _ _ _ _ _ _ us hl => match us, hl with | [_], _ => rfl
  have Pr_Line_points : PropOf K C_Line "points" p_Line_points f_Line_points := ⟨a_Line_points, pr_Line_points, pt_Line_points, ⟨_, pf_Line_points⟩⟩
  have Me_KeyLine_is_point : Meth K C_KeyLine "is_point" f_Line_is_point := ⟨a_KeyLine_is_point, i_Line_is_point, k_Line_is_point⟩
  have Me_KeyLine_count_less : Meth K C_KeyLine "count_less" f_Line_count_less := ⟨a_KeyLine_count_less, i_Line_count_less, k_Line_count_less⟩
  have Me_KeyLine_contains : Meth K C_KeyLine "__contains__" f_Line_contains := ⟨a_KeyLine_contains, i_Line_contains, k_Line_contains⟩
  have Me_KeyLine_eq : Meth K C_KeyLine "__eq__" f_Line_eq := ⟨a_KeyLine_eq, i_Line_eq, k_Line_eq⟩
  have Me_KeyLine_len : Meth K C_KeyLine "__len__" f_Line_len := ⟨a_KeyLine_len, i_Line_len, k_Line_len⟩
  have Cl_KeyLine : Cls K C_KeyLine := ⟨pg_KeyLine, hd_KeyLine, po_KeyLine, sa_KeyLine⟩
  have Mk_KeyLine : Mk K C_KeyLine f_Line_init := ⟨mk_KeyLine, a_KeyLine_init, i_Line_init, kc_KeyLine⟩
  have Con_KeyLine_KIND : Con K C_KeyLine "KIND" (.str "keys") (.str "keys" tk_KeyLine_KIND) := ⟨cf_KeyLine_KIND, ⟨_, rfl⟩, cg_KeyLine_KIND, by decide +kernel⟩
  have Ne_KeyLine : NoNe K C_KeyLine := ⟨nn_KeyLine, hm_KeyLine⟩
  have Pr_KeyLine_points : PropOf K C_KeyLine "points" p_KeyLine_points f_Line_points := ⟨a_KeyLine_points, pr_KeyLine_points, pt_KeyLine_points, ⟨_, pf_KeyLine_points⟩⟩
  have F_ValueLine_is_point := fun_mk (st := s_ValueLine_is_point) l_ValueLine_is_point c_ValueLine_is_point k_ValueLine_is_point
  have B_ValueLine_is_point := F_ValueLine_is_point.binds (ps := ["self", "thing"]) fun _ _ _ _ _ _ us hl => match us, hl with | [_, _], _ => rfl
  have Me_ValueLine_is_point : Meth K C_ValueLine "is_point" f_ValueLine_is_point := ⟨a_ValueLine_is_point, i_ValueLine_is_point, k_ValueLine_is_point⟩
  have Me_ValueLine_count_less : Meth K C_ValueLine "count_less" f_Line_count_less := ⟨a_ValueLine_count_less, i_Line_count_less, k_Line_count_less⟩
  have Me_ValueLine_contains : Meth K C_ValueLine "__contains__" f_Line_contains := ⟨a_ValueLine_contains, i_Line_contains, k_Line_contains⟩
  have Me_ValueLine_eq : Meth K C_ValueLine "__eq__" f_Line_eq := ⟨a_ValueLine_eq, i_Line_eq, k_Line_eq⟩
  have Me_ValueLine_len : Meth K C_ValueLine "__len__" f_Line_len := ⟨a_ValueLine_len, i_Line_len, k_Line_len⟩
  have Cl_ValueLine : Cls K C_ValueLine := ⟨pg_ValueLine, hd_ValueLine, po_ValueLine, sa_ValueLine⟩
  have Mk_ValueLine : Mk K C_ValueLine f_Line_init := ⟨mk_ValueLine, a_ValueLine_init, i_Line_init, kc_ValueLine⟩
  have Con_ValueLine_KIND : Con K C_ValueLine "KIND" (.str "values") (.str "values" tk_ValueLine_KIND) := ⟨cf_ValueLine_KIND, ⟨_, rfl⟩, cg_ValueLine_KIND, by decide +kernel⟩
  have Ne_ValueLine : NoNe K C_ValueLine := ⟨nn_ValueLine, hm_ValueLine⟩
  have Pr_ValueLine_points : PropOf K C_ValueLine "points" p_ValueLine_points f_Line_points := ⟨a_ValueLine_points, pr_ValueLine_points, pt_ValueLine_points, ⟨_, pf_ValueLine_points⟩⟩
  have G_InvalidPoints : mg "InvalidPoints" = some (.ref C_InvalidPoints) := PySem.W.mg_of X G aC_InvalidPoints
  have O_InvalidPoints : OwnE K mg "InvalidPoints" C_InvalidPoints := ⟨G_InvalidPoints, xq_InvalidPoints, xk_InvalidPoints, xs_InvalidPoints, xt_InvalidPoints⟩
  have Ty_Found : ∀ {H : Hp} {a dx : Addr} {fs : List (Str × V)}, H a = some (.ins C_Found dx fs) → TyX K H (.ref a) (.ref C_Found) := fun e => .base (.ins e Cl_Found ha_Found cls_get cls_take hm_Found)
  have Ty_Line : ∀ {H : Hp} {a dx : Addr} {fs : List (Str × V)}, H a = some (.ins C_Line dx fs) → TyX K H (.ref a) (.ref C_Line) := fun e => .base (.ins e Cl_Line ha_Line cls_get cls_take hm_Line)
  have Ty_KeyLine : ∀ {H : Hp} {a dx : Addr} {fs : List (Str × V)}, H a = some (.ins C_KeyLine dx fs) → TyX K H (.ref a) (.ref C_KeyLine) := fun e => .base (.ins e Cl_KeyLine ha_KeyLine cls_get cls_take hm_KeyLine)
  have Ty_ValueLine : ∀ {H : Hp} {a dx : Addr} {fs : List (Str × V)}, H a = some (.ins C_ValueLine dx fs) → TyX K H (.ref a) (.ref C_ValueLine) := fun e => .base (.ins e Cl_ValueLine ha_ValueLine cls_get cls_take hm_ValueLine)
  have G_LockError : mg "LockError" = some (.ref C_LockError) := PySem.W.mg_of X G aC_LockError
  have X_InvalidPoints : L2.ExcC K C_InvalidPoints := ⟨eg_InvalidPoints, ek_InvalidPoints, xs_InvalidPoints, ed_InvalidPoints, ea_InvalidPoints, cls_get, cls_take, em_InvalidPoints⟩
  have TE_InvalidPoints : PySem.W.exmOne K (.ref C_InvalidPoints) (.ref C_LockError) = some true := PySem.W.exm_ref eb_base ed_base et_base el_InvalidPoints
  have T : Bt mg := ⟨PySem.W.mg_none_of X G z_len, PySem.W.mg_none_of X G z_abs, PySem.W.mg_none_of X G z_max, PySem.W.mg_none_of X G z_min, PySem.W.mg_none_of X G z_range, PySem.W.mg_none_of X G z_sorted, PySem.W.mg_none_of X G z_set, PySem.W.mg_none_of X G z_list, PySem.W.mg_none_of X G z_tuple, PySem.W.mg_none_of X G z_dict, PySem.W.mg_none_of X G z_int, PySem.W.mg_none_of X G z_str, PySem.W.mg_none_of X G z_bool, PySem.W.mg_none_of X G z_all, PySem.W.mg_none_of X G z_any, PySem.W.mg_none_of X G z_sum, PySem.W.mg_none_of X G z_isinstance, PySem.W.mg_none_of X G z_repr, PySem.W.mg_none_of X G z_zip, PySem.W.mg_none_of X G z_enumerate⟩
  refine ⟨PySem.W.fnOf "law" "law" (defArgs s_law) (defBody s_law) (defScope s_law) .none kV_law dc_law pm_law an_law cd_law ct_law, fun s v => .of_eq rfl, fun base _ _ => ?_⟩
  have Lc_Line : LineC K C_Line := ⟨Cl_Line, n_Line_own_points⟩
  have Lc_KeyLine : LineC K C_KeyLine := ⟨Cl_KeyLine, n_KeyLine_own_points⟩
  have Lc_ValueLine : LineC K C_ValueLine := ⟨Cl_ValueLine, n_ValueLine_own_points⟩
  have LA_I : ∀ C, two C_Line C_KeyLine C → LineC K C := two_all Lc_Line Lc_KeyLine
  have LA_P : ∀ C, C = C_ValueLine → LineC K C := fun C e => by rw [e]; exact Lc_ValueLine
  have LF : FoundC K mg C_Found := ⟨Cl_Found, n_Found_found_points, Ty_Found, kit_list_Found⟩
  have wh := ok_whole (P := l.prog) (w := w) (base := base) D_is_whole_number T
  have gF : ∃ u, mg "Found" = some u ∧ RelV (.ref C_Found) u := ⟨_, G_Found, rfl⟩
  have gM : ∃ u, mg "MOST_POINTS" = some u ∧ RelV (.int 500) u := ⟨_, PySem.W.mg_of X G g_MOST_POINTS, ⟨_, rfl⟩⟩
  have ipI := ok_ptI F_Line_is_point wh
  have pI : MetF l.prog w K mg base L2.CX0 2 (two C_Line C_KeyLine) "is_point" (fun _ => spPt Int K) := ⟨two_all ⟨_, _, _, Cl_Line, Me_Line_is_point, ipI, B_Line_is_point⟩ ⟨_, _, _, Cl_KeyLine, Me_KeyLine_is_point, ipI, B_Line_is_point⟩⟩
  have cI := ok_countK (P := l.prog) (w := w) (mg := mg) (base := base) (α := Int) (S := (two C_Line C_KeyLine)) F_Line_count_less LA_I T
  have clI : MetF l.prog w K mg base L2.CX0 1 (two C_Line C_KeyLine) "count_less" (fun _ => spCountK Int K (two C_Line C_KeyLine)) := ⟨two_all ⟨_, _, _, Cl_Line, Me_Line_count_less, cI, B_Line_count_less⟩ ⟨_, _, _, Cl_KeyLine, Me_KeyLine_count_less, cI, B_Line_count_less⟩⟩
  have hI := ok_hasK F_Line_contains LA_I T pI clI
  have haI : MetF l.prog w K mg base L2.CX0 3 (two C_Line C_KeyLine) "__contains__" (fun _ => spHasK Int K (two C_Line C_KeyLine)) := ⟨two_all ⟨_, _, _, Cl_Line, Me_Line_contains, hI, B_Line_contains⟩ ⟨_, _, _, Cl_KeyLine, Me_KeyLine_contains, hI, B_Line_contains⟩⟩
  have ptI := ok_ptsK (P := l.prog) (w := w) (mg := mg) (base := base) (α := Int) (S := (two C_Line C_KeyLine)) F_Line_points LA_I T
  have prI : PropF l.prog w K mg base 1 (two C_Line C_KeyLine) "points" (fun _ => spPtsK Int K (two C_Line C_KeyLine)) := ⟨two_all ⟨_, _, _, _, Cl_Line, Pr_Line_points, ptI, B_Line_points⟩ ⟨_, _, _, _, Cl_KeyLine, Pr_KeyLine_points, ptI, B_Line_points⟩⟩
  have m_Line : Mak l.prog w K mg base 3 "Line" C_Line (spInitK Int K C_Line C_Found) [] := ⟨_, _, _, _, Mk_Line, ok_initK (S := (two C_Line C_KeyLine)) F_Line_init Lc_Line LF T (.inl rfl) pI gF gM, G_Line, B_Line_init, .nil⟩
  have m_KeyLine : Mak l.prog w K mg base 3 "KeyLine" C_KeyLine (spInitK Int K C_KeyLine C_Found) [] := ⟨_, _, _, _, Mk_KeyLine, ok_initK (S := (two C_Line C_KeyLine)) F_Line_init Lc_KeyLine LF T (.inr rfl) pI gF gM, G_KeyLine, B_Line_init, .nil⟩
  have ipP := ok_ptP F_ValueLine_is_point T wh
  have pP : MetF l.prog w K mg base L2.CX0 2 (fun C => C = C_ValueLine) "is_point" (fun _ => spPt Pr K) := ⟨fun C e => by rw [e]; exact ⟨_, _, _, Cl_ValueLine, Me_ValueLine_is_point, ipP, B_ValueLine_is_point⟩⟩
  have cP := ok_countK (P := l.prog) (w := w) (mg := mg) (base := base) (α := Pr) (S := (fun C => C = C_ValueLine)) F_Line_count_less LA_P T
  have clP : MetF l.prog w K mg base L2.CX0 1 (fun C => C = C_ValueLine) "count_less" (fun _ => spCountK Pr K (fun C => C = C_ValueLine)) := ⟨fun C e => by rw [e]; exact ⟨_, _, _, Cl_ValueLine, Me_ValueLine_count_less, cP, B_Line_count_less⟩⟩
  have hP := ok_hasK F_Line_contains LA_P T pP clP
  have haP : MetF l.prog w K mg base L2.CX0 3 (fun C => C = C_ValueLine) "__contains__" (fun _ => spHasK Pr K (fun C => C = C_ValueLine)) := ⟨fun C e => by rw [e]; exact ⟨_, _, _, Cl_ValueLine, Me_ValueLine_contains, hP, B_Line_contains⟩⟩
  have ptP := ok_ptsK (P := l.prog) (w := w) (mg := mg) (base := base) (α := Pr) (S := (fun C => C = C_ValueLine)) F_Line_points LA_P T
  have prP : PropF l.prog w K mg base 1 (fun C => C = C_ValueLine) "points" (fun _ => spPtsK Pr K (fun C => C = C_ValueLine)) := ⟨fun C e => by rw [e]; exact ⟨_, _, _, _, Cl_ValueLine, Pr_ValueLine_points, ptP, B_Line_points⟩⟩
  have m_ValueLine : Mak l.prog w K mg base 3 "ValueLine" C_ValueLine (spInitK Pr K C_ValueLine C_Found) [] := ⟨_, _, _, _, Mk_ValueLine, ok_initK (S := (fun C => C = C_ValueLine)) F_Line_init Lc_ValueLine LF T rfl pP gF gM, G_ValueLine, B_Line_init, .nil⟩
  have dip := ok_dip (P := l.prog) (w := w) (base := base) D_dip T
  have flo := ok_flow (P := l.prog) (w := w) (base := base) D_flow T
  have spo := ok_spots D_spots T dip
  have pai := ok_pairs D_pairs T dip
  have NF : NotF K C_Found := notF_all kit_NoneType_Found kit_bool_Found kit_int_Found kit_str_Found kit_tuple_Found kit_dict_Found kit_list_Found
  have kLine : KndC K C_Line C_Line "keys" := ⟨Ty_Line, un_Line_Line, ⟨_, Con_Line_KIND⟩⟩
  have kKeyLine : KndC K C_Line C_KeyLine "keys" := ⟨Ty_KeyLine, un_KeyLine_Line, ⟨_, Con_KeyLine_KIND⟩⟩
  have kValueLine : KndC K C_Line C_ValueLine "values" := ⟨Ty_ValueLine, un_ValueLine_Line, ⟨_, Con_ValueLine_KIND⟩⟩
  have LA3 : ∀ C, WayS C_Line C_KeyLine C_ValueLine C → LineC K C := way_all Lc_Line Lc_KeyLine Lc_ValueLine
  have KA := knd_all kLine kKeyLine kValueLine LA3 (way_all kit_str_Line kit_str_KeyLine kit_str_ValueLine) (way_all kit_list_Line kit_list_KeyLine kit_list_ValueLine)
  have OC : OrdC K C_Line C_KeyLine C_ValueLine := ⟨su_KeyLine_Line, su_ValueLine_Line, ul_Line_KeyLine, ul_Line_ValueLine, nu_Line_KeyLine, nu_KeyLine_ValueLine, nu_ValueLine_KeyLine⟩
  have mx_Line : MakX l.prog w K mg base 3 "Line" C_Line (spInitX Int K C_Line C_InvalidPoints) := ⟨_, _, _, Mk_Line, ok_initX (S := (two C_Line C_KeyLine)) F_Line_init Lc_Line NF T (.inl rfl) O_InvalidPoints pI gF gM, G_Line, B_Line_init⟩
  have mk_Line : MakKX l.prog w K mg base 3 "Line" C_Line ["points"] oneV (spInitX Int K C_Line C_InvalidPoints) := ⟨_, _, _, oneU, Mk_Line, ok_initX (S := (two C_Line C_KeyLine)) F_Line_init Lc_Line NF T (.inl rfl) O_InvalidPoints pI gF gM, G_Line, kbinds_one (fun _ _ => rfl)⟩
  have mn_Line : Mak l.prog w K mg base 3 "Line" C_Line (spInitN Int K C_Line) [] := ⟨_, _, _, _, Mk_Line, ok_initN (S := (two C_Line C_KeyLine)) F_Line_init Lc_Line NF T (.inl rfl) pI gF gM, G_Line, B_Line_init, .nil⟩
  have mx_KeyLine : MakX l.prog w K mg base 3 "KeyLine" C_KeyLine (spInitX Int K C_KeyLine C_InvalidPoints) := ⟨_, _, _, Mk_KeyLine, ok_initX (S := (two C_Line C_KeyLine)) F_Line_init Lc_KeyLine NF T (.inr rfl) O_InvalidPoints pI gF gM, G_KeyLine, B_Line_init⟩
  have mk_KeyLine : MakKX l.prog w K mg base 3 "KeyLine" C_KeyLine ["points"] oneV (spInitX Int K C_KeyLine C_InvalidPoints) := ⟨_, _, _, oneU, Mk_KeyLine, ok_initX (S := (two C_Line C_KeyLine)) F_Line_init Lc_KeyLine NF T (.inr rfl) O_InvalidPoints pI gF gM, G_KeyLine, kbinds_one (fun _ _ => rfl)⟩
  have mn_KeyLine : Mak l.prog w K mg base 3 "KeyLine" C_KeyLine (spInitN Int K C_KeyLine) [] := ⟨_, _, _, _, Mk_KeyLine, ok_initN (S := (two C_Line C_KeyLine)) F_Line_init Lc_KeyLine NF T (.inr rfl) pI gF gM, G_KeyLine, B_Line_init, .nil⟩
  have mx_ValueLine : MakX l.prog w K mg base 3 "ValueLine" C_ValueLine (spInitX Pr K C_ValueLine C_InvalidPoints) := ⟨_, _, _, Mk_ValueLine, ok_initX (S := (fun C => C = C_ValueLine)) F_Line_init Lc_ValueLine NF T rfl O_InvalidPoints pP gF gM, G_ValueLine, B_Line_init⟩
  have mk_ValueLine : MakKX l.prog w K mg base 3 "ValueLine" C_ValueLine ["points"] oneV (spInitX Pr K C_ValueLine C_InvalidPoints) := ⟨_, _, _, oneU, Mk_ValueLine, ok_initX (S := (fun C => C = C_ValueLine)) F_Line_init Lc_ValueLine NF T rfl O_InvalidPoints pP gF gM, G_ValueLine, kbinds_one (fun _ _ => rfl)⟩
  have mn_ValueLine : Mak l.prog w K mg base 3 "ValueLine" C_ValueLine (spInitN Pr K C_ValueLine) [] := ⟨_, _, _, _, Mk_ValueLine, ok_initN (S := (fun C => C = C_ValueLine)) F_Line_init Lc_ValueLine NF T rfl pP gF gM, G_ValueLine, B_Line_init, .nil⟩
  have ptd := ok_ptsD (P := l.prog) (w := w) (mg := mg) (base := base) F_Line_points LA3 T
  have lnd := ok_lenD (P := l.prog) (w := w) (mg := mg) (base := base) F_Line_len LA3 T
  have p3 : PropF l.prog w K mg base 1 (WayS C_Line C_KeyLine C_ValueLine) "points" (fun _ => spPtsD K (WayS C_Line C_KeyLine C_ValueLine)) := ⟨way_all ⟨_, _, _, _, Cl_Line, Pr_Line_points, ptd, B_Line_points⟩ ⟨_, _, _, _, Cl_KeyLine, Pr_KeyLine_points, ptd, B_Line_points⟩ ⟨_, _, _, _, Cl_ValueLine, Pr_ValueLine_points, ptd, B_Line_points⟩⟩
  have l3 : MetF l.prog w K mg base L2.CX0 1 (WayS C_Line C_KeyLine C_ValueLine) "__len__" (fun _ => spLenD K (WayS C_Line C_KeyLine C_ValueLine)) := ⟨way_all ⟨_, _, _, Cl_Line, Me_Line_len, lnd, B_Line_len⟩ ⟨_, _, _, Cl_KeyLine, Me_KeyLine_len, lnd, B_Line_len⟩ ⟨_, _, _, Cl_ValueLine, Me_ValueLine_len, lnd, B_Line_len⟩⟩
  have sw_Line : WayS C_Line C_KeyLine C_ValueLine C_Line := ⟨0, by omega, by omega, rfl⟩
  have sw_KeyLine : WayS C_Line C_KeyLine C_ValueLine C_KeyLine := ⟨1, by omega, by omega, rfl⟩
  have sw_ValueLine : WayS C_Line C_KeyLine C_ValueLine C_ValueLine := ⟨2, by omega, by omega, rfl⟩
  have e3 : MetF l.prog w K mg base L2.CX0 1 (WayS C_Line C_KeyLine C_ValueLine) "__eq__" (fun C => spEqD K (WayS C_Line C_KeyLine C_ValueLine) C_Line C) := ⟨way_all ⟨_, _, _, Cl_Line, Me_Line_eq, ok_eqD F_Line_eq sw_Line LA3 T ⟨_, G_Line, rfl⟩, B_Line_eq⟩ ⟨_, _, _, Cl_KeyLine, Me_KeyLine_eq, ok_eqD F_Line_eq sw_KeyLine LA3 T ⟨_, G_Line, rfl⟩, B_Line_eq⟩ ⟨_, _, _, Cl_ValueLine, Me_ValueLine_eq, ok_eqD F_Line_eq sw_ValueLine LA3 T ⟨_, G_Line, rfl⟩, B_Line_eq⟩⟩
  have n3 : ∀ C, WayS C_Line C_KeyLine C_ValueLine C → NoNe K C := way_all Ne_Line Ne_KeyLine Ne_ValueLine
  have who := ok_whole01 (P := l.prog) (w := w) (base := base) D_whole T
  have goo := cal_of D_good (fn_or (ok_goodI D_good T who) (ok_goodP D_good T who))
  have mad := ok_made D_made T G_LockError ⟨_, G_InvalidPoints, rfl⟩ TE_InvalidPoints X_InvalidPoints un_InvalidPoints_InvalidPoints mx_Line mk_Line mx_KeyLine mk_KeyLine mx_ValueLine mk_ValueLine
  have tri := calG_of D_tried (ok_tried D_tried T KA goo mad p3 l3 e3 n3)
  have ben := calG_of D_bent (fnG_or (ok_bent (α := Int) D_bent T dip) (ok_bent (α := Pr) D_bent T dip))
  have D_law : Dn K mg "law" s_law ["_law_script"] _ _ := ⟨F_law, hfa, B_law⟩
  exact ok_law D_law T KA OC ⟨_, G_Line, rfl⟩ mn_Line mn_KeyLine mn_ValueLine flo spo pai ben tri mad p3 e3 n3
end Gk
open PySem PySem.W PyProof.Rows
set_option maxRecDepth 100000 in
set_option maxHeartbeats 0 in
theorem PySem.Challenge.cw_gapreach_k01_lines_recognized_holds : PySem.Challenge.rw_gapreach_k01_lines_recognized.Holds := by
  w_on; o_law; k_head; (case hw => w_witness2)
  k_fill
  refine Gx.walkG (l := PySem.Challenge.rw_gapreach_k01_lines_recognized) (sp := Gk.spLaw) (k := 7) (x := "_law_script") rfl (by decide) rfl ⟨rfl, by decide, by decide⟩ (fun w h Y => PySem.W.kIn_of Y) ?F ?S
  case S => exact fun K H a ns _ q => ⟨a, ns, rfl, q, fun _ _ => rfl⟩
  case F =>
    intro w mg fa h KX G hmg
    refine' Gk.all_mk KX G hmg ?aC_Found ?aC_Line ?aC_KeyLine ?aC_ValueLine ?a_law ?l_law ?c_law ?k_law ?a_flow ?l_flow ?c_flow ?k_flow ?a_dip ?l_dip ?c_dip ?k_dip ?a_spots ?l_spots ?c_spots ?k_spots ?a_pairs ?l_pairs ?c_pairs ?k_pairs ?a_whole ?l_whole ?c_whole ?k_whole ?a_good ?l_good ?c_good ?k_good ?a_made ?l_made ?c_made ?k_made ?a_tried ?l_tried ?c_tried ?k_tried ?a_bent ?l_bent ?c_bent ?k_bent ?a_is_whole_number ?l_is_whole_number ?c_is_whole_number ?k_is_whole_number ?a_Found_init ?i_Found_init ?l_Found_init ?c_Found_init ?k_Found_init ?pg_Found ?hd_Found ?po_Found ?sa_Found ?mk_Found ?kc_Found ?n_Found_found_points ?a_Line_init ?i_Line_init ?l_Line_init ?c_Line_init ?k_Line_init ?a_Line_is_point ?i_Line_is_point ?l_Line_is_point ?c_Line_is_point ?k_Line_is_point ?a_Line_count_less ?i_Line_count_less ?l_Line_count_less ?c_Line_count_less ?k_Line_count_less ?a_Line_contains ?i_Line_contains ?l_Line_contains ?c_Line_contains ?k_Line_contains ?a_Line_eq ?i_Line_eq ?l_Line_eq ?c_Line_eq ?k_Line_eq ?a_Line_len ?i_Line_len ?l_Line_len ?c_Line_len ?k_Line_len ?pg_Line ?hd_Line ?po_Line ?sa_Line ?mk_Line ?kc_Line ?cf_Line_KIND ?cg_Line_KIND ?nn_Line ?n_Line_own_points ?a_Line_points ?pr_Line_points ?pt_Line_points ?pf_Line_points ?l_Line_points ?c_Line_points ?k_Line_points ?a_KeyLine_init ?a_KeyLine_is_point ?a_KeyLine_count_less ?a_KeyLine_contains ?a_KeyLine_eq ?a_KeyLine_len ?pg_KeyLine ?hd_KeyLine ?po_KeyLine ?sa_KeyLine ?mk_KeyLine ?kc_KeyLine ?cf_KeyLine_KIND ?cg_KeyLine_KIND ?nn_KeyLine ?n_KeyLine_own_points ?a_KeyLine_points ?pr_KeyLine_points ?pt_KeyLine_points ?pf_KeyLine_points ?a_ValueLine_init ?a_ValueLine_is_point ?i_ValueLine_is_point ?l_ValueLine_is_point ?c_ValueLine_is_point ?k_ValueLine_is_point ?a_ValueLine_count_less ?a_ValueLine_contains ?a_ValueLine_eq ?a_ValueLine_len ?pg_ValueLine ?hd_ValueLine ?po_ValueLine ?sa_ValueLine ?mk_ValueLine ?kc_ValueLine ?cf_ValueLine_KIND ?cg_ValueLine_KIND ?nn_ValueLine ?n_ValueLine_own_points ?a_ValueLine_points ?pr_ValueLine_points ?pt_ValueLine_points ?pf_ValueLine_points ?cls_get ?cls_take ?ha_Found ?hm_Found ?ha_Line ?hm_Line ?ha_KeyLine ?hm_KeyLine ?ha_ValueLine ?hm_ValueLine ?aC_InvalidPoints ?xq_InvalidPoints ?xk_InvalidPoints ?xs_InvalidPoints ?xt_InvalidPoints ?aC_LockError ?eb_base ?ed_base ?et_base ?eg_InvalidPoints ?ek_InvalidPoints ?ed_InvalidPoints ?ea_InvalidPoints ?em_InvalidPoints ?el_InvalidPoints ?g_MOST_POINTS ?un_Line_Line ?un_KeyLine_Line ?un_ValueLine_Line ?un_InvalidPoints_InvalidPoints ?nu_Line_KeyLine ?nu_KeyLine_ValueLine ?nu_ValueLine_KeyLine ?su_KeyLine_Line ?su_ValueLine_Line ?ul_Line_KeyLine ?ul_Line_ValueLine ?kit_NoneType_Found ?kit_bool_Found ?kit_int_Found ?kit_str_Found ?kit_tuple_Found ?kit_dict_Found ?kit_list_Found ?kit_str_Line ?kit_str_KeyLine ?kit_str_ValueLine ?kit_list_Line ?kit_list_KeyLine ?kit_list_ValueLine ?z_len ?z_abs ?z_max ?z_min ?z_range ?z_sorted ?z_set ?z_list ?z_tuple ?z_dict ?z_int ?z_str ?z_bool ?z_all ?z_any ?z_sum ?z_isinstance ?z_repr ?z_zip ?z_enumerate
    (case aC_Found => k_is)
    (case aC_Line => k_is)
    (case aC_KeyLine => k_is)
    (case aC_ValueLine => k_is)
    (case a_law => k_is)
    (case l_law => k_is)
    (case c_law => k_is)
    (case k_law => k_is)
    (case a_flow => k_is)
    (case l_flow => k_is)
    (case c_flow => k_is)
    (case k_flow => k_is)
    (case a_dip => k_is)
    (case l_dip => k_is)
    (case c_dip => k_is)
    (case k_dip => k_is)
    (case a_spots => k_is)
    (case l_spots => k_is)
    (case c_spots => k_is)
    (case k_spots => k_is)
    (case a_pairs => k_is)
    (case l_pairs => k_is)
    (case c_pairs => k_is)
    (case k_pairs => k_is)
    (case a_whole => k_is)
    (case l_whole => k_is)
    (case c_whole => k_is)
    (case k_whole => k_is)
    (case a_good => k_is)
    (case l_good => k_is)
    (case c_good => k_is)
    (case k_good => k_is)
    (case a_made => k_is)
    (case l_made => k_is)
    (case c_made => k_is)
    (case k_made => k_is)
    (case a_tried => k_is)
    (case l_tried => k_is)
    (case c_tried => k_is)
    (case k_tried => k_is)
    (case a_bent => k_is)
    (case l_bent => k_is)
    (case c_bent => k_is)
    (case k_bent => k_is)
    (case a_is_whole_number => k_is)
    (case l_is_whole_number => k_is)
    (case c_is_whole_number => k_is)
    (case k_is_whole_number => k_is)
    (case a_Found_init => k_is)
    (case i_Found_init => k_is)
    (case l_Found_init => k_is)
    (case c_Found_init => k_is)
    (case k_Found_init => k_is)
    (case pg_Found => k_is)
    (case hd_Found => k_is)
    (case po_Found => k_is)
    (case sa_Found => k_is)
    (case mk_Found => k_is)
    (case kc_Found => k_is)
    (case n_Found_found_points => k_is)
    (case a_Line_init => k_is)
    (case i_Line_init => k_is)
    (case l_Line_init => k_is)
    (case c_Line_init => k_is)
    (case k_Line_init => k_is)
    (case a_Line_is_point => k_is)
    (case i_Line_is_point => k_is)
    (case l_Line_is_point => k_is)
    (case c_Line_is_point => k_is)
    (case k_Line_is_point => k_is)
    (case a_Line_count_less => k_is)
    (case i_Line_count_less => k_is)
    (case l_Line_count_less => k_is)
    (case c_Line_count_less => k_is)
    (case k_Line_count_less => k_is)
    (case a_Line_contains => k_is)
    (case i_Line_contains => k_is)
    (case l_Line_contains => k_is)
    (case c_Line_contains => k_is)
    (case k_Line_contains => k_is)
    (case a_Line_eq => k_is)
    (case i_Line_eq => k_is)
    (case l_Line_eq => k_is)
    (case c_Line_eq => k_is)
    (case k_Line_eq => k_is)
    (case a_Line_len => k_is)
    (case i_Line_len => k_is)
    (case l_Line_len => k_is)
    (case c_Line_len => k_is)
    (case k_Line_len => k_is)
    (case pg_Line => k_is)
    (case hd_Line => k_is)
    (case po_Line => k_is)
    (case sa_Line => k_is)
    (case mk_Line => k_is)
    (case kc_Line => k_is)
    (case cf_Line_KIND => k_is)
    (case cg_Line_KIND => k_is)
    (case nn_Line => k_is)
    (case n_Line_own_points => k_is)
    (case a_Line_points => k_is)
    (case pr_Line_points => k_is)
    (case pt_Line_points => k_is)
    (case pf_Line_points => k_is)
    (case l_Line_points => k_is)
    (case c_Line_points => k_is)
    (case k_Line_points => k_is)
    (case a_KeyLine_init => k_is)
    (case a_KeyLine_is_point => k_is)
    (case a_KeyLine_count_less => k_is)
    (case a_KeyLine_contains => k_is)
    (case a_KeyLine_eq => k_is)
    (case a_KeyLine_len => k_is)
    (case pg_KeyLine => k_is)
    (case hd_KeyLine => k_is)
    (case po_KeyLine => k_is)
    (case sa_KeyLine => k_is)
    (case mk_KeyLine => k_is)
    (case kc_KeyLine => k_is)
    (case cf_KeyLine_KIND => k_is)
    (case cg_KeyLine_KIND => k_is)
    (case nn_KeyLine => k_is)
    (case n_KeyLine_own_points => k_is)
    (case a_KeyLine_points => k_is)
    (case pr_KeyLine_points => k_is)
    (case pt_KeyLine_points => k_is)
    (case pf_KeyLine_points => k_is)
    (case a_ValueLine_init => k_is)
    (case a_ValueLine_is_point => k_is)
    (case i_ValueLine_is_point => k_is)
    (case l_ValueLine_is_point => k_is)
    (case c_ValueLine_is_point => k_is)
    (case k_ValueLine_is_point => k_is)
    (case a_ValueLine_count_less => k_is)
    (case a_ValueLine_contains => k_is)
    (case a_ValueLine_eq => k_is)
    (case a_ValueLine_len => k_is)
    (case pg_ValueLine => k_is)
    (case hd_ValueLine => k_is)
    (case po_ValueLine => k_is)
    (case sa_ValueLine => k_is)
    (case mk_ValueLine => k_is)
    (case kc_ValueLine => k_is)
    (case cf_ValueLine_KIND => k_is)
    (case cg_ValueLine_KIND => k_is)
    (case nn_ValueLine => k_is)
    (case n_ValueLine_own_points => k_is)
    (case a_ValueLine_points => k_is)
    (case pr_ValueLine_points => k_is)
    (case pt_ValueLine_points => k_is)
    (case pf_ValueLine_points => k_is)
    (case cls_get => k_is)
    (case cls_take => k_is)
    (case ha_Found => k_is)
    (case hm_Found => k_is)
    (case ha_Line => k_is)
    (case hm_Line => k_is)
    (case ha_KeyLine => k_is)
    (case hm_KeyLine => k_is)
    (case ha_ValueLine => k_is)
    (case hm_ValueLine => k_is)
    (case aC_InvalidPoints => k_is)
    (case xq_InvalidPoints => k_exc)
    (case xk_InvalidPoints => k_is)
    (case xs_InvalidPoints => k_is)
    (case xt_InvalidPoints => k_is)
    (case aC_LockError => k_is)
    (case eb_base => k_is)
    (case ed_base => k_is)
    (case et_base => k_is)
    (case eg_InvalidPoints => k_is)
    (case ek_InvalidPoints => k_is)
    (case ed_InvalidPoints => k_is)
    (case ea_InvalidPoints => k_is)
    (case em_InvalidPoints => k_is)
    (case el_InvalidPoints => k_is)
    (case g_MOST_POINTS => k_is)
    (case un_Line_Line => kit_is)
    (case un_KeyLine_Line => kit_is)
    (case un_ValueLine_Line => kit_is)
    (case un_InvalidPoints_InvalidPoints => kit_is)
    (case nu_Line_KeyLine => kit_is)
    (case nu_KeyLine_ValueLine => kit_is)
    (case nu_ValueLine_KeyLine => kit_is)
    (case su_KeyLine_Line => k_is)
    (case su_ValueLine_Line => k_is)
    (case ul_Line_KeyLine => rfl)
    (case ul_Line_ValueLine => rfl)
    (case kit_NoneType_Found => kit_is)
    (case kit_bool_Found => kit_is)
    (case kit_int_Found => kit_is)
    (case kit_str_Found => kit_is)
    (case kit_tuple_Found => kit_is)
    (case kit_dict_Found => kit_is)
    (case kit_list_Found => kit_is)
    (case kit_str_Line => kit_is)
    (case kit_str_KeyLine => kit_is)
    (case kit_str_ValueLine => kit_is)
    (case kit_list_Line => kit_is)
    (case kit_list_KeyLine => kit_is)
    (case kit_list_ValueLine => kit_is)
    (case z_len => k_is)
    (case z_abs => k_is)
    (case z_max => k_is)
    (case z_min => k_is)
    (case z_range => k_is)
    (case z_sorted => k_is)
    (case z_set => k_is)
    (case z_list => k_is)
    (case z_tuple => k_is)
    (case z_dict => k_is)
    (case z_int => k_is)
    (case z_str => k_is)
    (case z_bool => k_is)
    (case z_all => k_is)
    (case z_any => k_is)
    (case z_sum => k_is)
    (case z_isinstance => k_is)
    (case z_repr => k_is)
    (case z_zip => k_is)
    (case z_enumerate => k_is)
#print axioms PySem.Challenge.cw_gapreach_k01_lines_recognized_holds
