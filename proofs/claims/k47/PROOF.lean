import PyProof.Rows.All
import Wide.All
import OpenK.AllK
import Wide.FinOn
import HandS.ForMost
import HandS.Evl
import HandS.Codes
import HandS.WideBits
import HandS.Wide
import HandS.IsInst
import HandS.Property
import HandS.Star
import HandS.Steps
import HandS.NoneIn
import HandS.Set
import HandS.SetFor
import HandS.Strs
import HandS.TupSets
import HandS.SortRule
import HandS.SortInts
import KE.KUnpackStar
import HandS.RaiseMore
import HandS.Text
import HandS.Iter
import HandS.More
import HandS.DictComp
import HandS.OwnEq
import KE.IntTextLaws
import HandS.ExcInit
import KE.KExcIs
import HandS.ExcOwn
import HandS.WordsExc
import HandS.Deep
import HandS.Dict
import HandS.TupLe
import KE.KeyNested
import HandS.Conv
import HandS.DictTup
import HandS.FStr
import HandS.Finally
import KE.KItemsList
import KE.KEqDict
import HandS.HotCalls
import HandS.Comp
import HandS.ExcIs
import HandS.Style
import PySem.Challenge.RW_gapreach_k47_spacers_and_separate_waits
import HandS.Lambda
import HandS.SortKw
import KE.SortKeyHeap
import KE.SortData
import KE.KDictItemsList
import KE.KDictOf
import HandS.EndTab
import KE.KNest
import KE.OsRunLaw
import KE.KNestM
import KE.KLam
set_option Elab.async false
set_option linter.all false
set_option maxRecDepth 100000
set_option maxHeartbeats 4000000
namespace Gx
open PySem L2
/-! ### a list of three whole numbers that a def changes, known to its callers by what stays true of it -/
/-- at f stands a list of three whole numbers, the first one at least 0 -/
def FlowP (f : Addr) (h : Heap) : Prop := ∃ (x y z : Int) (t u v : Tok) (n : Nat), 0 ≤ x ∧ h.get? f = some { cls := .type "list", data := .seq #[.int x t, .int y u, .int z v] n }
def FlowO (f : Addr) : HO := .ext (FlowP f)
def three (x y z : Int) : HO := .lst [.int x, .int y, .int z]
section
variable {P : Program} {w : World} {K : PySem.W.Frag} {mg : Str → Option Value} {base : Heap} {H : Hp} {h : Heap} {f : Addr}
end
end Gx

namespace Gx
open PySem L2
/-! ### readings, from the left: each of these takes one step -/
section
variable {σ : L2.St} {H H' : Hp} {Q : VK} {K : PySem.W.Frag} {v x y : V} {ta tb te tc : TE} {tt tu : TT} {t u : TS} {D : Ends} {i j : Nat} {r : R2}
theorem g_var (h : σ[i]? = some (some v)) (q : Q v H) : tVar i σ H Q := ⟨v, h, q⟩
theorem g_c (q : Q v H) : tC v σ H Q := q
theorem g_op (q : ta σ H fun x H1 => tb σ H1 fun y H2 => r x y H2 Q) : tOp r ta tb σ H Q := q
theorem g_I0 {g : Int → Int → V} {a b : Int} (q : Q (g a b) H) : rI0 g (.int a) (.int b) H Q := ⟨a, b, rfl, rfl, q⟩
theorem g_Imul {a b : Int} (hc : CMul a b) (q : Q (.int (a * b)) H) : rI CMul (fun i j => .int (i * j)) (.int a) (.int b) H Q := ⟨a, b, rfl, rfl, hc, q⟩
theorem g_Idiv {a b : Int} (hc : CDivW a b) (q : Q (.int (a / b)) H) : rI CDivW (fun i j => .int (i / j)) (.int a) (.int b) H Q := ⟨a, b, rfl, rfl, hc, q⟩
theorem g_Imod {a b : Int} (hc : 0 < b) (q : Q (.int (a % b)) H) : rI (fun _ j => 0 < j) (fun i j => .int (i % j)) (.int a) (.int b) H Q := ⟨a, b, rfl, rfl, hc, q⟩
theorem g_un {r : V → Hp → VK → Prop} (q : ta σ H fun x H1 => r x H1 Q) : tUn r ta σ H Q := q
theorem g_U {g : Int → V} {a : Int} (q : Q (g a) H) : rU g (.int a) H Q := ⟨a, rfl, q⟩
theorem g_eq (h : scal x y = true) (q : Q (.bl (decide (x = y))) H) : rEq x y H Q := ⟨h, q⟩
theorem g_ne (h : scal x y = true) (q : Q (.bl (!decide (x = y))) H) : rNe x y H Q := ⟨h, q⟩
theorem g_exbl {b : Bool} {P : Bool → Prop} (h : P b) : ∃ k, V.bl b = V.bl k ∧ P k := ⟨b, rfl, h⟩
theorem g_test {Q : Bool → Hp → Prop} (q : te σ H fun x H1 => ∃ k, x = .bl k ∧ Q k H1) : tTest te σ H Q := q
theorem g_B {Q : Bool → Hp → Prop} (q : te σ H fun x H1 => ∃ k, x = .bl k ∧ Q k H1) : tB te σ H Q := q
theorem g_not {Q : Bool → Hp → Prop} (q : tt σ H fun c H1 => Q (!c) H1) : tNot tt σ H Q := q
theorem g_and {Q : Bool → Hp → Prop} (q : tt σ H fun c H1 => if c = true then tu σ H1 Q else Q false H1) : tAnd tt tu σ H Q := q
theorem g_or {Q : Bool → Hp → Prop} (q : tt σ H fun c H1 => if c = true then Q true H1 else tu σ H1 Q) : tOr tt tu σ H Q := q
theorem g_andV (q : ta σ H fun x H1 => ∃ c, x = .bl c ∧ if c = true then tb σ H1 Q else Q (.bl false) H1) : tAndV ta tb σ H Q := q
theorem g_orV (q : ta σ H fun x H1 => ∃ c, x = .bl c ∧ if c = true then Q (.bl true) H1 else tb σ H1 Q) : tOrV ta tb σ H Q := q
theorem g_notV (q : ta σ H fun x H1 => ∃ c, x = .bl c ∧ Q (.bl (!c)) H1) : tNotV ta σ H Q := q
theorem g_ifE (q : tt σ H fun c H1 => if c = true then ta σ H1 Q else tb σ H1 Q) : tIf tt ta tb σ H Q := q
theorem g_isN (q : ta σ H fun x H1 => Q (.bl (decide (x = .non))) H1) : tIsN ta σ H Q := q
theorem g_cons {tr : TA} {Q : List V → Hp → Prop} (q : ta σ H fun x H1 => tr σ H1 fun xs H2 => Q (x :: xs) H2) : tCons ta tr σ H Q := q
theorem g_nil {Q : List V → Hp → Prop} (q : Q [] H) : tNil σ H Q := q
theorem g_CB {r : List V → Hp → VK → Prop} {tr : TA} (q : tr σ H fun vs H1 => r vs H1 Q) : tCB r tr σ H Q := q
theorem g_chain {r' : R2} (q : ta σ H fun x H1 => tb σ H1 fun y H2 => r x y H2 fun z H3 => ∃ k, z = .bl k ∧ (if k = true then tc σ H3 fun w' H4 => r' y w' H4 Q else Q (.bl false) H3)) : tChain r r' ta tb tc σ H Q := q
-- statements
theorem g_seq (q : t { D with nx := u D } σ H) : tSeq t u D σ H := q
theorem g_next (q : D.nx σ H) : tNext D σ H := q
theorem g_asg {g : TG} (q : te σ H fun x H1 => g x σ H1 D.nx) : tAsg te g D σ H := q
theorem g_name {Q : L2.St → Hp → Prop} (q : Q (σ.set i (some v)) H) : gName i v σ H Q := q
theorem g_sub {to ti : TE} {s : TSet} {Q : L2.St → Hp → Prop} (q : to σ H fun o H1 => ti σ H1 fun i H2 => s o i v H2 fun H3 => Q σ H3) : gSub to ti s v σ H Q := q
theorem g_drop (q : te σ H fun _ H1 => D.nx σ H1) : tDrop te D σ H := q
theorem g_ret (q : te σ H D.rt) : tRet te D σ H := q
theorem g_retN (q : D.rt .non H) : tRetN D σ H := q
theorem g_ifS (q : tt σ H fun b H1 => if b = true then t D σ H1 else u D σ H1) : tIfS tt t u D σ H := q
theorem g_par {ts : TA} (q : ts σ H fun vs H1 => ∃ v w, vs = [v, w] ∧ D.nx ((σ.set i (some v)).set j (some w)) H1) : tPar i j ts D σ H := q
theorem g_expar {v w : V} {P : V → V → Prop} (h : P v w) : ∃ a b, [v, w] = [a, b] ∧ P a b := ⟨v, w, rfl, h⟩
-- tests decided
theorem g_ite {c : Prop} [Decidable c] {A B : Prop} (h1 : c → A) (h2 : ¬ c → B) : if decide c = true then A else B := by
  by_cases h : c
  · rw [if_pos (decide_eq_true h)]
    exact h1 h
  · rw [if_neg (by rw [decide_eq_false h]; exact Bool.false_ne_true)]
    exact h2 h
theorem g_iteN {c : Prop} [Decidable c] {A B : Prop} (h1 : ¬ c → A) (h2 : c → B) : if (!decide c) = true then A else B := by
  by_cases h : c
  · rw [if_neg (by rw [decide_eq_true h]; exact Bool.false_ne_true)]
    exact h2 h
  · rw [if_pos (by rw [decide_eq_false h]; rfl)]
    exact h1 h
theorem g_ixL {p : Addr} {xs : List V} {k : Int} (h : SqL K H p xs) (ha : atI xs k = some v) (q : Q v H) : rIxL K (.ref p) (.int k) H Q := ⟨p, xs, k, v, rfl, rfl, h, ha, q⟩
theorem g_setL {p : Addr} {xs : List V} {k : Int} {n : Nat} {Q : Hp → Prop} (h : H p = some (.lst xs)) (hn : ixN xs.length k = some n) (q : Q (upd H p (.lst (xs.set n v)))) : rSetL (.ref p) (.int k) v H Q := ⟨p, xs, k, n, rfl, rfl, h, hn, q⟩
theorem g_bits {to : TE} (q : to σ H fun x H1 => ∃ i, x = .int i ∧ Q (.int (Builtin.Int.intBits i : Nat)) H1) : tBits to σ H Q := q
theorem g_exint {a : Int} {P : Int → Prop} (h : P a) : ∃ i, V.int a = V.int i ∧ P i := ⟨a, rfl, h⟩
/-- a for's turns, the source known -/
def FW (g : TG) (tb : TS) (D : Ends) (J : It) (σ : L2.St) (H : Hp) : Prop := ∃ W : Nat → Nat → L2.St → Hp → Prop, (∃ m, W 0 m σ H) ∧ ∀ i m σ H, W i m σ H →
  (J.stop i H ∧ D.nx σ H) ∨ (J.go i H ∧ ∃ N : L2.St → Hp → Prop, (∀ σ' H', N σ' H' → ∃ m', m' < m ∧ W (i + 1) m' σ' H') ∧ ∀ x H', J.yld i H x H' → g x σ H' fun σ2 H2 => tb { D with nx := N, ct := N, bk := D.nx } σ2 H2)
theorem g_for {wi : TI} {g : TG} {tb : TS} (q : wi σ H fun J H1 => FW g tb D J σ H1) : tFor wi g tb D σ H := q
theorem g_iRng1 {ta : TA} {R : It → Hp → Prop} (q : ta σ H fun vs H1 => ∃ n : Int, vs = [.int n] ∧ -(2 ^ 62) ≤ n ∧ n < 2 ^ 62 ∧ R (Itr 0 n.toNat) H1) : iRng1 ta σ H R := q
theorem g_exR1 {n : Int} {R : Int → Prop} (h1 : -(2 ^ 62) ≤ n) (h2 : n < 2 ^ 62) (q : R n) : ∃ k : Int, [V.int n] = [V.int k] ∧ -(2 ^ 62) ≤ k ∧ k < 2 ^ 62 ∧ R k := ⟨n, rfl, h1, h2, q⟩
theorem g_iRng2 {ta : TA} {R : It → Hp → Prop} (q : ta σ H fun vs H1 => ∃ i j : Int, vs = [.int i, .int j] ∧ (-(2 ^ 62) ≤ i ∧ i < 2 ^ 62 ∧ -(2 ^ 62) ≤ j ∧ j < 2 ^ 62) ∧ R (Itr i (j - i).toNat) H1) : iRng2 ta σ H R := q
theorem g_exR2 {n m : Int} {R : Int → Int → Prop} (h : -(2 ^ 62) ≤ n ∧ n < 2 ^ 62 ∧ -(2 ^ 62) ≤ m ∧ m < 2 ^ 62) (q : R n m) : ∃ i j : Int, [V.int n, V.int m] = [V.int i, V.int j] ∧ (-(2 ^ 62) ≤ i ∧ i < 2 ^ 62 ∧ -(2 ^ 62) ≤ j ∧ j < 2 ^ 62) ∧ R i j := ⟨n, m, rfl, h, q⟩
theorem g_iList {tl : TE} {R : It → Hp → Prop} (q : tl σ H fun x H1 => ∃ a, x = .ref a ∧ (∃ xs, SqL K H1 a xs) ∧ R (Itl K a) H1) : iList K tl σ H R := q
theorem g_exL {a : Addr} {xs : List V} {R : Addr → Prop} (h : SqL K H a xs) (q : R a) : ∃ b, V.ref a = V.ref b ∧ (∃ xs, SqL K H b xs) ∧ R b := ⟨a, rfl, ⟨xs, h⟩, q⟩
theorem g_iTup {tl : TE} {R : It → Hp → Prop} (q : tl σ H fun x H1 => ∃ a, x = .ref a ∧ (∃ xs, SqT K H1 a xs) ∧ R (Itt K a) H1) : iTup K tl σ H R := q
theorem fw_range {lo : Int} {n : Nat} {g : TG} {tb : TS} (Pv : Nat → L2.St → Hp → Prop) (h0 : Pv 0 σ H)
    (hs : ∀ i σ H, i < n → Pv i σ H → g (.int (lo + (i : Int))) σ H fun σ2 H2 => tb { D with nx := Pv (i + 1), ct := Pv (i + 1), bk := D.nx } σ2 H2) (hd : ∀ σ H, Pv n σ H → D.nx σ H) : FW g tb D (Itr lo n) σ H := for_range Pv h0 hs hd
theorem fw_list {a : Addr} {xs : List V} {g : TG} {tb : TS} (Pv : Nat → L2.St → Hp → Prop) (h0 : Pv 0 σ H) (hl : ∀ i σ H, i ≤ xs.length → Pv i σ H → SqL K H a xs)
    (hs : ∀ i x σ H, xs[i]? = some x → Pv i σ H → g x σ H fun σ2 H2 => tb { D with nx := Pv (i + 1), ct := Pv (i + 1), bk := D.nx } σ2 H2) (hd : ∀ σ H, Pv xs.length σ H → D.nx σ H) : FW g tb D (Itl K a) σ H := for_list Pv h0 hl hs hd
end
end Gx

namespace Gx
open PySem L2
/-- the built-in names that the text leaves alone -/
structure Bt (mg : Str → Option Value) : Prop where
  n_len : mg "len" = none
  n_abs : mg "abs" = none
  n_max : mg "max" = none
  n_min : mg "min" = none
  n_range : mg "range" = none
  n_sorted : mg "sorted" = none
  n_set : mg "set" = none
  n_list : mg "list" = none
  n_tuple : mg "tuple" = none
  n_dict : mg "dict" = none
  n_int : mg "int" = none
  n_str : mg "str" = none
  n_bool : mg "bool" = none
  n_all : mg "all" = none
  n_any : mg "any" = none
  n_sum : mg "sum" = none
  n_isinstance : mg "isinstance" = none
  n_repr : mg "repr" = none
  n_zip : mg "zip" = none
  n_enumerate : mg "enumerate" = none
/-- a def of the module, as it stands behind the top -/
structure Dn (K : PySem.W.Frag) (mg : Str → Option Value) (x : Str) (st : Stmt) (ps : List Str) (f : Addr) (fd : FuncData) : Prop where
  fn : Fun K x x st f fd
  mgf : mg x = some (.ref f)
  bd : Binds K fd ps []
section
variable {P : Program} {w : World} {K : PySem.W.Frag} {mg : Str → Option Value} {base : Heap}
theorem cal_of {x : Str} {st : Stmt} {ps : List Str} {f : Addr} {fd : FuncData} {k : Nat} {sp : Sp} (D : Dn K mg x st ps f fd) (F : FnOk P w K mg base CX0 k f fd ps sp) : C8.Cal P w K mg base k x sp [] :=
  ⟨f, fd, ps, [], F, D.mgf, D.fn.kp, D.bd, .nil⟩
end
/-! ### what a draw's def does to the list that it draws from -/
def spDip0 : Sp := fun vs H Q _ => ∃ (f : Addr) (x y z m : Int), vs = [.ref f, .int m] ∧ H f = some (three x y z) ∧ 0 ≤ x ∧ 0 < m ∧ m.natAbs < 2 ^ 1000 ∧
  ∀ r x' y' z' : Int, 0 ≤ r → r < m → 0 ≤ x' → Q (.int r) (upd H f (three x' y' z'))
/-- a number from 0 below m; all that was tracked stays -/
def spDip : Sp := fun vs H Q _ => ∃ (f : Addr) (m : Int), vs = [.ref f, .int m] ∧ H f = some (FlowO f) ∧ 0 < m ∧ m.natAbs < 2 ^ 1000 ∧
  ∀ (r : Int) (H' : Hp), 0 ≤ r → r < m → Same H H' → Q (.int r) H'
end Gx

namespace Gx
open PySem L2
/-! ### heaps that keep what they had -/
theorem same_get {H H' : Hp} {a : Addr} {o : HO} (s : Same H H') (h : H a = some o) : H' a = some o := s a o h
theorem same_new {H : Hp} {p : Addr} {o : HO} (h : H p = none) : Same H (upd H p o) := fun a u e => by
  rw [upd_ne (ne_of_none e h)]
  exact e
theorem same_mut {H H' : Hp} {p : Addr} {o : HO} (s : Same H H') (h : H p = none) : Same H (upd H' p o) := fun a u ha => by
  rw [upd_ne (ne_of_none ha h)]
  exact s a u ha
theorem same_sq {K : PySem.W.Frag} {H H' : Hp} {a : Addr} {xs : List V} (e : Same H H') (h : SqL K H a xs) : SqL K H' a xs := e.seq h
theorem same_rd {H H' : Hp} {a : Addr} {u : HO} (e : Same H H') (h : Rd H a u) : Rd H' a u := by
  rcases h with h | ⟨o, h⟩
  · exact Or.inl (e a _ h)
  · exact Or.inr ⟨o, e a _ h⟩
theorem same_sqT {K : PySem.W.Frag} {H H' : Hp} {a : Addr} {xs : List V} (e : Same H H') (h : SqT K H a xs) : SqT K H' a xs := by
  rcases h with h | h
  · exact Or.inl (same_rd e h)
  · exact Or.inr h
theorem same_free {H H' : Hp} {p : Addr} (e : Same H H') (h : H' p = none) : H p = none := e.free h
theorem big_le {n : Nat} (h : n ≤ 100000) : n ≤ sizeLine := Nat.le_trans h (by decide)
theorem big_lt {n : Nat} (h : n < 100000) : n < sizeLine := Nat.lt_of_lt_of_le h (by decide)
section
variable {σ : L2.St} {H H0 : Hp} {Q : VK} {K : PySem.W.Frag} {v x y : V} {E : XK}
/-! ### displays -/
def MkL (xs : List V) (H : Hp) (Q : VK) : Prop := xs.length ≤ sizeLine ∧ ∀ p, H p = none → Q (.ref p) (upd H p (.lst xs))
def MkT (xs : List V) (H : Hp) (Q : VK) : Prop := xs.length ≤ sizeLine ∧ ∀ p, H p = none → Q (.ref p) (upd H p (.tup xs))
theorem g_lst {ts : TA} (q : ts σ H fun xs H1 => MkL xs H1 Q) : tLst ts σ H Q := q
theorem g_tup {ts : TA} (q : ts σ H fun xs H1 => MkT xs H1 Q) : tTup ts σ H Q := q
theorem g_mkL {xs : List V} (hl : xs.length ≤ 100000) (k : ∀ p H', H p = none → Same H H' → H' p = some (.lst xs) → Q (.ref p) H') : MkL xs H Q :=
  ⟨big_le hl, fun p hp => k p _ hp (same_new hp) upd_same⟩
theorem g_mkT {xs : List V} (hl : xs.length ≤ 100000) (k : ∀ p H', H p = none → Same H H' → H' p = some (.tup xs) → Q (.ref p) H') : MkT xs H Q :=
  ⟨big_le hl, fun p hp => k p _ hp (same_new hp) upd_same⟩
/-! ### an item of a written list at a drawn place: what all of them have -/
theorem atI_in {xs : List V} {i : Int} (h0 : 0 ≤ i) (h1 : i < xs.length) : ∃ v, atI xs i = some v ∧ v ∈ xs := by
  have hj : i.toNat < xs.length := by omega
  refine ⟨xs[i.toNat], ?_, List.getElem_mem hj⟩
  have e : ((i.toNat : Nat) : Int) = i := by omega
  have z := atI_nat (List.getElem?_eq_getElem hj)
  rw [e] at z
  exact z
theorem g_ixP {p : Addr} {xs : List V} {i : Int} (P : V → Prop) (h : H p = some (.lst xs)) (h0 : 0 ≤ i) (h1 : i < xs.length) (all : ∀ x ∈ xs, P x) (q : ∀ v, P v → Q v H) : rIxL K (.ref p) (.int i) H Q := by
  obtain ⟨v, e, m⟩ := atI_in h0 h1
  exact ⟨p, xs, i, v, rfl, rfl, SqL.of h, e, q v (all v m)⟩
/-- .. of ints -/
theorem g_ixI {p : Addr} {xs : List V} {i : Int} (P : Int → Prop) (h : H p = some (.lst xs)) (h0 : 0 ≤ i) (h1 : i < xs.length) (all : ∀ x ∈ xs, ∃ n, x = .int n ∧ P n) (q : ∀ n, P n → Q (.int n) H) : rIxL K (.ref p) (.int i) H Q :=
  g_ixP _ h h0 h1 all fun v ⟨n, e, pn⟩ => by subst e; exact q n pn
theorem all_nil {P : V → Prop} : ∀ x ∈ ([] : List V), P x := fun _ h => nomatch h
theorem all_cons {P : V → Prop} {x : V} {xs : List V} (h : P x) (r : ∀ y ∈ xs, P y) : ∀ y ∈ x :: xs, P y := fun y hy => by
  rcases List.mem_cons.mp hy with rfl | hy
  · exact h
  · exact r y hy
/-- an int of a list of ints, at any place of it -/
theorem g_ixN {p : Addr} {ns : List Int} {i : Int} (h : SqL K H p (ns.map V.int)) (h0 : 0 ≤ i) (h1 : i < ns.length) (q : ∀ n, n ∈ ns → ns[i.toNat]? = some n → Q (.int n) H) : rIxL K (.ref p) (.int i) H Q := by
  have hj : i.toNat < ns.length := by omega
  have e : ((i.toNat : Nat) : Int) = i := by omega
  have z : (ns.map V.int)[i.toNat]? = some (.int ns[i.toNat]) := by rw [List.getElem?_map, List.getElem?_eq_getElem hj] <;> rfl
  have z2 := atI_nat z
  rw [e] at z2
  exact ⟨p, _, i, _, rfl, rfl, h, z2, q _ (List.getElem_mem hj) (List.getElem?_eq_getElem hj)⟩
/-! ### append, and calls of built-ins -/
theorem g_BM {T : String} {r : V → List V → Hp → VK → Prop} {to : TE} {t : TA} (q : to σ H fun x H1 => tyV K T x H1 ∧ t σ H1 fun xs H2 => r x xs H2 Q) : tBM K T r to t σ H Q := q
theorem g_BM0 {T : String} {r : V → List V → Hp → VK → Prop} {to : TE} (q : to σ H fun x H1 => tyV K T x H1 ∧ r x [] H1 Q) : tBM0 K T r to σ H Q := q
theorem ty_list {p : Addr} {xs : List V} (h : H p = some (.lst xs)) : tyV K "list" (.ref p) H := Or.inl ⟨rfl, xs, SqL.of h⟩
theorem g_tyL {p : Addr} {xs : List V} {P : Prop} (h : H p = some (.lst xs)) (q : P) : tyV K "list" (.ref p) H ∧ P := ⟨ty_list h, q⟩
def rLenQ (K : PySem.W.Frag) : List V → Hp → VK → Prop := fun xs H Q => ∃ p ys, xs = [.ref p] ∧ (SqL K H p ys ∨ SqT K H p ys) ∧ Q (.int ys.length) H
def rAbsQ : List V → Hp → VK → Prop := fun xs H Q => ∃ i, xs = [.int i] ∧ Q (.int (if i < 0 then -i else i)) H
def rMaxQ : List V → Hp → VK → Prop := fun xs H Q => ∃ i j, xs = [.int i, .int j] ∧ Q (.int (if j > i then j else i)) H
def rMinQ : List V → Hp → VK → Prop := fun xs H Q => ∃ i j, xs = [.int i, .int j] ∧ Q (.int (if j < i then j else i)) H
def rIntQ : List V → Hp → VK → Prop := fun xs H Q => (∃ i, xs = [.int i] ∧ Q (.int i) H) ∨ ∃ k, xs = [.bl k] ∧ Q (.int (if k then 1 else 0)) H
def rListQ (K : PySem.W.Frag) : List V → Hp → VK → Prop := fun xs H Q => ∃ p ys, xs = [.ref p] ∧ (SqL K H p ys ∨ SqT K H p ys) ∧ ∀ l, H l = none → Q (.ref l) (upd H l (.lst ys))
theorem cr_lenQ {X : Cx} : CallR X (.builtin "len") (rLenQ X.K) := call_len_seq
theorem cr_absQ {X : Cx} : CallR X (.builtin "abs") rAbsQ := call_abs
theorem cr_maxQ {X : Cx} (hc : X.calm = true) : CallR X (.builtin "max") rMaxQ := call_max2 hc
theorem cr_minQ {X : Cx} (hc : X.calm = true) : CallR X (.builtin "min") rMinQ := call_min2 hc
theorem g_len {p : Addr} {xs : List V} (h : SqL K H p xs) (q : Q (.int (xs.length : Int)) H) : rLenQ K [V.ref p] H Q := ⟨p, xs, rfl, .inl h, q⟩
theorem g_lenT {p : Addr} {xs : List V} (h : SqT K H p xs) (q : Q (.int (xs.length : Int)) H) : rLenQ K [V.ref p] H Q := ⟨p, xs, rfl, .inr h, q⟩
theorem g_min2 {a b : Int} (q : ∀ c, c ≤ a → c ≤ b → (c = a ∨ c = b) → Q (.int c) H) : rMinQ [V.int a, V.int b] H Q :=
  ⟨a, b, rfl, by split <;> exact q _ (by omega) (by omega) (by omega)⟩
theorem g_max2 {a b : Int} (q : ∀ c, a ≤ c → b ≤ c → (c = a ∨ c = b) → Q (.int c) H) : rMaxQ [V.int a, V.int b] H Q :=
  ⟨a, b, rfl, by split <;> exact q _ (by omega) (by omega) (by omega)⟩
theorem g_abs {a : Int} (q : ∀ c, 0 ≤ c → (c = a ∨ c = -a) → Q (.int c) H) : rAbsQ [V.int a] H Q :=
  ⟨a, rfl, by split <;> exact q _ (by omega) (by omega)⟩
theorem g_intB {b : Bool} (q : Q (.int (if b = true then 1 else 0)) H) : rIntQ [V.bl b] H Q := .inr ⟨b, rfl, q⟩
theorem bt_len : bootBuiltins "len" = some (.builtin "len") := by decide +kernel
theorem bt_abs : bootBuiltins "abs" = some (.builtin "abs") := by decide +kernel
theorem bt_max : bootBuiltins "max" = some (.builtin "max") := by decide +kernel
theorem bt_min : bootBuiltins "min" = some (.builtin "min") := by decide +kernel
theorem bt_sorted : bootBuiltins "sorted" = some (.builtin "sorted") := by decide +kernel
theorem bt_all : bootBuiltins "all" = some (.builtin "all") := by decide +kernel
theorem bt_any : bootBuiltins "any" = some (.builtin "any") := by decide +kernel
theorem bt_repr : bootBuiltins "repr" = some (.builtin "repr") := by decide +kernel
theorem bt_isinstance : bootBuiltins "isinstance" = some (.builtin "isinstance") := by decide +kernel
theorem bt_int : bootBuiltins "int" = some (.type "int") := by decide +kernel
theorem bt_bool : bootBuiltins "bool" = some (.type "bool") := by decide +kernel
theorem bt_list : bootBuiltins "list" = some (.type "list") := by decide +kernel
theorem bt_tuple : bootBuiltins "tuple" = some (.type "tuple") := by decide +kernel
theorem bt_set : bootBuiltins "set" = some (.type "set") := by decide +kernel
/-! ### a power, written out -/
theorem g_pow {a b c : Int} (hc : CPow a b) (e : a ^ b.toNat = c) (q : Q (.int c) H) : rI CPow (fun i j => .int (i ^ j.toNat)) (.int a) (.int b) H Q := ⟨a, b, rfl, rfl, hc, by show Q (.int (a ^ b.toNat)) H; rw [e]; exact q⟩
/-! ### calls of defs -/
theorem g_call {sp : Sp} {dvs : List V} {t : TA} (q : t σ H fun vs H1 => sp (vs ++ dvs) H1 Q E) : tCall sp dvs E t σ H Q := q
end
/-- below ten thousand million .. (a hundred signs) a number has fewer than a thousand bits -/
theorem small_bits {m : Int} (h : -10000000000000000000000000000000000000000000000000000000000000000000000000000000 ≤ m) (h2 : m ≤ 10000000000000000000000000000000000000000000000000000000000000000000000000000000) : m.natAbs < 2 ^ 1000 := by
  have e : (10000000000000000000000000000000000000000000000000000000000000000000000000000000 : Nat) < 2 ^ 1000 := by decide
  exact Nat.lt_of_le_of_lt (show m.natAbs ≤ 10000000000000000000000000000000000000000000000000000000000000000000000000000000 by omega) e
end Gx

/-! Defs that call repr: they run where no repr is under way (guards), so their promise is kept there -/
namespace Gx
open PySem L2 PySem.Spec PyProof.Rows
structure FnG (P : Program) (w : World) (K : PySem.W.Frag) (mg : Str → Option Value) (base : Heap) (k : Nat) (f : Addr) (fd : FuncData) (ps : List Str) (sp : Sp) : Prop where
  size : ∀ vs H Q E, sp vs H Q E → vs.length = ps.length
  goes : ∀ (A : Around) (outer : List Env) (s : Shared) (H : Hp) (args : Args) (us : List Value) (vs : List V) (Q : VK) (E : XK), A.guards = some [] → Room k A → Env0 P w K mg base A outer s H →
    BindsTo s fd args (ps.zip us) → Vals vs us → sp vs H Q E → codeAny (model P w) A (.call (.ref f) args) (CR CX0 outer P w H s Q E) s
section
variable {P : Program} {w : World} {K : PySem.W.Frag} {mg : Str → Option Value} {base : Heap}
/-- such a def, by its body -/
theorem fnG_of {x qual : Str} {st : Stmt} {f : Addr} {fd : FuncData} {N ps : List Str} {k : Nat} {sp : Sp} (F : Fun K x qual st f fd) (S : FnScope N ps (defScope st)) (size : ∀ vs H Q E, sp vs H Q E → vs.length = ps.length)
    (body : ∀ (cdv : Value) (A : Around) (outer : List Env) (s : Shared) (H : Hp) (vs : List V) (Q : VK) (E : XK), A.guards = some [] → Room k (A.deeper (envOfC qual (defScope st) s.heap.objs.size f cdv)) → sp vs H Q E →
      ∃ t, PSs (cxOf CX0 P w K mg base N qual (defScope st) f cdv A outer s H E).nox (defBody st) t ∧ t { nx := fun _ H' => Q .non H', rt := Q } (start N vs) H) : FnG P w K mg base (k + 1) f fd ps sp := by
  obtain ⟨oc, od, kV, doc, pm, an, cdv, ct, osl, rfl, at_f, code⟩ := F.ex
  refine ⟨size, fun A outer s H args us vs Q E gd room e0 bnd rel hsp => ?_⟩
  have inK : K.In s.heap := e0.mod.kin.keeps fun b o e => (e0.bs b o e).1
  have named : ∀ y ∈ ps.zip us, (defScope st).names.lookup y.1 = some .local ∨ ((defScope st).names.lookup y.1 = some .cell ∧ ((cellsFrom (s.heap.objs.size + 1) (defScope st).names []).lookup y.1).isSome = true) := fun y hy =>
    (S.par y.1 (List.of_mem_zip hy).1).imp id fun q => ⟨q, PySem.W.cellsFrom_some _ _ _ (.inl q)⟩
  refine codeAny_call_function room.depth (inK _ _ at_f) rfl S.co S.gen rfl (PySem.W.codeRec_of inK code) (bnd _ _ _ _ (wpAny_newFunctionEnv_cells S.kind named fun env eqn s1 inc => ?_))
  subst eqn
  refine ⟨(e0.mod.nolimit.keeps fun b o e => (e0.bs b o e).1).keeps inc.toInCall.keep, codeAny_func ?_⟩
  obtain ⟨t, der, rd⟩ := body cdv A outer s H vs Q E gd (room.deeper _) hsp
  have I1 := inv_start (CX := CX0) (E := E) S room.hd e0 (size _ _ _ _ hsp) rel inc
  refine wpAny_mono (der.nox.run [] s1 (start N vs) H _ I1 rd) (fun fl s2 done => ?_) fun _ _ z => z
  cases fl with
  | ret u => obtain ⟨v, σ2, H2, J, rv, q⟩ := done; exact ⟨v, H2, J.os, J.bare, J.base, J.hok, rv, q⟩
  | next => obtain ⟨σ2, H2, J, q⟩ := done; exact ⟨V.non, H2, J.os, J.bare, J.base, J.hok, rfl, q⟩
  | brk => obtain ⟨_, _, _, no⟩ := done; exact no.elim
  | cont => obtain ⟨_, _, _, no⟩ := done; exact no.elim
/-- .. by its name -/
structure CalG (P : Program) (w : World) (K : PySem.W.Frag) (mg : Str → Option Value) (base : Heap) (k : Nat) (x : Str) (sp : Sp) : Prop where
  at_ : ∃ (f : Addr) (fd : FuncData) (ps : List Str), FnG P w K mg base k f fd ps sp ∧ mg x = some (.ref f) ∧ PySem.W.keepIn K (.ref f) = true ∧ Binds K fd ps []
theorem calG_of {x : Str} {st : Stmt} {ps : List Str} {f : Addr} {fd : FuncData} {k : Nat} {sp : Sp} (D : Dn K mg x st ps f fd) (F : FnG P w K mg base k f fd ps sp) : CalG P w K mg base k x sp :=
  ⟨f, fd, ps, F, D.mgf, D.fn.kp, D.bd⟩
end
section
variable {X : Cx} {k j : Nat} {x : Str} {sp : Sp} {e : Expr} {es : List Expr} {t : TA} {p pos : Pos}
theorem pe_cG (c : CalG X.prog X.w X.K X.mg X.base k x sp) (gd : X.A.guards = some []) (hr : Room j X.A) (hk : k ≤ j) (hg : Gl X x) (ha : PA X (e :: es) t)
    (hdb : (x == ("__debug__" : Str)) = false := by decide) (he : starEach (e :: es) X.env = (false, eval e X.env) :: starEach es X.env := by rfl) (hpl : (backTo pos (starEach es X.env)).any (·.1) = false := by rfl) :
    PE X (.Call (.Name x p) (e :: es) [] pos) (tCall sp [] (fun _ _ _ => False) t) := by
  obtain ⟨f, fd, ps, F, named, kept, bnd⟩ := c.at_
  refine ⟨fun pins s σ H Q I h => wpAny_Call_Name_kw (ld_glob I hg named ?_ hdb)⟩
  refine PySem.W.callWith_K (h₀ := X.base) I.ok.mod.kin kept (thn (ha.run pos pins s σ H _ I h) fun us s1 got => ?_) he hpl
  obtain ⟨vs, H1, I1, rel, q⟩ := got
  rw [List.append_nil] at q
  refine ⟨I1.kIn, wpAny_call (codeAny_mono (F.goes X.A X.stack s1 H1 ⟨us, []⟩ us vs Q _ gd (hr.mono hk) I1.env0 ?_ rel q) fun r s2 done => ?_)⟩
  · have b := bnd s1 us I1.kIn (by rw [List.append_nil, ← rel.length]; exact F.size _ _ _ _ q)
    rw [List.append_nil] at b
    exact b
  · cases r with
    | error er => exact done.elim
    | ok fl =>
      cases fl with
      | ret u => exact I1.after done
      | next => exact done.elim
      | brk => exact done.elim
      | cont => exact done.elim
/-- repr of data at any depth -/
def rReprQ (K : PySem.W.Frag) : List V → Hp → VK → Prop := fun xs H Q => ∃ a d, xs = [V.ref a] ∧ Dp K H (.ref a) d ∧ SeqAt.shaped d = true ∧ d.showable = true ∧ d.shown.length ≤ sizeLine ∧ Q (.str d.shown) H
theorem cr_repr (gd : X.A.guards = some []) (hr : Room j X.A) : CallR X (.builtin "repr") (rReprQ X.K) := by
  intro pins s σ H xs us Q I rel h
  obtain ⟨a, d, rfl, dp, sh, sw, sz, q⟩ := h
  cases rel with
  | cons r1 r2 =>
    cases r2
    obtain rfl := r1
    obtain ⟨as, rd⟩ := Dp.reads I d _ _ dp rfl
    have u := hr.units
    have dd := SeqAt.depth_of_shaped sh
    refine repr_of_reads' rd sw (PyData.noDict_hsm (PyData.hasDict_of_canLay d (SeqAt.canLay_of_shaped sh))) gd (by have := hr.un; omega) (fun _ _ z => z) (fun h' u tk kept => ?_) sz
    exact ⟨.str d.shown, H, I.kept kept, ⟨u, rfl⟩, q⟩
end
/-! ### the law's own call -/
section
end
end Gx

set_option exponentiation.threshold 5000
/-! Data: what two of them have in common, how long their texts are -/
namespace Gx
open PySem L2
mutual
/-- no truth value, no dict -/
def bare : PyData → Bool
  | .none | .int _ | .str _ => true
  | .bool _ | .dict _ => false
  | .list xs | .tuple xs => bareAll xs
def bareAll : List PyData → Bool
  | [] => true
  | x :: xs => bare x && bareAll xs
end
theorem bareAll_iff : ∀ {xs : List PyData}, bareAll xs = true ↔ ∀ x ∈ xs, bare x = true
  | [] => by simp [bareAll]
  | x :: xs => by simp [bareAll, bareAll_iff (xs := xs)]
mutual
theorem eqv_is : ∀ d e : PyData, bare d = true → bare e = true → (PyData.eqv d e = true ↔ d = e)
  | .none, .none, _, _ => by simp [PyData.eqv]
  | .none, .int _, _, _ => by simp [PyData.eqv]
  | .none, .str _, _, _ => by simp [PyData.eqv]
  | .none, .list _, _, _ => by simp [PyData.eqv]
  | .none, .tuple _, _, _ => by simp [PyData.eqv]
  | .int _, .none, _, _ => by simp [PyData.eqv]
  | .int i, .int j, _, _ => by simp [PyData.eqv]
  | .int _, .str _, _, _ => by simp [PyData.eqv]
  | .int _, .list _, _, _ => by simp [PyData.eqv]
  | .int _, .tuple _, _, _ => by simp [PyData.eqv]
  | .str _, .none, _, _ => by simp [PyData.eqv]
  | .str _, .int _, _, _ => by simp [PyData.eqv]
  | .str x, .str y, _, _ => by simp [PyData.eqv]
  | .str _, .list _, _, _ => by simp [PyData.eqv]
  | .str _, .tuple _, _, _ => by simp [PyData.eqv]
  | .list _, .none, _, _ => by simp [PyData.eqv]
  | .list _, .int _, _, _ => by simp [PyData.eqv]
  | .list _, .str _, _, _ => by simp [PyData.eqv]
  | .list xs, .list ys, h1, h2 => by
    simp only [PyData.eqv, PyData.list.injEq]
    exact eqv_isAll xs ys (by simpa [bare] using h1) (by simpa [bare] using h2)
  | .list _, .tuple _, _, _ => by simp [PyData.eqv]
  | .tuple _, .none, _, _ => by simp [PyData.eqv]
  | .tuple _, .int _, _, _ => by simp [PyData.eqv]
  | .tuple _, .str _, _, _ => by simp [PyData.eqv]
  | .tuple _, .list _, _, _ => by simp [PyData.eqv]
  | .tuple xs, .tuple ys, h1, h2 => by
    simp only [PyData.eqv, PyData.tuple.injEq]
    exact eqv_isAll xs ys (by simpa [bare] using h1) (by simpa [bare] using h2)
  | .bool _, _, h, _ => by simp [bare] at h
  | .dict _, _, h, _ => by simp [bare] at h
  | _, .bool _, _, h => by simp [bare] at h
  | _, .dict _, _, h => by simp [bare] at h
theorem eqv_isAll : ∀ xs ys : List PyData, bareAll xs = true → bareAll ys = true → (PyData.eqvAll xs ys = true ↔ xs = ys)
  | [], [], _, _ => by simp [PyData.eqvAll]
  | [], _ :: _, _, _ => by simp [PyData.eqvAll]
  | _ :: _, [], _, _ => by simp [PyData.eqvAll]
  | x :: xs, y :: ys, h1, h2 => by
    simp only [bareAll, Bool.and_eq_true] at h1 h2
    simp only [PyData.eqvAll, Bool.and_eq_true, eqv_is x y h1.1 h2.1, eqv_isAll xs ys h1.2 h2.2, List.cons.injEq]
end
theorem eqv_yes {d e : PyData} (h1 : bare d = true) (h2 : bare e = true) (h : d = e) : PyData.eqv d e = true := (eqv_is d e h1 h2).mpr h
theorem eqv_no {d e : PyData} (h1 : bare d = true) (h2 : bare e = true) (h : ¬ d = e) : PyData.eqv d e = false := by
  cases q : PyData.eqv d e with
  | false => rfl
  | true => exact absurd ((eqv_is d e h1 h2).mp q) h
/-! ### small data -/
mutual
/-- ints of at most eighty digits, short texts, lists and tuples of such -/
def small : PyData → Bool
  | .none | .bool _ => true
  | .int i => decide (-100000000000000000000000000000000000000000000000000000000000000000000000000000000 ≤ i) && decide (i ≤ 100000000000000000000000000000000000000000000000000000000000000000000000000000000)
  | .str x => decide ((PySem.reprText x).length ≤ 100) && PyData.strOk x
  | .list xs | .tuple xs => smallAll xs
  | .dict _ => false
def smallAll : List PyData → Bool
  | [] => true
  | x :: xs => small x && smallAll xs
end
theorem smallAll_iff : ∀ {xs : List PyData}, smallAll xs = true ↔ ∀ x ∈ xs, small x = true
  | [] => by simp [smallAll]
  | x :: xs => by simp [smallAll, smallAll_iff (xs := xs)]
theorem log_of {i : Int} (h : (decide (-100000000000000000000000000000000000000000000000000000000000000000000000000000000 ≤ i) && decide (i ≤ 100000000000000000000000000000000000000000000000000000000000000000000000000000000)) = true) : i.natAbs.log2 < 1920 := by
  simp only [Bool.and_eq_true, decide_eq_true_eq] at h
  have b : i.natAbs < 2 ^ 1000 := by
    have e : (100000000000000000000000000000000000000000000000000000000000000000000000000000000 : Nat) < 2 ^ 1000 := by decide
    omega
  exact Nat.lt_of_lt_of_le (PySem.Flt.log2_lt_of (by decide : 0 < 1000) b) (by decide)
mutual
theorem small_show : ∀ d : PyData, small d = true → d.showable = true
  | .none, _ => by simp only [PyData.showable]
  | .bool _, _ => by simp only [PyData.showable]
  | .str _, _ => by simp only [PyData.showable]
  | .int i, h => by
    simp only [small] at h
    simp only [PyData.showable, decide_eq_true_eq]
    exact log_of h
  | .list xs, h => by
    simp only [small] at h
    simp only [PyData.showable]
    exact small_showAll xs h
  | .tuple xs, h => by
    simp only [small] at h
    simp only [PyData.showable]
    exact small_showAll xs h
  | .dict _, h => by simp [small] at h
theorem small_showAll : ∀ xs : List PyData, smallAll xs = true → PyData.showableAll xs = true
  | [], _ => by simp only [PyData.showableAll]
  | x :: xs, h => by
    simp only [smallAll, Bool.and_eq_true] at h
    simp only [PyData.showableAll, small_show x h.1, small_showAll xs h.2, Bool.and_self]
end
mutual
theorem small_lay : ∀ d : PyData, small d = true → d.canLay0 = true
  | .none, _ => by simp only [PyData.canLay0]
  | .bool _, _ => by simp only [PyData.canLay0]
  | .str _, h => by
    simp only [small, Bool.and_eq_true] at h
    simp only [PyData.canLay0]
    exact h.2
  | .int i, h => by simp only [PyData.canLay0]
  | .list xs, h => by
    simp only [small] at h
    simp only [PyData.canLay0]
    exact small_layAll xs h
  | .tuple xs, h => by
    simp only [small] at h
    simp only [PyData.canLay0]
    exact small_layAll xs h
  | .dict _, h => by simp [small] at h
theorem small_layAll : ∀ xs : List PyData, smallAll xs = true → PyData.canLayAll0 xs = true
  | [], _ => by simp only [PyData.canLayAll0]
  | x :: xs, h => by
    simp only [smallAll, Bool.and_eq_true] at h
    simp only [PyData.canLayAll0, small_lay x h.1, small_layAll xs h.2, Bool.and_self]
end
/-! ### the length of a text -/
mutual
def cnt : PyData → Nat
  | .none | .bool _ | .int _ | .str _ | .dict _ => 1
  | .list xs | .tuple xs => cntAll xs + 1
def cntAll : List PyData → Nat
  | [] => 0
  | x :: xs => cnt x + cntAll xs
end
theorem listText_le (ts : List Str) : (listText ts).length ≤ piled ts + 2 := by
  cases ts with
  | nil => exact (by decide : (listText []).length ≤ 0 + 2)
  | cons t r =>
    have h := textFrom_length_pos r 1 (("[" : Str) ++ (if (0 : Nat) > 0 then ", " else "" : String) ++ t) (Nat.succ_pos 0)
    have e : ((("[" : Str) ++ (if (0 : Nat) > 0 then ", " else "" : String) ++ t)).length = 1 + t.length := by
      rw [strLen_append, strLen_append]
      rfl
    have z : (listText (t :: r)).length = (textFrom 1 (("[" : Str) ++ (if (0 : Nat) > 0 then ", " else "" : String) ++ t) r).length + 1 := by
      show ((textFrom 1 (("[" : Str) ++ (if (0 : Nat) > 0 then ", " else "" : String) ++ t) r) ++ "]").length = _
      rw [strLen_append]
      rfl
    rw [z, h, e, piled_cons]
    omega
theorem tupleText_le (ts : List Str) : (tupleText ts).length ≤ piled ts + 3 := by
  unfold tupleText
  rw [strLen_append, strLen_append]
  have e1 : ((("(" : String) : Str)).length = 1 := rfl
  have e3 : (((if ts.length == 1 then ",)" else ")" : String) : Str)).length ≤ 2 := by split <;> decide
  have e2 : (Str.join ", " ts).length ≤ piled ts := by
    by_cases h : ts = []
    · subst h
      exact (by decide : (Str.join ", " []).length ≤ 0)
    · have := join_length_add ts h
      omega
  omega
theorem int_len {i : Int} (h : (decide (-100000000000000000000000000000000000000000000000000000000000000000000000000000000 ≤ i) && decide (i ≤ 100000000000000000000000000000000000000000000000000000000000000000000000000000000)) = true) : (Str.ofString (toString i)).length ≤ 82 := by
  simp only [Bool.and_eq_true, decide_eq_true_eq] at h
  have b : i.natAbs < 10 ^ 81 := by
    have e : (100000000000000000000000000000000000000000000000000000000000000000000000000000000 : Nat) < 10 ^ 81 := by decide
    omega
  have q := int_text_length_le10 (a := i) (k := 81) (by decide) b
  rw [ofString_length]
  exact q
mutual
theorem shown_le : ∀ d : PyData, small d = true → d.shown.length + 6 ≤ 130 * cnt d
  | .none, _ => by
    simp only [PyData.shown, cnt]
    exact (by decide : (("None" : String) : Str).length + 6 ≤ 130 * 1)
  | .bool b, _ => by
    simp only [PyData.shown, cnt]
    cases b <;> decide
  | .str x, h => by
    simp only [small, Bool.and_eq_true, decide_eq_true_eq] at h
    simp only [PyData.shown, cnt]
    have := h.1
    omega
  | .int i, h => by
    simp only [small] at h
    have := int_len h
    simp only [PyData.shown, cnt]
    show (Str.ofString (toString i)).length + 6 ≤ 130 * 1
    omega
  | .list xs, h => by
    simp only [small] at h
    have q := shown_leAll xs h
    have z := listText_le (PyData.shownAll xs)
    simp only [PyData.shown, cnt]
    omega
  | .tuple xs, h => by
    simp only [small] at h
    have q := shown_leAll xs h
    have z := tupleText_le (PyData.shownAll xs)
    simp only [PyData.shown, cnt]
    omega
  | .dict _, h => by simp [small] at h
theorem shown_leAll : ∀ xs : List PyData, smallAll xs = true → piled (PyData.shownAll xs) ≤ 130 * cntAll xs
  | [], _ => by simp [PyData.shownAll, cntAll, piled]
  | x :: xs, h => by
    simp only [smallAll, Bool.and_eq_true] at h
    have a := shown_le x h.1
    have b := shown_leAll xs h.2
    simp only [PyData.shownAll, cntAll, piled_cons]
    omega
end
theorem cntAll_le {c : Nat} : ∀ {xs : List PyData}, (∀ x ∈ xs, cnt x ≤ c) → cntAll xs ≤ c * xs.length
  | [], _ => by simp [cntAll]
  | x :: xs, h => by
    have a := h x List.mem_cons_self
    have b := cntAll_le (xs := xs) fun y hy => h y (List.mem_cons_of_mem _ hy)
    simp only [cntAll, List.length_cons, Nat.mul_succ]
    omega
theorem depthAll_le {c : Nat} : ∀ {xs : List PyData}, (∀ x ∈ xs, x.depth ≤ c) → PyData.depthAll xs ≤ c
  | [], _ => by simp [PyData.depthAll]
  | x :: xs, h => by
    have a := h x List.mem_cons_self
    have b := depthAll_le (xs := xs) fun y hy => h y (List.mem_cons_of_mem _ hy)
    simp only [PyData.depthAll]
    omega
/-- small, nested at most n deep, of at most m parts -/
structure Fine (n m : Nat) (d : PyData) : Prop where
  sm : small d = true
  dp : d.depth ≤ n
  ct : cnt d ≤ m
theorem Fine.shaped {n m : Nat} {d : PyData} (h : Fine n m d) (hn : n ≤ 64) : SeqAt.shaped d = true := by
  unfold SeqAt.shaped
  rw [small_lay d h.sm, decide_eq_true (Nat.le_trans h.dp hn)]
  rfl
theorem Fine.text {n m : Nat} {d : PyData} (h : Fine n m d) (hm : m ≤ 100000) : d.shown.length ≤ sizeLine := by
  have a := shown_le d h.sm
  have b := h.ct
  rw [sizeLine_eq]
  omega
theorem fine_int {n : Nat} {i : Int} (h1 : -100000000000000000000000000000000000000000000000000000000000000000000000000000000 ≤ i) (h2 : i ≤ 100000000000000000000000000000000000000000000000000000000000000000000000000000000) : Fine n 1 (.int i) :=
  ⟨by simp [small, h1, h2], by simp [PyData.depth], by simp [cnt]⟩
theorem fine_list {n m : Nat} {xs : List PyData} (h : ∀ x ∈ xs, Fine n m x) : Fine (n + 1) (m * xs.length + 1) (.list xs) :=
  ⟨by simp only [small]; exact smallAll_iff.mpr fun x hx => (h x hx).sm, by simp only [PyData.depth]; have := depthAll_le fun x hx => (h x hx).dp; omega, by simp only [cnt]; have := cntAll_le fun x hx => (h x hx).ct; omega⟩
theorem fine_tuple {n m : Nat} {xs : List PyData} (h : ∀ x ∈ xs, Fine n m x) : Fine (n + 1) (m * xs.length + 1) (.tuple xs) :=
  ⟨by simp only [small]; exact smallAll_iff.mpr fun x hx => (h x hx).sm, by simp only [PyData.depth]; have := depthAll_le fun x hx => (h x hx).dp; omega, by simp only [cnt]; have := cntAll_le fun x hx => (h x hx).ct; omega⟩
theorem Fine.mono {n m n' m' : Nat} {d : PyData} (h : Fine n m d) (hn : n ≤ n') (hm : m ≤ m') : Fine n' m' d := ⟨h.sm, Nat.le_trans h.dp hn, Nat.le_trans h.ct hm⟩
/-! ### data in a heap that keeps what it had -/
section
variable {K : PySem.W.Frag} {H H' : Hp}
mutual
theorem dp_same (s : Same H H') : ∀ (d : PyData) (v : V), Dp K H v d → Dp K H' v d
  | .none, _, h => by cases h; exact .non
  | .bool b, _, h => by cases h; exact .bl b
  | .int i, _, h => by cases h; exact .int i
  | .str x, _, h => by cases h; exact .str x
  | .list ds, _, h => by
    cases h with
    | lst a b => exact .lst (same_sq s a) (dp_sameAll s ds _ b)
  | .tuple ds, _, h => by
    cases h with
    | tup a b => exact .tup (same_sqT s a) (dp_sameAll s ds _ b)
  | .dict _, _, h => by cases h
theorem dp_sameAll (s : Same H H') : ∀ (ds : List PyData) (vs : List V), DpAll K H vs ds → DpAll K H' vs ds
  | [], _, h => by cases h; exact .nil
  | d :: ds, _, h => by
    cases h with
    | cons a b => exact .cons (dp_same s d _ a) (dp_sameAll s ds _ b)
end
theorem dpAll_ints : ∀ (ns : List Int), DpAll K H (ns.map V.int) (ns.map PyData.int)
  | [] => .nil
  | n :: ns => .cons (.int n) (dpAll_ints ns)
theorem dpAll_len : ∀ {vs : List V} {ds : List PyData}, DpAll K H vs ds → vs.length = ds.length
  | _, _, .nil => rfl
  | _, _, .cons _ r => congrArg (· + 1) (dpAll_len r)
theorem dpAll_append : ∀ {vs ws : List V} {ds es : List PyData}, DpAll K H vs ds → DpAll K H ws es → DpAll K H (vs ++ ws) (ds ++ es)
  | _, _, _, _, .nil, s => s
  | _, _, _, _, .cons a r, s => .cons a (dpAll_append r s)
theorem dpAll_get : ∀ {vs : List V} {ds : List PyData} {i : Nat} {v : V}, DpAll K H vs ds → vs[i]? = some v → ∃ d, ds[i]? = some d ∧ Dp K H v d
  | _, _, _, _, .nil, e => by simp at e
  | _, _, 0, _, .cons a _, e => by
    simp at e
    subst e
    exact ⟨_, rfl, a⟩
  | _, _, i + 1, _, .cons _ r, e => by
    obtain ⟨d, h1, h2⟩ := dpAll_get (i := i) r (by simpa using e)
    exact ⟨d, by simpa using h1, h2⟩
variable {Q : VK} {x y : V} {d e : PyData}
theorem g_eqD (h1 : Dp K H x d) (h2 : Dp K H y e) (s1 : SeqAt.shaped d = true) (s2 : SeqAt.shaped e = true) (q : Q (.bl (PyData.eqv d e)) H) : rEqD K x y H Q := ⟨d, e, h1, h2, s1, s2, q⟩
theorem g_neD (h1 : Dp K H x d) (h2 : Dp K H y e) (s1 : SeqAt.shaped d = true) (s2 : SeqAt.shaped e = true) (q : Q (.bl (!PyData.eqv d e)) H) : rNeD K x y H Q := ⟨d, e, h1, h2, s1, s2, q⟩
theorem g_repr {a : Addr} {n m : Nat} (h : Dp K H (.ref a) d) (f : Fine n m d) (hn : n ≤ 64) (hm : m ≤ 100000) (q : Q (.str d.shown) H) : rReprQ K [V.ref a] H Q := ⟨a, d, rfl, h, f.shaped hn, small_show d f.sm, f.text hm, q⟩
end
end Gx

/-! Comprehensions: what the new list is, by a word of the turn and what is made so far -/
namespace Gx
open PySem L2
/-- the turns of a comprehension, its source known -/
def LC (g : TG) (tt : TT) (te : TE) (vs : List Nat) (J : It) (σ : L2.St) (H1 : Hp) (Q : VK) : Prop := ∀ D, H1 D = none → ∃ W : Nat → Nat → Hp → Prop, (∃ m, W 0 m (upd H1 D (.lst []))) ∧ ∀ i m H, W i m H →
  (J.stop i H ∧ Q (.ref D) H) ∨ (J.go i H ∧ ∃ Nx : Hp → Prop, (∀ H', Nx H' → ∃ m', m' < m ∧ W (i + 1) m' H') ∧ ∀ x H', J.yld i H x H' → g x (wipe σ vs) H' fun σ2 H2 => wipe σ2 vs = wipe σ vs ∧ tt σ2 H2 fun b H3 =>
    if b = true then te σ2 H3 fun y H4 => ∃ acc, H4 D = some (.lst acc) ∧ acc.length < sizeLine ∧ Nx (upd H4 D (.lst (acc ++ [y]))) else Nx H3)
/-- a source of n items -/
def Src (J : It) (H1 : Hp) (n : Nat) (item : Nat → V → Hp → Prop) : Prop := ∀ i H, Same H1 H → (i < n → J.go i H ∧ ∀ x H', J.yld i H x H' → Same H H' ∧ item i x H') ∧ (n ≤ i → J.stop i H)
/-- all but one address stay -/
def But (D : Addr) (H H' : Hp) : Prop := ∀ a o, a ≠ D → H a = some o → H' a = some o
section
variable {σ : L2.St} {H H1 : Hp} {Q : VK} {K : PySem.W.Frag} {te tl : TE} {tt : TT} {g : TG} {vs : List Nat} {J : It} {n j : Nat}
theorem g_lc {wi : TI} (q : wi σ H fun J H1 => LC g tt te vs J σ H1 Q) : tLc wi g tt te vs σ H Q := q
theorem src_list {a : Addr} {xs : List V} (h : SqL K H1 a xs) : Src (Itl K a) H1 xs.length (fun i x _ => xs[i]? = some x) := fun i H s => by
  have hh := same_sq s h
  refine ⟨fun hi => ⟨⟨xs, xs[i], hh, List.getElem?_eq_getElem hi⟩, fun x H' y => ?_⟩, fun hi => ⟨xs, hh, hi⟩⟩
  obtain ⟨rfl, q⟩ := y
  exact ⟨Same.refl _, q xs hh⟩
theorem src_zip {a b : Addr} {xs ys : List V} (ha : SqL K H1 a xs) (hb : SqL K H1 b ys) : Src (Itz K a b) H1 (min xs.length ys.length) (fun i v H => ∃ T x y, v = .ref T ∧ H T = some (.tup [x, y]) ∧ xs[i]? = some x ∧ ys[i]? = some y) := fun i H s => by
  have h1 := same_sq s ha
  have h2 := same_sq s hb
  refine ⟨fun hi => ⟨⟨xs, ys, xs[i]'(by omega), ys[i]'(by omega), h1, h2, List.getElem?_eq_getElem _, List.getElem?_eq_getElem _⟩, fun v H' q => ?_⟩, fun hi => ⟨xs, ys, h1, h2, by omega⟩⟩
  obtain ⟨T, x, y, rfl, hT, rfl, qx, qy⟩ := q
  exact ⟨same_new hT, T, x, y, rfl, upd_same, qx xs h1, qy ys h2⟩
/-- THE RULE: A is true of the turn and of what is made so far -/
theorem lc_src {item : Nat → V → Hp → Prop} (src : Src J H1 n item) (hn : n ≤ 100000) (A : Nat → List V → Hp → Prop)
    (mono : ∀ i acc l D H H', H D = some (.lst l) → H1 D = none → Same H1 H → But D H H' → A i acc H → A i acc H') (A0 : ∀ H, Same H1 H → A 0 [] H)
    (turn : ∀ i x acc H' (Nx : V → Hp → Prop) (No : Hp → Prop), i < n → Same H1 H' → item i x H' → A i acc H' → acc.length ≤ i → (∀ y H4, Same H' H4 → A (i + 1) (acc ++ [y]) H4 → Nx y H4) → (∀ H4, Same H' H4 → A (i + 1) acc H4 → No H4) →
      g x (wipe σ vs) H' fun σ2 H2 => wipe σ2 vs = wipe σ vs ∧ tt σ2 H2 fun b H3 => if b = true then te σ2 H3 Nx else No H3)
    (done : ∀ D acc H', H1 D = none → Same H1 H' → H' D = some (.lst acc) → A n acc H' → acc.length ≤ n → Q (.ref D) H') : LC g tt te vs J σ H1 Q := by
  intro D hD
  refine ⟨fun i m H => m = n - i ∧ i ≤ n ∧ ∃ acc, Same H1 H ∧ H D = some (.lst acc) ∧ A i acc H ∧ acc.length ≤ i, ⟨n, rfl, Nat.zero_le _, [], same_new hD, upd_same, A0 _ (same_new hD), Nat.le_refl _⟩, ?_⟩
  rintro i m H ⟨rfl, hi, acc, s, e, a, hl⟩
  rcases Nat.lt_or_ge i n with lt | ge
  · right
    obtain ⟨go, yl⟩ := (src i H s).1 lt
    refine ⟨go, fun H' => i + 1 ≤ n ∧ ∃ acc, Same H1 H' ∧ H' D = some (.lst acc) ∧ A (i + 1) acc H' ∧ acc.length ≤ i + 1, fun H' ⟨l1, q⟩ => ⟨n - (i + 1), by omega, rfl, l1, q⟩, fun x H' y => ?_⟩
    obtain ⟨s2, it⟩ := yl x H' y
    have s12 := s.trans s2
    refine turn i x acc H' _ _ lt s12 it (mono i acc acc D H H' e hD s (fun b o _ z => s2 b o z) a) hl (fun y H4 s4 a4 => ?_) (fun H4 s4 a4 => ?_)
    · have e4 := s4 _ _ (s2 _ _ e)
      have s14 := s12.trans s4
      refine ⟨acc, e4, big_lt (by omega), lt, acc ++ [y], same_mut s14 hD, upd_same, mono (i + 1) (acc ++ [y]) acc D H4 _ e4 hD s14 (fun b o nb z => by rw [upd_ne nb]; exact z) a4, by rw [List.length_append]; exact Nat.succ_le_succ hl⟩
    · exact ⟨lt, acc, s12.trans s4, s4 _ _ (s2 _ _ e), a4, Nat.le_succ_of_le hl⟩
  · left
    have e0 : i = n := Nat.le_antisymm hi ge
    subst e0
    exact ⟨(src i H s).2 ge, done D acc H hD s e a hl⟩
/-- no test; each item makes a value that is what P says -/
theorem lc_map {item : Nat → V → Hp → Prop} (src : Src J H1 n item) (hn : n ≤ 100000) (P : Nat → V → Prop)
    (turn : ∀ i x H' (Nx : V → Hp → Prop), i < n → Same H1 H' → item i x H' → (∀ y H4, Same H' H4 → P i y → Nx y H4) → g x (wipe σ vs) H' fun σ2 H2 => wipe σ2 vs = wipe σ vs ∧ te σ2 H2 Nx)
    (done : ∀ D acc H', H1 D = none → Same H1 H' → H' D = some (.lst acc) → acc.length = n → (∀ (i : Nat) y, acc[i]? = some y → P i y) → Q (.ref D) H') : LC g tYes te vs J σ H1 Q := by
  refine lc_src src hn (fun i acc _ => acc.length = i ∧ ∀ (k : Nat) y, acc[k]? = some y → P k y) (fun _ _ _ _ _ _ _ _ _ _ a => a) (fun _ _ => ⟨rfl, fun k y z => by simp at z⟩) (fun i x acc H' Nx No lt s it a hl k1 k2 => ?_) fun D acc H' h1 s e a _ => done D acc H' h1 s e a.1 a.2
  have q := turn i x H' Nx lt s it fun y H4 s4 p => k1 y H4 s4 ⟨by rw [List.length_append, a.1]; rfl, fun k z hz => ?_⟩
  · exact q
  · rcases Nat.lt_or_ge k acc.length with h | h
    · rw [List.getElem?_append_left h] at hz
      exact a.2 k z hz
    · rw [List.getElem?_append_right h] at hz
      have e0 : k - acc.length = 0 := by
        rcases Nat.eq_zero_or_pos (k - acc.length) with z0 | z0
        · exact z0
        · rw [List.getElem?_eq_none (by simp; omega)] at hz
          cases hz
      rw [e0] at hz
      simp only [List.getElem?_cons_zero, Option.some.injEq] at hz
      subst hz
      have : k = i := by have := a.1; omega
      rw [this]
      exact p
theorem g_yes {Q : Bool → Hp → Prop} (q : Q true H) : tYes σ H Q := q
theorem g_iZip {ta : TA} {R : It → Hp → Prop} (q : ta σ H fun vs H1 => ∃ a b xs ys, vs = [.ref a, .ref b] ∧ SqL K H1 a xs ∧ SqL K H1 b ys ∧ R (Itz K a b) H1) : iZip K ta σ H R := q
theorem g_exZ {a b : Addr} {xs ys : List V} {R : Addr → Addr → Prop} (h1 : SqL K H a xs) (h2 : SqL K H b ys) (q : R a b) : ∃ p q xs ys, [V.ref a, V.ref b] = [.ref p, .ref q] ∧ SqL K H p xs ∧ SqL K H q ys ∧ R p q := ⟨a, b, xs, ys, rfl, h1, h2, q⟩
theorem g_gtup {k : Nat} {t : TGs} {a : Addr} {xs : List V} {Q : L2.St → Hp → Prop} (h : SqT K H a xs) (hl : xs.length = k) (q : t xs σ H Q) : gTup K k t (.ref a) σ H Q := ⟨a, xs, rfl, h, hl, q⟩
theorem g_gcons {t : TG} {u : TGs} {v : V} {r : List V} {Q : L2.St → Hp → Prop} (q : t v σ H fun σ' H' => u r σ' H' Q) : gCons t u (v :: r) σ H Q := ⟨v, r, rfl, q⟩
theorem g_gnil {Q : L2.St → Hp → Prop} (q : Q σ H) : gNil [] σ H Q := ⟨rfl, q⟩
theorem g_all {a : Addr} {bs : List Bool} (h : SqL K H a (bs.map V.bl)) (q : Q (.bl (bs.all id)) H) : rAll K [V.ref a] H Q := ⟨a, bs, rfl, h, q⟩
theorem g_any {a : Addr} {bs : List Bool} (h : SqL K H a (bs.map V.bl)) (q : Q (.bl (bs.any id)) H) : rAny K [V.ref a] H Q := ⟨a, bs, rfl, h, q⟩
theorem g_slL {a : Addr} {xs : List V} {lo hi : Option Int} (h : SqL K H a xs) (k : ∀ p H', H p = none → Same H H' → H' p = some (.lst (cutV xs lo hi)) → Q (.ref p) H') : rSlL K (.ref a) lo hi H Q := ⟨a, xs, rfl, h, fun p hp => k p _ hp (same_new hp) upd_same⟩
theorem g_sl {r : V → Option Int → Option Int → Hp → VK → Prop} {tl th : TO} (q : te σ H fun x H1 => tl σ H1 fun l H2 => th σ H2 fun u H3 => r x l u H3 Q) : tSl r te tl th σ H Q := q
theorem g_noP {Q : Option Int → Hp → Prop} (q : Q none H) : tNoPart σ H Q := q
theorem g_part {Q : Option Int → Hp → Prop} (q : te σ H fun x H1 => ∃ i, x = .int i ∧ Q (some i) H1) : tPart te σ H Q := q
end
end Gx

/-! Objects: attributes, methods (also with keywords alone), makes, isinstance -/
namespace Gx
open PySem L2 PySem.Spec PyProof.Rows
section
variable {σ : L2.St} {H H1 : Hp} {Q : VK} {K : PySem.W.Frag} {te tl ta : TE} {D : Ends} {x v : V} {a C dx : Addr} {fs : List (Str × V)} {f m : Str} {sp : Sp} {dvs : List V} {E : XK} {t : TA}
def FldQ (K : PySem.W.Frag) (f : Str) (x : V) (H : Hp) (Q : VK) : Prop := ∃ a C dx fs v, x = .ref a ∧ H a = some (.ins C dx fs) ∧ Cls K C ∧ NoAttr K C f ∧ fs.lookup f = some v ∧ Q v H
theorem g_tfld (q : ta σ H fun x H1 => FldQ K f x H1 Q) : tFld K ta f σ H Q := q
def MethQ (C : Addr) (m : Str) (sp : Sp) (dvs : List V) (E : XK) (t : TA) (σ : L2.St) (x : V) (H : Hp) (Q : VK) : Prop := ∃ a dx fs, x = .ref a ∧ H a = some (.ins C dx fs) ∧ fs.lookup m = none ∧ t σ H fun vs H2 => sp (x :: (vs ++ dvs)) H2 Q E
theorem g_tmeth (q : ta σ H fun x H1 => MethQ C m sp dvs E t σ x H1 Q) : tMeth C m sp dvs E ta t σ H Q := q
def MakeQ (C : Addr) (sp : Sp) (vs : List V) (H : Hp) (Q : VK) (E : XK) : Prop := ∀ x dx, H x = none → H dx = none → dx ≠ x → sp (.ref x :: vs) (upd (upd H dx (.own x)) x (.ins C dx [])) (fun v H2 => v = .non ∧ Q (.ref x) H2) E
theorem g_tmake (q : t σ H fun vs H1 => MakeQ C sp (vs ++ dvs) H1 Q E) : tMake C sp dvs E t σ H Q := q
def StoreQ (K : PySem.W.Frag) (f : Str) (y x : V) (D : Ends) (σ : L2.St) (H : Hp) : Prop := ∃ a C dx fs, x = .ref a ∧ H a = some (.ins C dx fs) ∧ Cls K C ∧ NoAttr K C f ∧ fs.length < 1000 ∧ D.nx σ (upd H a (.ins C dx (putF f y fs)))
theorem g_sfld {tv : TE} (q : tv σ H fun y H1 => ta σ H1 fun x H2 => StoreQ K f y x D σ H2) : sFld K ta tv f D σ H := q
theorem g_isi {c : V} {t u : Value} {b : Bool} (k : ClsV c u) (ty : TyX K H x t) (e : PySem.W.kitOne K t u = some b) (q : Q (.bl b) H) : rIsi K [x, c] H Q := ⟨x, c, t, u, b, rfl, k, ty, e, q⟩
def PropQ (C : Addr) (sp : Sp) (dvs : List V) (E : XK) (x : V) (H : Hp) (Q : VK) : Prop := ∃ a dx fs, x = .ref a ∧ H a = some (.ins C dx fs) ∧ sp (.ref a :: dvs) H Q E
theorem g_tprop (q : ta σ H fun x H1 => PropQ C sp dvs E x H1 Q) : tProp C sp dvs E ta σ H Q := q
def StarQ (K : PySem.W.Frag) (t : TA) (σ : L2.St) (x : V) (H : Hp) (Q : List V → Hp → Prop) : Prop := ∃ p xs, x = V.ref p ∧ (SqT K H p xs ∨ SqL K H p xs) ∧ t σ H fun ys H2 => Q (xs ++ ys) H2
theorem g_tstar {Q : List V → Hp → Prop} (q : te σ H fun x H1 => StarQ K t σ x H1 Q) : StX.tStar K te t σ H Q := q
/-- an if whose answer is known -/
theorem g_ifT {b : Bool} {A B : Prop} (h : b = true) (q : A) : if b = true then A else B := by rw [if_pos h]; exact q
theorem g_ifF {b : Bool} {A B : Prop} (h : b = false) (q : B) : if b = true then A else B := by rw [if_neg (by rw [h]; exact Bool.false_ne_true)]; exact q
end
/-! ### a method called with keywords alone -/
structure MetK (P : Program) (w : World) (K : PySem.W.Frag) (mg : Str → Option Value) (base : Heap) (k : Nat) (C : Addr) (m : Str) (ks : List Str) (gV : List V → List V → List V) (sp : Sp) : Prop where
  ex : ∃ (f : Addr) (fd : FuncData) (ps : List Str) (g : List Value → List Value → List Value), Cls K C ∧ Meth K C m f ∧ FnOk P w K mg base CX0 k f fd ps sp ∧ KBinds K fd ps ks g gV
/-- o.m(k = e, ..) -/
def tMethK (C : Addr) (m : Str) (sp : Sp) (gV : List V → List V → List V) (ta : TE) (tk : TA) : TE := fun σ H Q => ta σ H fun x H1 => ∃ a dx fs, x = .ref a ∧ H1 a = some (.ins C dx fs) ∧ fs.lookup m = none ∧
  tk σ H1 fun zs H2 => sp (gV [x] zs) H2 Q (fun _ _ _ => False)
section
variable {X : Cx} {k j : Nat} {C : Addr} {m : Str} {ks : List Str} {gV : List V → List V → List V} {sp : Sp} {o : Expr} {kws : List Keyword} {ta : TE} {tk : TA} {pos apos : Pos}
def MethKQ (C : Addr) (m : Str) (sp : Sp) (gV : List V → List V → List V) (tk : TA) (σ : L2.St) (x : V) (H : Hp) (Q : VK) : Prop := ∃ a dx fs, x = .ref a ∧ H a = some (.ins C dx fs) ∧ fs.lookup m = none ∧ tk σ H fun zs H2 => sp (gV [x] zs) H2 Q (fun _ _ _ => False)
theorem g_tmethK {σ : L2.St} {H : Hp} {Q : VK} (q : ta σ H fun x H1 => MethKQ C m sp gV tk σ x H1 Q) : tMethK C m sp gV ta tk σ H Q := q
end
/-! ### a property -/
structure PropR (P : Program) (w : World) (K : PySem.W.Frag) (mg : Str → Option Value) (base : Heap) (k : Nat) (C : Addr) (f : Str) (sp : Sp) : Prop where
  ex : ∃ (p g : Addr) (fd : FuncData) (ps : List Str), Cls K C ∧ PropOf K C f p g ∧ FnOk P w K mg base CX0 k g fd ps sp ∧ Binds K fd ps []
/-- two keywords, the second parameter's value comes last -/
def swapV : List V → List V → List V
  | [a], [y, x] => [a, x, y]
  | _, _ => []
def swapU : List Value → List Value → List Value
  | [a], [y, x] => [a, x, y]
  | _, _ => []
/-- one keyword -/
def oneV : List V → List V → List V
  | [a], [x] => [a, x]
  | _, _ => []
def oneU : List Value → List Value → List Value
  | [a], [x] => [a, x]
  | _, _ => []
end Gx

/-! Lines of points: what stands at such an object, the promises of its methods -/
namespace Gx
open PySem L2
/-- whether an object is a whole number (no truth value) -/
inductive WholeV (K : PySem.W.Frag) (H : Hp) : V → Bool → Prop
  | int (i : Int) : WholeV K H (.int i) true
  | bl (c : Bool) : WholeV K H (.bl c) false
  | other {x : V} {t : Value} (ty : TyX K H x t) (no : PySem.W.kitOne K t (.type "int") = some false) : WholeV K H x false
def spWhole (K : PySem.W.Frag) : Sp := fun vs H Q _ => ∃ x b, vs = [x] ∧ WholeV K H x b ∧ Q (.bl b) H
def spPoint (K : PySem.W.Frag) : Sp := fun vs H Q _ => ∃ p x b, vs = [.ref p, x] ∧ WholeV K H x b ∧ Q (.bl b) H
/-- the attributes of a line -/
def lf (q : Addr) : List (Str × V) := [("own_points", .ref q)]
/-- a line of the class at C stands at p, its points are xs -/
def LineAt (C : Addr) (H : Hp) (p : Addr) (xs : List V) : Prop := ∃ dx q, H p = some (.ins C dx (lf q)) ∧ H q = some (.lst xs)
theorem LineAt.same {C : Addr} {H H' : Hp} {p : Addr} {xs : List V} (h : LineAt C H p xs) (s : Same H H') : LineAt C H' p xs := by
  obtain ⟨dx, q, h1, h2⟩ := h
  exact ⟨dx, q, s _ _ h1, s _ _ h2⟩
/-- what the walk asks of the class of a line -/
structure LineC (K : PySem.W.Frag) (C : Addr) : Prop where
  cl : Cls K C
  own : NoAttr K C "own_points"
/-- a line of ints is made -/
def spInitI (K : PySem.W.Frag) (C : Addr) : Sp := fun vs H Q _ => ∃ (p a dx : Addr) (ns : List Int), vs = [.ref p, .ref a] ∧ H p = some (.ins C dx []) ∧ H a = some (.lst (ns.map V.int)) ∧ ns.length ≤ 500 ∧ ns.Pairwise (· < ·) ∧
  ∀ H', LineAt C H' p (ns.map V.int) → But p H H' → Q .non H'
/-- its points, as a new list -/
def spPoints (K : PySem.W.Frag) (C : Addr) : Sp := fun vs H Q _ => ∃ (p : Addr) (xs : List V), vs = [.ref p] ∧ LineAt C H p xs ∧ ∀ l H', H l = none → Same H H' → H' l = some (.lst xs) → Q (.ref l) H'
theorem ints_at {ns : List Int} {i : Nat} {x : V} (h : (ns.map V.int)[i]? = some x) : ∃ n, ns[i]? = some n ∧ x = V.int n := by
  rw [List.getElem?_map] at h
  cases e : ns[i]? with
  | none => rw [e] at h; cases h
  | some n => rw [e] at h; exact ⟨n, rfl, (Option.some.inj h).symm⟩
theorem but_same {p : Addr} {H H' : Hp} {o : HO} (s : Same H H') : But p H (upd H' p o) := fun b u nb e => by
  rw [upd_ne nb]
  exact s b u e
theorem cut_one (xs : List V) : cutV xs (some 1) none = xs.drop 1 := by
  unfold cutV
  cases xs with
  | nil => rfl
  | cons x r =>
    have e1 : HT.sIx (x :: r).length 0 (some 1) = 1 := by
      simp [HT.sIx]
    have e2 : HT.sIx (x :: r).length (x :: r).length none = (x :: r).length := rfl
    rw [e1, e2]
    exact List.take_of_length_le (by simp)
end Gx

/-! Cells of a line of ints -/
namespace Gx
open PySem L2
theorem g_isN1 {H : Hp} {Q : VK} {x : V} (q : Q (.bl (decide (x = .non))) H) : rIsN x .non H Q := ⟨rfl, q⟩
theorem g_notN1 {H : Hp} {Q : VK} {x : V} (q : Q (.bl (!decide (x = .non))) H) : rNotN x .non H Q := ⟨rfl, q⟩
abbrev oV : Option Int → V
  | none => .non
  | some i => .int i
def oD : Option Int → PyData
  | none => .none
  | some i => .int i
def leastOf (lo : Int) : Option Int → Int
  | none => lo
  | some x => if x + 1 > lo then x + 1 else lo
def mostOf (hi : Int) : Option Int → Int
  | none => hi
  | some y => if y - 1 < hi then y - 1 else hi
def gapIn (l r : Option Int) (lo hi : Int) : Bool := decide (leastOf lo l ≤ mostOf hi r)
def gapD (l r : Option Int) : PyData := .tuple [.str "gap", oD l, oD r]
def pointD (y : Int) : PyData := .tuple [.str "point", .int y]
def ptStep (lo hi : Int) : Option Int → List PyData
  | none => []
  | some y => if lo ≤ y ∧ y ≤ hi then [pointD y] else []
def cellStep (lo hi : Int) (l r : Option Int) : List PyData := (if gapIn l r lo hi = true then [gapD l r] else []) ++ ptStep lo hi r
def cellFold (lo hi : Int) (s : Option Int × List PyData) (r : Option Int) : Option Int × List PyData := (r, s.2 ++ cellStep lo hi s.1 r)
/-- the points of a line and its open end -/
def rights (ns : List Int) : List (Option Int) := ns.map some ++ [none]
def cellsOf (ns : List Int) (lo hi : Int) : List PyData := ((rights ns).foldl (cellFold lo hi) (none, [])).2
mutual
/-- data without lists: it stays whatever list is changed -/
def noLst : PyData → Bool
  | .none | .bool _ | .int _ | .str _ => true
  | .list _ | .dict _ => false
  | .tuple xs => noLstAll xs
def noLstAll : List PyData → Bool
  | [] => true
  | x :: xs => noLst x && noLstAll xs
end
theorem noLstAll_iff : ∀ {xs : List PyData}, noLstAll xs = true ↔ ∀ x ∈ xs, noLst x = true
  | [] => by simp [noLstAll]
  | x :: xs => by simp [noLstAll, noLstAll_iff (xs := xs)]
section
variable {K : PySem.W.Frag} {H H' : Hp} {p : Addr} {l : List V}
theorem sqT_but (hp : H p = some (.lst l)) (b : But p H H') {a : Addr} {xs : List V} (h : SqT K H a xs) : SqT K H' a xs := by
  rcases h with (h | ⟨o, h⟩) | h
  · exact .inl (.inl (b a _ (ne_of h hp (by intro z; cases z)) h))
  · exact .inl (.inr ⟨o, b a _ (ne_of h hp (by intro z; cases z)) h⟩)
  · exact .inr h
mutual
theorem dp_but (hp : H p = some (.lst l)) (b : But p H H') : ∀ (d : PyData) (v : V), noLst d = true → Dp K H v d → Dp K H' v d
  | .none, _, _, h => by cases h; exact .non
  | .bool c, _, _, h => by cases h; exact .bl c
  | .int i, _, _, h => by cases h; exact .int i
  | .str x, _, _, h => by cases h; exact .str x
  | .list _, _, n, _ => by simp [noLst] at n
  | .dict _, _, n, _ => by simp [noLst] at n
  | .tuple ds, _, n, h => by
    cases h with
    | tup a c => exact .tup (sqT_but hp b a) (dp_butAll hp b ds _ (by simpa [noLst] using n) c)
theorem dp_butAll (hp : H p = some (.lst l)) (b : But p H H') : ∀ (ds : List PyData) (vs : List V), noLstAll ds = true → DpAll K H vs ds → DpAll K H' vs ds
  | [], _, _, h => by cases h; exact .nil
  | d :: ds, _, n, h => by
    simp only [noLstAll, Bool.and_eq_true] at n
    cases h with
    | cons a c => exact .cons (dp_but hp b d _ n.1 a) (dp_butAll hp b ds _ n.2 c)
end
end
theorem same_but {p : Addr} {H H1 H2 : Hp} (s : Same H H1) (n : H p = none) (b : But p H1 H2) : Same H H2 := fun a o e => b a o (ne_of_none e n) (s a o e)
theorem g_appB {p : Addr} {H : Hp} {Q : VK} {xs : List V} {y : V} (h : H p = some (.lst xs)) (hl : xs.length < 100000) (k : ∀ H', But p H H' → H' p = some (.lst (xs ++ [y])) → Q .non H') : rAppend (.ref p) [y] H Q :=
  ⟨p, xs, y, rfl, rfl, h, big_lt hl, k _ (fun a o n e => by rw [upd_ne n]; exact e) upd_same⟩
theorem g_cat {l b : Addr} {xs zs : List V} {H : Hp} {Q : VK} (h1 : H l = some (.lst xs)) (h2 : H b = some (.lst zs)) (hl : xs.length + zs.length ≤ 100000) (k : ∀ p H', H p = none → Same H H' → H' p = some (.lst (xs ++ zs)) → Q (.ref p) H') : rCat (.ref l) (.ref b) H Q :=
  ⟨l, b, xs, zs, rfl, rfl, h1, h2, big_le hl, fun p hp => k p _ hp (same_new hp) upd_same⟩
/-! ### the promises -/
def spAhead : Sp := fun vs H Q _ => ∃ (p : Addr) (a lo : Int), vs = [.ref p, .int a, .int lo] ∧ Q (.bl (decide (a < lo))) H
def spBeyond : Sp := fun vs H Q _ => ∃ (p : Addr) (a hi : Int), vs = [.ref p, .int a, .int hi] ∧ Q (.bl (decide (hi < a))) H
def spBetween : Sp := fun vs H Q _ => ∃ (p : Addr) (l r : Option Int) (lo hi : Int), vs = [.ref p, oV l, oV r, .int lo, .int hi] ∧ Q (.bl (gapIn l r lo hi)) H
def spCells (K : PySem.W.Frag) (C : Addr) : Sp := fun vs H Q _ => ∃ (p : Addr) (ns : List Int) (lo hi : Int), vs = [.ref p, .int lo, .int hi] ∧ LineAt C H p (ns.map V.int) ∧ lo ≤ hi ∧ ns.length ≤ 500 ∧
  ∀ (a : Addr) (acc : List V) (H' : Hp), H a = none → Same H H' → H' a = some (.lst acc) → DpAll K H' acc (cellsOf ns lo hi) → acc.length ≤ 1002 → Q (.ref a) H'
end Gx

/-! Cells found by trying numbers -/
namespace Gx
open PySem L2
theorem g_cutE {te : TE} {σ : L2.St} {H : Hp} {Q : VK} (P : V → Hp → Prop) (h : ∀ Q' : VK, (∀ v H', P v H' → Q' v H') → te σ H Q') (q : ∀ v H', P v H' → Q v H') : te σ H Q := h Q q
theorem eqV_int (a b : Int) : eqV (.int a) (.int b) = decide (a = b) := by
  show (a == b) = decide (a = b)
  by_cases h : a = b
  · subst h; simp
  · simp [h]
theorem inV_ints (n : Int) : ∀ ns : List Int, inV (.int n) (ns.map V.int) = decide (n ∈ ns)
  | [] => by simp [inV]
  | m :: ns => by
    have ih := inV_ints n ns
    unfold inV at ih ⊢
    rw [List.map_cons, List.any_cons, eqV_int, ih]
    by_cases h : m = n
    · subst h; simp
    · by_cases h2 : n ∈ ns <;> simp [h, h2, Ne.symm h, eq_comm]
theorem flat_ints (ns : List Int) : (ns.map V.int).all flatV = true := by
  rw [List.all_eq_true]
  intro x hx
  obtain ⟨n, _, rfl⟩ := List.mem_map.mp hx
  rfl
theorem g_inI {K : PySem.W.Frag} {H : Hp} {Q : VK} {p : Addr} {ns : List Int} {n : Int} (h : SqL K H p (ns.map V.int)) (q : Q (.bl (decide (n ∈ ns))) H) : rIn K false (.int n) (.ref p) H Q :=
  ⟨p, _, rfl, .inl h, rfl, flat_ints ns, by rw [inV_ints]; exact q⟩
theorem g_notInI {K : PySem.W.Frag} {H : Hp} {Q : VK} {p : Addr} {ns : List Int} {n : Int} (h : SqL K H p (ns.map V.int)) (q : Q (.bl (!decide (n ∈ ns))) H) : rIn K true (.int n) (.ref p) H Q :=
  ⟨p, _, rfl, .inl h, rfl, flat_ints ns, by rw [inV_ints]; exact q⟩
theorem atI_head {xs : List V} {v : V} (h : xs.head? = some v) : atI xs 0 = some v := by
  cases xs with
  | nil => cases h
  | cons x r => exact atI_nat (j := 0) h
/-- the cell of a number -/
def cellAt (ns : List Int) (m : Int) : PyData := if m ∈ ns then pointD m else gapD (ns.filter fun n => decide (n < m)).getLast? (ns.filter fun n => decide (m < n)).head?
def sameLast (acc : List PyData) (d : PyData) : Bool := match acc.getLast? with
  | none => false
  | some e => PyData.eqv e d
def dueStep (ns : List Int) (acc : List PyData) (m : Int) : List PyData := if sameLast acc (cellAt ns m) = true then acc else acc ++ [cellAt ns m]
def dueOf (ns : List Int) (lo : Int) (k : Nat) : List PyData := (List.range k).foldl (fun acc (i : Nat) => dueStep ns acc (lo + (i : Int))) []
/-! ### cells are small data -/
/-- numbers of at most eighty digits -/
def In80 (i : Int) : Prop := -100000000000000000000000000000000000000000000000000000000000000000000000000000000 ≤ i ∧ i ≤ 100000000000000000000000000000000000000000000000000000000000000000000000000000000
def spDue (K : PySem.W.Frag) : Sp := fun vs H Q _ => ∃ (a : Addr) (ns : List Int) (lo hi : Int), vs = [.ref a, .int lo, .int hi] ∧ H a = some (.lst (ns.map V.int)) ∧ ns.length ≤ 500 ∧ (∀ n ∈ ns, In80 n) ∧ -1000 ≤ lo ∧ lo ≤ hi ∧ hi ≤ 1000 ∧
  ∀ (l : Addr) (acc : List V) (H' : Hp), H l = none → Same H H' → H' l = some (.lst acc) → DpAll K H' acc (dueOf ns lo (hi + 1 - lo).toNat) → Q (.ref l) H'
end Gx

/-! The cells found by trying all numbers are those that meet the range -/
namespace Gx
open PySem L2
def tryStep (f : Int → PyData) (acc : List PyData) (m : Int) : List PyData := if sameLast acc (f m) = true then acc else acc ++ [f m]
def tryN (f : Int → PyData) (acc : List PyData) (lo : Int) : Nat → List PyData
  | 0 => acc
  | n + 1 => tryStep f (tryN f acc lo n) (lo + (n : Int))
/-- the cell of a number, left of it l, beyond it the points rs -/
def cellR (l : Option Int) : List Int → Int → PyData
  | [], _ => gapD l none
  | y :: ys, m => if m < y then gapD l (some y) else if m = y then pointD y else cellR (some y) ys m
def cellsR (lo hi : Int) (l : Option Int) : List Int → List PyData
  | [] => cellStep lo hi l none
  | y :: ys => cellStep lo hi l (some y) ++ cellsR lo hi (some y) ys
end Gx

/-! Any list that a def changes, known to its callers by what stays true of it -/
namespace Gx
open PySem L2
/-- at f stands a list whose items are as G says -/
def HidP (G : List V → Prop) (f : Addr) (h : Heap) : Prop := ∃ (vs : List V) (its : List Value) (n : Nat), G vs ∧ vs.length ≤ sizeLine ∧ Vals vs its ∧ h.get? f = some { cls := .type "list", data := .seq its.toArray n }
def HidO (G : List V → Prop) (f : Addr) : HO := .ext (HidP G f)
section
variable {P : Program} {w : World} {K : PySem.W.Frag} {mg : Str → Option Value} {base : Heap} {H : Hp} {h : Heap} {f : Addr} {G : List V → Prop}
theorem hid_open (ok : HOk P w H h) (hf : H f = some (HidO G f)) : ∃ vs, G vs ∧ HOk P w (upd H f (.lst vs)) h := by
  have q : ObjOk P w H h f (HidO G f) := ok f _ hf
  obtain ⟨⟨vs, its, n, g, l, r, e⟩, _, _⟩ := q
  refine ⟨vs, g, ok.write (by rw [hf]; trivial) (Or.inl rfl) (fun _ _ _ q => q) ⟨_, e⟩ ?_⟩
  exact ⟨l, its, n, r, e⟩
theorem hid_close {vs : List V} (ok : HOk P w H h) (hf : H f = some (.lst vs)) (g : G vs) : HOk P w (upd H f (HidO G f)) h := by
  have q : ObjOk P w H h f (.lst vs) := ok f _ hf
  obtain ⟨l, its, n, r, e⟩ := q
  refine ok.write (by rw [hf]; trivial) (Or.inl rfl) (fun _ _ _ q => q) ⟨_, e⟩ ?_
  exact ⟨⟨vs, its, n, g, l, r, e⟩, ⟨_, e⟩, fun h1 h2 p1 k => by
    obtain ⟨vs, its, n, g, l, r, e⟩ := p1
    exact ⟨vs, its, n, g, l, r, k _ e⟩⟩
theorem hid_view {k : Nat} {fa : Addr} {fd : FuncData} {ps : List Str} {sp sp' : Sp} (F : FnOk P w K mg base CX0 k fa fd ps sp) (some_ : sp' = sp' → ∀ vs H Q E, sp' vs H Q E → vs.length = ps.length)
    (hs : ∀ vs H Q E, sp' vs H Q E → ∃ (f : Addr) (G G2 : List V → Prop), H f = some (HidO G f) ∧ ∀ xs, G xs → sp vs (upd H f (.lst xs)) (fun v H' => (∃ ys, G2 ys ∧ H' f = some (.lst ys)) ∧ Q v (upd H' f (HidO G2 f))) E) :
    FnOk P w K mg base CX0 k fa fd ps sp' := by
  refine ⟨some_ rfl, fun A outer s H args us vs Q E hr he hb hv q => ?_⟩
  obtain ⟨f, G, G2, hf, k⟩ := hs vs H Q E q
  obtain ⟨xs, g, ok1⟩ := hid_open he.hok hf
  have nf : ∀ b, H b = none → b ≠ f := fun b n e => by rw [e, hf] at n; cases n
  have mu : Mut (H f) := by rw [hf]; trivial
  have hof : ∃ o, s.heap.get? f = some o := by
    have q : ObjOk P w H s.heap f (HidO G f) := he.hok f _ hf
    exact q.2.1
  have he1 : Env0 P w K mg base A outer s (upd H f (.lst xs)) :=
    ⟨he.frames, he.mod, fun b o e => ⟨(he.bs b o e).1, by rw [upd_ne (nf b (he.bs b o e).2)]; exact (he.bs b o e).2⟩, he.bsz, he.funs, fun b hb => by rw [upd_ne (nf b (he.frf b hb))]; exact he.frf b hb, ok1, he.bare⟩
  refine codeAny_mono (F.run A outer s _ args us vs _ E hr he1 hb hv (k xs g)) fun r s' hq => ?_
  cases r with
  | error e => exact hq.elim
  | ok fl =>
    cases fl with
    | ret u =>
      obtain ⟨v, H', os, bare, un, hok, rv, ⟨ys, g', e'⟩, q'⟩ := hq
      refine ⟨v, upd H' f (HidO G2 f), os, bare, ?_, hid_close hok e' g', rv, q'⟩
      have u1 : Un (frs outer) [] H (upd H f (.lst xs)) s.heap s.heap := Un.write mu (Or.inl rfl) (fun _ _ _ q => q) hof
      have hof' : ∃ o, s'.heap.get? f = some o := by
        have q : ObjOk P w H' s'.heap f (.lst ys) := hok f _ e'
        obtain ⟨_, its, n, r, e⟩ := q
        exact ⟨_, e⟩
      have u2 : Un (frs outer) [] H' (upd H' f (HidO G2 f)) s'.heap s'.heap := Un.write (by rw [e']; trivial) (Or.inl rfl) (fun _ _ _ q => q) hof'
      exact (u1.trans un).trans u2
    | next => exact hq.elim
    | brk => exact hq.elim
    | cont => exact hq.elim
/-- a def that makes such a list -/
theorem hid_made {k : Nat} {fa : Addr} {fd : FuncData} {ps : List Str} {sp sp' : Sp} (F : FnOk P w K mg base CX0 k fa fd ps sp)
    (hs : ∀ vs H Q E, sp' vs H Q E → sp vs H (fun v H' => ∃ (f : Addr) (G : List V → Prop) (ys : List V), G ys ∧ H' f = some (.lst ys) ∧ Q v (upd H' f (HidO G f))) E) : FnOk P w K mg base CX0 k fa fd ps sp' := by
  refine ⟨fun vs H Q E q => F.len _ _ _ _ (hs vs H Q E q), fun A outer s H args us vs Q E hr he hb hv q => ?_⟩
  refine codeAny_mono (F.run A outer s _ args us vs _ E hr he hb hv (hs vs H Q E q)) fun r s' hq => ?_
  cases r with
  | error e => exact hq.elim
  | ok fl =>
    cases fl with
    | ret u =>
      obtain ⟨v, H', os, bare, un, hok, rv, f, G, ys, g, e', q'⟩ := hq
      have there : ∃ o, s'.heap.get? f = some o := by
        have q : ObjOk P w H' s'.heap f (.lst ys) := hok f _ e'
        obtain ⟨_, its, n, r, e⟩ := q
        exact ⟨_, e⟩
      exact ⟨v, upd H' f (HidO G f), os, bare, un.trans (Un.write (by rw [e']; trivial) (Or.inl rfl) (fun _ _ _ q => q) there), hid_close hok e' g, rv, q'⟩
    | next => exact hq.elim
    | brk => exact hq.elim
    | cont => exact hq.elim
end
/-! ### a flask of draws: two lists -/
/-- numbers from 0 on -/
def Nats (vs : List V) : Prop := ∃ ns : List Int, vs = ns.map V.int ∧ ∀ n ∈ ns, 0 ≤ n
/-- what is not hidden stays -/
def vis : HO → Bool
  | .ext _ => false
  | _ => true
def SmV (H H' : Hp) : Prop := ∀ a o, vis o = true → H a = some o → H' a = some o
theorem SmV.refl (H : Hp) : SmV H H := fun _ _ _ e => e
theorem SmV.trans {H1 H2 H3 : Hp} (a : SmV H1 H2) (b : SmV H2 H3) : SmV H1 H3 := fun p o v e => b p o v (a p o v e)
theorem SmV.lst {H H' : Hp} (s : SmV H H') {a : Addr} {xs : List V} (e : H a = some (.lst xs)) : H' a = some (.lst xs) := s a _ rfl e
theorem SmV.tup {H H' : Hp} (s : SmV H H') {a : Addr} {xs : List V} (e : H a = some (.tup xs)) : H' a = some (.tup xs) := s a _ rfl e
theorem SmV.sqL {K : PySem.W.Frag} {H H' : Hp} (s : SmV H H') {a : Addr} {xs : List V} (h : SqL K H a xs) : SqL K H' a xs := by
  rcases h with (h | ⟨o, h⟩) | h
  · exact .inl (.inl (s a _ rfl h))
  · exact .inl (.inr ⟨o, s a _ rfl h⟩)
  · exact .inr h
theorem SmV.sqT {K : PySem.W.Frag} {H H' : Hp} (s : SmV H H') {a : Addr} {xs : List V} (h : SqT K H a xs) : SqT K H' a xs := by
  rcases h with (h | ⟨o, h⟩) | h
  · exact .inl (.inl (s a _ rfl h))
  · exact .inl (.inr ⟨o, s a _ rfl h⟩)
  · exact .inr h
mutual
theorem dp_smv {K : PySem.W.Frag} {H H' : Hp} (s : SmV H H') : ∀ (d : PyData) (v : V), Dp K H v d → Dp K H' v d
  | .none, _, h => by cases h; exact .non
  | .bool c, _, h => by cases h; exact .bl c
  | .int i, _, h => by cases h; exact .int i
  | .str x, _, h => by cases h; exact .str x
  | .list ds, _, h => by
    cases h with
    | lst a b => exact .lst (s.sqL a) (dp_smvAll s ds _ b)
  | .dict _, _, h => by cases h
  | .tuple ds, _, h => by
    cases h with
    | tup a b => exact .tup (s.sqT a) (dp_smvAll s ds _ b)
theorem dp_smvAll {K : PySem.W.Frag} {H H' : Hp} (s : SmV H H') : ∀ (ds : List PyData) (vs : List V), DpAll K H vs ds → DpAll K H' vs ds
  | [], _, h => by cases h; exact .nil
  | d :: ds, _, h => by
    cases h with
    | cons a c => exact .cons (dp_smv s d _ a) (dp_smvAll s ds _ c)
end
abbrev flC : Int := 170141183460469231731687303715884105727
def FlaskG (q : Addr) (c : Nat) (vs : List V) : Prop := ∃ b n : Int, vs = [.ref q, .int b, .int n] ∧ 0 ≤ b ∧ b < flC ∧ 0 ≤ n ∧ n ≤ (c : Int)
/-- f is a flask that was asked at most c times -/
def Flask (c : Nat) (H : Hp) (f : Addr) : Prop := ∃ q, q ≠ f ∧ H f = some (HidO (FlaskG q c) f) ∧ H q = some (HidO Nats q)
theorem Flask.same {c : Nat} {H H' : Hp} {f : Addr} (h : Flask c H f) (s : Same H H') : Flask c H' f := by
  obtain ⟨q, n, h1, h2⟩ := h
  exact ⟨q, n, s _ _ h1, s _ _ h2⟩
/-- a flask with two open lists -/
def spDrip0 : Sp := fun vs H Q _ => ∃ (f q : Addr) (b n m : Int) (ns : List Int), vs = [.ref f, .int m] ∧ q ≠ f ∧ H f = some (.lst [.ref q, .int b, .int n]) ∧ H q = some (.lst (ns.map V.int)) ∧ (∀ n ∈ ns, 0 ≤ n) ∧
  0 ≤ b ∧ b < flC ∧ 0 ≤ n ∧ n ≤ 1000000 ∧ 0 < m ∧ m.natAbs < 2 ^ 1000 ∧
  ∀ (r b' n' : Int) (ns' : List Int) (H' : Hp), 0 ≤ r → r < m → 0 ≤ b' → b' < flC → 0 ≤ n' → n' ≤ n + 1 → (∀ n ∈ ns', 0 ≤ n) → (∀ a o, a ≠ f → a ≠ q → H a = some o → H' a = some o) → H' q = some (.lst (ns'.map V.int)) → H' f = some (.lst [.ref q, .int b', .int n']) → Q (.int r) H'
def spDrip : Sp := fun vs H Q _ => ∃ (f : Addr) (c : Nat) (m : Int), vs = [.ref f, .int m] ∧ Flask c H f ∧ c ≤ 1000000 ∧ 0 < m ∧ m.natAbs < 2 ^ 1000 ∧ ∀ (r : Int) (H' : Hp), 0 ≤ r → r < m → SmV H H' → Flask (c + 1) H' f → Q (.int r) H'
def spDrip1 : Sp := fun vs H Q _ => ∃ (f q : Addr) (b n m : Int), vs = [.ref f, .int m] ∧ q ≠ f ∧ H f = some (.lst [.ref q, .int b, .int n]) ∧ H q = some (HidO Nats q) ∧
  0 ≤ b ∧ b < flC ∧ 0 ≤ n ∧ n ≤ 1000000 ∧ 0 < m ∧ m.natAbs < 2 ^ 1000 ∧
  ∀ (r b' n' : Int) (H' : Hp), 0 ≤ r → r < m → 0 ≤ b' → b' < flC → 0 ≤ n' → n' ≤ n + 1 → (∀ a o, a ≠ f → H a = some o → H' a = some o) → H' f = some (.lst [.ref q, .int b', .int n']) → Q (.int r) H'
section
variable {P : Program} {w : World} {K : PySem.W.Frag} {mg : Str → Option Value} {base : Heap}
end
end Gx

/-! A comprehension whose turns make new lists (as HL) -/
namespace Gx
open PySem L2 SX TL
section
variable {J : It} {n : Nat} {g : TG} {te : TE} {vs : List Nat} {σ : L2.St} {H1 : Hp} {Q : VK}
/-- .. over a range -/
theorem lc_chgR {lo : Int} (hn : n ≤ 100000) (A : Addr → Nat → List V → Hp → Prop) (A0 : ∀ D, H1 D = none → A D 0 [] (upd H1 D (.lst [])))
    (look : ∀ D i acc H, A D i acc H → H D = some (.lst acc) ∧ acc.length = i)
    (turn : ∀ D i acc H (Nx : V → Hp → Prop), i < n → A D i acc H → (∀ y H4, H4 D = some (.lst acc) → A D (i + 1) (acc ++ [y]) (upd H4 D (.lst (acc ++ [y]))) → Nx y H4) → g (.int (lo + (i : Int))) (wipe σ vs) H fun σ2 H2 => wipe σ2 vs = wipe σ vs ∧ te σ2 H2 Nx)
    (done : ∀ D acc H, H1 D = none → A D n acc H → Q (.ref D) H) : LC g tYes te vs (Itr lo n) σ H1 Q := by
  intro D hD
  refine ⟨fun i m H => m = n - i ∧ i ≤ n ∧ ∃ acc, A D i acc H, ⟨n, rfl, Nat.zero_le _, [], A0 D hD⟩, ?_⟩
  rintro i m H ⟨rfl, hi, acc, a⟩
  obtain ⟨e, hl⟩ := look D i acc H a
  rcases Nat.lt_or_ge i n with lt | ge
  · right
    refine ⟨lt, fun H' => i + 1 ≤ n ∧ ∃ acc, A D (i + 1) acc H', fun H' ⟨l1, q⟩ => ⟨n - (i + 1), by omega, rfl, l1, q⟩, fun x H' y => ?_⟩
    obtain ⟨rfl, rfl⟩ := y
    have tt := turn D i acc H' (fun y H4 => ∃ acc', H4 D = some (.lst acc') ∧ acc'.length < sizeLine ∧ (i + 1 ≤ n ∧ ∃ acc, A D (i + 1) acc (upd H4 D (.lst (acc' ++ [y]))))) lt a fun y H4 e4 a4 => ⟨acc, e4, big_lt (by omega), lt, _, a4⟩
    exact tt
  · left
    have e0 : i = n := Nat.le_antisymm hi ge
    subst e0
    exact ⟨Nat.le_refl _, done D acc H hD a⟩
end
end Gx

/-! set(xs), xs a list: what is true of the set behind each item, by any word J -/
namespace Gx
open PySem L2 PySem.Spec PyProof.Rows
section
variable {P : Program} {w : World} {A : Around} {E : Value → Shared → Prop} {s : Shared}
/-- one add: from J i to J (i + 1), only the set and the tokens change -/
def Adds (P : Program) (w : World) (S : Addr) (h0 : Heap) (J : Nat → Heap → Prop) (i : Nat) (v : Value) : Prop :=
  ∀ (B : Around) (F : Value → Shared → Prop) (s : Shared) (Q : Bool → Shared → Prop), B.units < cLine → J i s.heap → (∀ b o, h0.get? b = some o → s.heap.get? b = some o) →
    (∀ r h' tk, Heap.SameBut S s.heap h' → J (i + 1) h' → s.toks ≤ tk → Q r { s with heap := h', toks := tk }) → wpAny (model P w) B (setAdd S v) Q F s
/-- what J leans on: the set's object and what stood before -/
def Leans (S : Addr) (h0 : Heap) (J : Nat → Heap → Prop) : Prop :=
  ∀ i h h', J i h → (∀ o, h.get? S = some o → h'.get? S = some o) → (∀ b o, h0.get? b = some o → h'.get? b = some o) → J i h'
theorem set_turns {I : Addr} {fp wr : List Addr} {G : Array GenState → Array GenState → Prop} {n : Nat} {Pv : Nat → Value → Prop} {St : Nat → Shared → Prop} {R : Result → Shared → Prop}
    (W : WalksS P w A.in1 I fp wr G n Pv St) {S : Addr} (apart : S ∉ fp) {h0 : Heap} (S0 : h0.get? S = none) (w0 : ∀ b ∈ wr, h0.get? b = none) (hu : A.in1.units < cLine)
    {J : Nat → Heap → Prop} (lean : Leans S h0 J) (adds : ∀ i v, i < n → Pv i v → Adds P w S h0 J i v) :
    ∀ (k i : Nat) (s : Shared), n - i = k → i ≤ n → St i s → (∀ b o, h0.get? b = some o → s.heap.get? b = some o) → J i s.heap →
      (∀ s', Moved (S :: wr) G s s' → J n s'.heap → (∀ b o, h0.get? b = some o → s'.heap.get? b = some o) → R (.ok (.ret .none)) s') →
      codeAny (model P w) A (.builtin "set.update.loop" ⟨[.ref S, .ref I], []⟩) R s := by
  have nwr : S ∉ wr := fun h => apart (W.sub _ h)
  have more : ∀ b ∈ wr, b ∈ S :: wr := fun b hb => List.mem_cons_of_mem _ hb
  have stays : ∀ {s s' : Shared}, Moved wr G s s' → (∀ b o, h0.get? b = some o → s.heap.get? b = some o) → ∀ b o, h0.get? b = some o → s'.heap.get? b = some o := fun mv st b o e =>
    mv.heap b o (fun hb => by rw [w0 b hb] at e; cases e) (st b o e)
  intro k
  induction k with
  | zero =>
    intro i s hk hi st old ji fin
    obtain rfl : i = n := by omega
    refine codeAny_builtin F.entry_set_update_loop ?_
    rw [Around.under_plainId F.plain_set_update_loop _]
    refine wpAny_bind (W.done s _ _ st fun s' mv => ?_)
    exact wpAny_pure (fin s' (mv.mono more) (lean i _ _ ji (fun o e => mv.heap S o nwr e) (stays mv old)) (stays mv old))
  | succ k ih =>
    intro i s hk hi st old ji fin
    have lt : i < n := by omega
    refine codeAny_builtin F.entry_set_update_loop ?_
    rw [Around.under_plainId F.plain_set_update_loop _]
    refine wpAny_bind (W.item i s _ _ lt st fun v s' pv st' mv => ?_)
    have old' := stays mv old
    refine wpAny_bind (wpAny_holding (adds i v lt pv A.in1 _ s' _ hu (lean i _ _ ji (fun o e => mv.heap S o nwr e) old') old' fun r h' tk sb ji' le => ?_))
    have old2 : ∀ b o, h0.get? b = some o → h'.get? b = some o := fun b o e => (sb.2 b (fun z => by rw [z, S0] at e; cases e)).trans (old' b o e)
    refine wpAny_pure ⟨plainId_quiet F.plain_set_update_loop _, ih (i + 1) _ (by omega) lt (W.frame _ s' _ _ st' le fun b hb o e => (sb.2 b (fun z => apart (by rw [← z]; exact hb))).trans e) old2 ji' fun s2 mv2 jn old3 => ?_⟩
    exact fin s2 (Moved.trans W.gtrans ((mv.mono more).then_heap le fun b o hb e => (sb.2 b (fun z => hb (by rw [z]; exact List.mem_cons_self))).trans e) mv2) jn old3
set_option maxHeartbeats 4000000 in
theorem set_of_list {l : Addr} {items : Array Value} {Q : Value → Shared → Prop} (J : Nat → Heap → Prop) (calm : A.handled = none) (hl : s.heap.IsList l items) (hu : A.units + 8 < cLine)
    (lean : Leans s.heap.objs.size s.heap J) (adds : ∀ (i : Nat) v, items[i]? = some v → Adds P w s.heap.objs.size s.heap J i v)
    (start : ∀ h', h'.get? s.heap.objs.size = some { cls := .type "set", dict := none, data := .set #[] 0 (.fresh 0 0 (!w.params.followText "set-order")) } → (∀ b o, s.heap.get? b = some o → h'.get? b = some o) → J 0 h')
    (fin : ∀ h' tk, J items.size h' → (∀ b o, s.heap.get? b = some o → h'.get? b = some o) → Q (.ref s.heap.objs.size) { s with heap := h', toks := tk }) :
    wpAny (model P w) A (call (.type "set") [.ref l]) Q E s := by
  obtain ⟨c, tl, inMro⟩ := F.called_set.mro
  have isMade := F.called_set.made
  have isSub := F.called_set.sub
  refine wpAny_call (codeAny_of_tree ?_)
  show wpAny _ _ (callAny (.type "set") _) _ _ _
  refine wpAny_pure ⟨Code.quiet_builtin _ (by decide +kernel), codeAny_builtin F.entry_type_call ?_⟩
  rw [Around.under_plain (weight_type_call_type "set" [.ref l] []) rfl]
  have noType := F.called_set.notType
  have canMake := F.called_set.canCreate
  have checked := F.typeCall_set_1 (.ref l)
  repeat (any_goals (first | assumption | wp_step))
  generalize ef : (Obj.mk (.type "set") none (.set #[] 0 (.fresh 0 0 (!w.params.followText "set-order"))) #[]) = fresh
  refine codeAny_mono (code_set_led1 (.ref l) (E := E) (Q₁ := fun v s1 => v = .ref s.heap.objs.size ∧ s1 = { s with heap := s.heap.push fresh }) (by subst ef; exact ⟨rfl, rfl⟩)) fun r s1 got => ?_
  cases r with
  | error e => exact got
  | ok fl =>
    cases fl with
    | ret v =>
      obtain ⟨rfl, rfl⟩ := got
      have at_S : (s.heap.push fresh).get? s.heap.objs.size = some fresh := by subst ef; exact Heap.get?_push_size _ rfl
      have isSet : Shared.TypeIs { s with heap := s.heap.push fresh } (.ref s.heap.objs.size) "set" := ⟨_, at_S, by subst ef; rfl⟩
      have look := F.called_set.init.lookup
      have bound := F.called_set.init.bind (.ref s.heap.objs.size)
      repeat (any_goals (first | assumption | wp_step))
      refine codeAny_mono (codeAny_call_builtin (R := wants (fun r s2 => r = .none ∧ ∃ h' tk, s2 = { s with heap := h', toks := tk } ∧ J items.size h' ∧ (∀ b o, s.heap.get? b = some o → h'.get? b = some o)) E)
        F.called_set.init.plain F.entry_set_init (check_set_init_1 isSet ?_)) fun r2 s2 got2 => ?_
      · subst ef
        obtain ⟨ol, hol, hcl, nl, hdl⟩ := hl
        obtain ⟨ocls, odict, odata, oslots⟩ := ol
        simp only at hcl hdl
        subst hcl; subst hdl
        have there : (s.heap.push ⟨.type "set", none, .set #[] 0 (.fresh 0 0 (!w.params.followText "set-order")), #[]⟩).get? l = some { cls := .type "list", dict := odict, data := .seq items nl, slots := oslots } := Heap.get?_push_of_some _ hol
        have s1 := F.sub_list_set
        have s2 := F.sub_list_frozenset
        have ne : (Value.type "list" == Value.type "dict") = false := by decide
        have isL : (s.heap.push ⟨.type "set", none, .set #[] 0 (.fresh 0 0 (!w.params.followText "set-order")), #[]⟩).IsList l items := ⟨_, there, rfl, nl, rfl⟩
        unfold Builtin.«set.__init__» noKeywords Builtin.Frozenset.updateFrom
        generalize ePI : pyIter = PI
        wp_walk
        subst ePI
        refine wpAny_pyIter_list isL ?_
        refine wpAny_bind ?_
        refine wpAny_runValue ?_
        have calm3 : A.in1.in1.in1.handled = none := by simp [calm]
        have sz : (s.heap.push ⟨.type "set", none, .set #[] 0 (.fresh 0 0 (!w.params.followText "set-order")), #[]⟩).objs.size = s.heap.objs.size + 1 := Heap.size_push ..
        have lS := Heap.lt_size hol
        have nl1 : l ≠ (s.heap.push ⟨.type "set", none, .set #[] 0 (.fresh 0 0 (!w.params.followText "set-order")), #[]⟩).objs.size := by rw [sz]; exact Nat.ne_of_lt (Nat.lt_succ_of_lt lS)
        have free : ∀ b, s.heap.objs.size ≤ b → s.heap.get? b = none := fun b hb => by
          cases q : s.heap.get? b with
          | none => rfl
          | some o => exact absurd (Nat.lt_of_lt_of_le (Heap.lt_size q) hb) (Nat.lt_irrefl _)
        have apart : s.heap.objs.size ∉ [(s.heap.push ⟨.type "set", none, .set #[] 0 (.fresh 0 0 (!w.params.followText "set-order")), #[]⟩).objs.size, l] := by
          rw [sz]
          simp only [List.mem_cons, List.not_mem_nil, or_false, not_or]
          exact ⟨Nat.ne_of_lt (Nat.lt_succ_self _), Nat.ne_of_gt lS⟩
        have old1 : ∀ b o, s.heap.get? b = some o → ((s.heap.push ⟨.type "set", none, .set #[] 0 (.fresh 0 0 (!w.params.followText "set-order")), #[]⟩).push { cls := .type "list_iterator", data := .fields #[.ref l, .int 0 0] }).get? b = some o := fun b o e => Heap.get?_push_of_some _ (Heap.get?_push_of_some _ e)
        refine set_turns ((Walks.list calm3 _ l nl1 items).toS) apart (h0 := s.heap) (free _ (Nat.le_refl _)) (fun b hb => free b (by rw [List.mem_singleton.mp hb, sz]; exact Nat.le_succ _)) (by show A.units + 1 + 1 + 1 < cLine; omega) lean
          (fun i v _ pv => adds i v pv) (items.size - 0) 0 _ (by omega) (Nat.zero_le _) ⟨⟨_, Heap.get?_push_size _ rfl, rfl, rfl⟩, (isL.push _)⟩ old1 (start _ (Heap.get?_push_of_some _ at_S) old1) fun s3 mv jn old => ?_
        obtain ⟨h', g2, d', tk', os'⟩ := s3
        obtain rfl : g2 = s.gens := mv.gens
        obtain rfl : d' = s.drawn := mv.drawn
        obtain rfl : os' = s.os := mv.os
        show wpAny _ _ _ _ _ _
        refine wpAny_pure ?_
        show wpAny _ _ (ret Value.none) _ _ _
        exact wpAny_pure ⟨rfl, h', tk', rfl, jn, old⟩
      · cases r2 with
        | error e => exact got2
        | ok fl2 =>
          cases fl2 with
          | ret r =>
            obtain ⟨rfl, h', tk, rfl, jn, old⟩ := got2
            repeat (any_goals (first | assumption | wp_step))
            exact fin h' tk jn old
          | _ => exact got2.elim
    | _ => exact got.elim
end
end Gx

/-! set(xs), xs a list of ints -/
namespace Gx
open PySem L2 PySem.Spec PyProof.Rows
section
variable {P : Program} {w : World}
def JI (w : World) (S : Addr) (ns : List Int) (i : Nat) (h : Heap) : Prop := ∃ M n, SetR w h S M n ∧ (∀ k, M k = true ↔ k ∈ ns.take i) ∧ n ≤ i
theorem ji_lean {S : Addr} {h0 : Heap} {ns : List Int} : Leans S h0 (JI w S ns) := fun i h h' ⟨M, n, R, m, l⟩ k _ => ⟨M, n, R.at k, m, l⟩
theorem ji_adds {S : Addr} {h0 : Heap} {ns : List Int} {i : Nat} {k : Int} {t : Tok} (hk : ns[i]? = some k) (few : ns.length + 1 < scanBound) : Adds P w S h0 (JI w S ns) i (.int k t) := by
  intro B F s Q hu ji old fin
  obtain ⟨M, n, R, m, l⟩ := ji
  have hi := (List.getElem?_eq_some_iff.mp hk).1
  unfold setAdd
  refine wpAny_holding ?_
  refine wpAny_bind ((intKind P w).pyHash (k := k) (intKind_is _ _ _ _) ?_)
  have R1 : SetR w ({ s with toks := s.toks + 1 } : Shared).heap S M n := R
  refine setR_add_hashed (P := P) R1 (by omega) fun h' sb R2 => ?_
  refine fin _ h' (s.toks + 1) sb ⟨_, _, R2, fun j => ?_, ?_⟩ (Nat.le_succ _)
  · rw [List.take_succ, hk, Bool.or_eq_true, decide_eq_true_eq, List.mem_append, m j]
    simp
  · split <;> omega
theorem ji_start {S : Addr} {ns : List Int} {h : Heap} (e : h.get? S = some { cls := .type "set", dict := none, data := .set #[] 0 (.fresh 0 0 (!w.params.followText "set-order")) }) : JI w S ns 0 h := by
  refine ⟨fun _ => false, 0, ⟨_, #[], 0, _, e, ⟨rfl, rfl, rfl⟩, rfl, fun e h => (by cases h), List.nodup_nil, fun k => by simp, by decide, by rfl, rfl, by simp [SetTable.fresh, Ris], ?_⟩, fun k => by simp, Nat.le_refl 0⟩
  cases w.params.followText "set-order" with
  | true => exact .inl rfl
  | false => exact .inr rfl
end
section
variable {X : Cx}
def rSetOfI (K : PySem.W.Frag) (w : World) : List V → Hp → VK → Prop := fun xs H Q => ∃ (l : Addr) (ns : List Int), xs = [V.ref l] ∧ SqL K H l (ns.map V.int) ∧ ns.length < 4000 ∧
  ∀ (a : Addr) (M : Int → Bool) (n : Nat), H a = none → (∀ k, M k = true ↔ k ∈ ns) → n ≤ ns.length → Q (.ref a) (upd H a (SetO w a M n))
theorem cr_setOfI {j : Nat} (hc : X.calm = true) (hr : Room j X.A) : CallR X (.type "set") (rSetOfI X.K X.w) := by
  intro pins s σ H xs us Q I rel h
  obtain ⟨l, ns, rfl, sq, few, k⟩ := h
  rw [Vals.ref1 rel]
  obtain ⟨its, rv, pl, sz⟩ := I.list sq
  have len : its.toArray.size = ns.length := by rw [List.size_toArray, ← rv.length, List.length_map]
  have few' : ns.length + 1 < scanBound := by have : scanBound = 4096 := rfl; omega
  refine set_of_list (JI X.w s.heap.objs.size ns) (I.ok.hd hc) pl.isList (by have := hr.units; omega) ji_lean (fun i v hv => ?_) (fun h' e _ => ji_start e) fun h' tk jn old => ?_
  · rw [List.getElem?_toArray] at hv
    have hlt : i < ns.length := by
      have := (List.getElem?_eq_some_iff.mp hv).1
      rw [← rv.length, List.length_map] at this
      exact this
    obtain ⟨u, e1, r1⟩ := rv.get (i := i) (x := V.int ns[i]) (by rw [List.getElem?_map, List.getElem?_eq_getElem hlt] <;> rfl)
    rw [hv] at e1
    obtain rfl := Option.some.inj e1
    obtain ⟨t, rfl⟩ := r1
    exact ji_adds (List.getElem?_eq_getElem hlt) few'
  · obtain ⟨M, n, R, m, ln⟩ := jn
    rw [len, List.take_length] at m
    rw [len] at ln
    have new : H s.heap.objs.size = none := I.hok.fresh (Nat.le_refl _)
    exact ⟨.ref s.heap.objs.size, upd H s.heap.objs.size (SetO X.w s.heap.objs.size M n), I.laid (t' := tk) old (Nat.le_refl _) (setO_new R), rfl, k _ M n new m ln⟩
theorem g_setI {K : PySem.W.Frag} {w : World} {l : Addr} {ns : List Int} {H : Hp} {Q : VK} (h : SqL K H l (ns.map V.int)) (few : ns.length < 4000)
    (k : ∀ (a : Addr) (M : Int → Bool) (n : Nat) (H' : Hp), H a = none → Same H H' → H' a = some (SetO w a M n) → (∀ k, M k = true ↔ k ∈ ns) → n ≤ ns.length → Q (.ref a) H') : rSetOfI K w [V.ref l] H Q :=
  ⟨l, ns, rfl, h, few, fun a M n ha m ln => k a M n _ ha (same_new ha) upd_same m ln⟩
end
end Gx

/-! The slots of a set's table of any size: all of them are met; putting in, laying anew -/
namespace Gx
open PySem L2 PySem.Spec PyProof.Rows
/-! ### the sums 1 + 5 + 25 + .. meet every remainder by a power of two -/
def geo : Nat → Nat
  | 0 => 0
  | n + 1 => geo n * 5 + 1
theorem geo_add (a : Nat) : ∀ b, geo (a + b) = geo a * 5 ^ b + geo b
  | 0 => by simp [geo]
  | b + 1 => by
    show geo (a + b) * 5 + 1 = geo a * 5 ^ (b + 1) + (geo b * 5 + 1)
    rw [geo_add a b, Nat.pow_succ, ← Nat.mul_assoc]
    omega
theorem lcg_geo (m : Nat) : ∀ b, lcgN m b = geo b % (m + 1)
  | 0 => (Nat.zero_mod _).symm
  | b + 1 => by
    show (lcgN m b * 5 + 1) % (m + 1) = (geo b * 5 + 1) % (m + 1)
    rw [lcg_geo m b]
    simp [Nat.add_mod, Nat.mul_mod]
theorem five_odd : ∀ n, ∃ r, 5 ^ n = 2 * (2 * r) + 1
  | 0 => ⟨0, rfl⟩
  | n + 1 => by
    obtain ⟨r, e⟩ := five_odd n
    exact ⟨5 * r + 1, by rw [Nat.pow_succ, e]; omega⟩
theorem geo_pow : ∀ k, ∃ q, geo (2 ^ k) = 2 ^ k * (2 * q + 1)
  | 0 => ⟨0, rfl⟩
  | k + 1 => by
    obtain ⟨q, e⟩ := geo_pow k
    obtain ⟨r, f⟩ := five_odd (2 ^ k)
    refine ⟨q * (2 * r + 1) + r, ?_⟩
    have e2 : 2 ^ (k + 1) = 2 ^ k + 2 ^ k := by rw [Nat.pow_succ]; omega
    have e3 : geo (2 ^ (k + 1)) = geo (2 ^ k) * (2 * (2 * r + 1)) := by
      rw [e2, geo_add, f]
      have : geo (2 ^ k) * (2 * (2 * r + 1)) = geo (2 ^ k) * (2 * (2 * r) + 1) + geo (2 ^ k) := by
        rw [← Nat.mul_succ]
        congr 1
      exact this.symm
    rw [e3, e, Nat.pow_succ]
    have e4 : 2 * (q * (2 * r + 1) + r) + 1 = (2 * q + 1) * (2 * r + 1) := by
      rw [Nat.add_mul (2 * q), Nat.mul_add 2, Nat.mul_assoc 2 q]
      omega
    rw [e4]
    simp only [Nat.mul_assoc, Nat.mul_left_comm]
theorem geo_step (k b : Nat) : ∃ v, geo (2 ^ k + b) = 2 ^ k * (2 * v + 1) + geo b := by
  obtain ⟨q, e⟩ := geo_pow k
  obtain ⟨r, f⟩ := five_odd b
  refine ⟨q * (2 * (2 * r) + 1) + 2 * r, ?_⟩
  rw [geo_add, e, f, Nat.mul_assoc]
  congr 1
  congr 1
  rw [Nat.add_mul (2 * q), Nat.mul_add 2, Nat.mul_assoc 2 q]
  omega
theorem geo_meets : ∀ k j : Nat, j < 2 ^ k → ∃ b, b < 2 ^ k ∧ geo b % 2 ^ k = j
  | 0, j, h => ⟨0, by decide, by
    have : j = 0 := by simpa using h
    rw [this]
    rfl⟩
  | k + 1, j, h => by
    have pos : 0 < 2 ^ k := Nat.pow_pos (by decide)
    obtain ⟨b, hb, e⟩ := geo_meets k (j % 2 ^ k) (Nat.mod_lt _ pos)
    have two : 2 ^ (k + 1) = 2 ^ k * 2 := Nat.pow_succ ..
    have ej : j = j % 2 ^ k + 2 ^ k * (j / 2 ^ k % 2) := by
      have q := Nat.mod_mul (x := j) (a := 2 ^ k) (b := 2)
      rw [← two, Nat.mod_eq_of_lt h] at q
      exact q
    by_cases c : geo b / 2 ^ k % 2 = j / 2 ^ k % 2
    · refine ⟨b, by omega, ?_⟩
      rw [two, Nat.mod_mul, e, c]
      exact ej.symm
    · obtain ⟨v, ev⟩ := geo_step k b
      refine ⟨2 ^ k + b, by omega, ?_⟩
      rw [two, Nat.mod_mul, ev, Nat.mul_add_mod, e, Nat.mul_add_div pos]
      have e5 : (2 * v + 1 + geo b / 2 ^ k) % 2 = j / 2 ^ k % 2 := by omega
      rw [e5]
      exact ej.symm
theorem geo_round (k b : Nat) : geo (2 ^ k + b) % 2 ^ k = geo b % 2 ^ k := by
  obtain ⟨v, e⟩ := geo_step k b
  rw [e, Nat.mul_add_mod]
/-- from any slot on each slot is come to within one round -/
theorem round_all {m k : Nat} (hm : m + 1 = 2 ^ k) {i j : Nat} (hi : i ≤ m) (hj : j ≤ m) : ∃ c, c ≤ m ∧ lcgI m i c = j := by
  obtain ⟨a, ha, ea⟩ := geo_meets k i (by omega)
  obtain ⟨b, hb, eb⟩ := geo_meets k j (by omega)
  have ia : i = lcgN m a := by rw [lcg_geo, hm, ea]
  by_cases c : a ≤ b
  · refine ⟨b - a, by omega, ?_⟩
    rw [ia, lcgN_add, lcg_geo, hm, show a + (b - a) = b by omega]
    exact eb
  · refine ⟨2 ^ k + b - a, by omega, ?_⟩
    rw [ia, lcgN_add, lcg_geo, hm, show a + (2 ^ k + b - a) = 2 ^ k + b by omega, geo_round]
    exact eb
theorem run_all {m k : Nat} (hm : m + 1 = 2 ^ k) (h : Int) {j : Nat} (hj : j ≤ m) : ∃ n, n ≤ m + 12 ∧ runI m (SetTable.bits h) n = j := by
  obtain ⟨c, hc, e⟩ := round_all hm (runI_le m (SetTable.bits h) 12) hj
  refine ⟨12 + c, by omega, ?_⟩
  rw [runI_tail (bits_lt h), e]
theorem way_bd {m : Nat} {h : Int} {c : Nat} : way m h c ≤ m := by
  have b0 : SetTable.bits h % (m + 1) ≤ m := Nat.le_of_lt_succ (Nat.mod_lt _ (Nat.succ_pos _))
  have b1 := runEnd_bd b0
  have z := nth_in (m := m) c (runAt m (SetTable.bits h % (m + 1)) (SetTable.bits h)) (by
    show SetTable.bits h % (m + 1) + (SetTable.runEnd m (SetTable.bits h % (m + 1)) - SetTable.bits h % (m + 1)) ≤ m
    omega)
  exact Nat.le_trans (Nat.le_add_right _ _) z
theorem way_all {m k : Nat} (hm : m + 1 = 2 ^ k) (h : Int) {j : Nat} (hj : j ≤ m) : ∃ c, c < 10 * SetTable.turns m ∧ way m h c = j := by
  obtain ⟨n, hn, e⟩ := run_all hm h hj
  obtain ⟨c, hc, e2⟩ := run_nth m (SetTable.bits h) n
  refine ⟨c, by unfold SetTable.turns; omega, ?_⟩
  show (nth m _ c).j = j
  rw [e2]
  exact e
/-! ### the table -/
/-- from h the slot j is come to over taken slots alone -/
def Over (m : Nat) (pl : List Nat) (h : Int) (j : Nat) : Prop := ∃ c, way m h c = j ∧ ∀ d, d < c → way m h d ∈ pl
theorem Over.mono {m : Nat} {pl pl' : List Nat} {h : Int} {j : Nat} (o : Over m pl h j) (s : ∀ x ∈ pl, x ∈ pl') : Over m pl' h j := by
  obtain ⟨c, e, q⟩ := o
  exact ⟨c, e, fun d hd => s _ (q d hd)⟩
def MaskB (m : Nat) : Prop := ∃ k, 3 ≤ k ∧ k ≤ 13 ∧ m + 1 = 2 ^ k
theorem MaskB.bd {m : Nat} (h : MaskB m) : 7 ≤ m ∧ m ≤ 8191 ∧ m % 2 = 1 := by
  obtain ⟨k, h1, h2, e⟩ := h
  have p1 : 2 ^ 3 ≤ 2 ^ k := Nat.pow_le_pow_right (by decide) h1
  have p2 : 2 ^ k ≤ 2 ^ 13 := Nat.pow_le_pow_right (by decide) h2
  have p3 : 2 ^ k = 2 ^ (k - 1) * 2 := by rw [← Nat.pow_succ]; congr 1; omega
  have p4 : (2 : Nat) ^ 13 = 8192 := by decide
  have p5 : (2 : Nat) ^ 3 = 8 := by decide
  omega
structure Tb (t : SetTable) (hs : List Int) : Prop where
  up : Ris t.place.toList
  nod : t.dummies = #[]
  len : t.place.toList.length = hs.length
  msk : MaskB t.mask
  inn : ∀ x ∈ t.place.toList, x ≤ t.mask
  ov : ∀ q ∈ hs.zip t.place.toList, Over t.mask t.place.toList q.1 q.2
/-- the first free slot on the way -/
theorem Tb.gap {t : SetTable} {hs : List Int} (T : Tb t hs) (few : hs.length ≤ t.mask) (h : Int) : ∃ c, c < 10 * SetTable.turns t.mask ∧ way t.mask h c ∉ t.place.toList ∧ ∀ d, d < c → way t.mask h d ∈ t.place.toList := by
  obtain ⟨k, _, _, hm⟩ := T.msk
  obtain ⟨j, hj, free⟩ := st_missing t.place.toList (t.mask + 1) (by rw [T.len]; omega)
  obtain ⟨c, hc, e⟩ := way_all hm h (show j ≤ t.mask by omega)
  obtain ⟨c', l, y, n⟩ := st_least (p := fun c => way t.mask h c ∉ t.place.toList) c (by rw [e]; exact free)
  exact ⟨c', by omega, y, fun d hd => Classical.not_not.mp (n d hd)⟩
theorem Tb.here {t : SetTable} {hs : List Int} (T : Tb t hs) {h : Int} {c i : Nat} (free : way t.mask h c ∉ t.place.toList) (hi : hs[i]? = some h) : ∃ d, d < c ∧ t.place.toList[i]? = some (way t.mask h d) := by
  have li : i < t.place.toList.length := by rw [T.len]; exact (List.getElem?_eq_some_iff.mp hi).1
  have e := List.getElem?_eq_getElem li
  obtain ⟨d, e1, q⟩ := T.ov (h, t.place.toList[i]) (List.mem_of_getElem? (List.getElem?_zip_eq_some.mpr ⟨hi, e⟩))
  refine ⟨d, ?_, by rw [e]; exact congrArg some e1.symm⟩
  rcases Nat.lt_trichotomy d c with z | z | z
  · exact z
  · exfalso
    subst z
    exact free (by rw [show way t.mask h d = t.place.toList[i] from e1]; exact List.getElem_mem li)
  · exact absurd (q c z) free
theorem zip_ins {h : Int} {j : Nat} : ∀ (p : Nat) (hs : List Int) (pl : List Nat), pl.length = hs.length → ∀ q ∈ (hs.take p ++ h :: hs.drop p).zip (pl.take p ++ j :: pl.drop p), q = (h, j) ∨ q ∈ hs.zip pl
  | 0, hs, pl, _, q, m => by
    simp only [List.take_zero, List.nil_append, List.drop_zero, List.zip_cons_cons, List.mem_cons] at m
    exact m
  | p + 1, [], [], _, q, m => by simp at m; exact .inl m
  | p + 1, [], _ :: _, e, _, _ => by simp at e
  | p + 1, _ :: _, [], e, _, _ => by simp at e
  | p + 1, g :: hs, i :: pl, e, q, m => by
    simp only [List.take_succ_cons, List.drop_succ_cons, List.cons_append, List.zip_cons_cons, List.mem_cons] at m ⊢
    rcases m with m | m
    · exact .inr (.inl m)
    · rcases zip_ins p hs pl (by simpa using e) q m with z | z
      · exact .inl z
      · exact .inr (.inr z)
/-- one put in at the first free slot of its way -/
theorem Tb.put {t : SetTable} {hs : List Int} (T : Tb t hs) {h : Int} {c : Nat} (free : way t.mask h c ∉ t.place.toList) (ahead : ∀ d, d < c → way t.mask h d ∈ t.place.toList) :
    SetTable.below t.place (way t.mask h c) ≤ hs.length ∧ Tb (t.put (way t.mask h c)).1 (hs.take (SetTable.below t.place (way t.mask h c)) ++ h :: hs.drop (SetTable.below t.place (way t.mask h c))) ∧ (t.put (way t.mask h c)).1.fill = hs.length + 1 := by
  have pp := put_place t (way t.mask h c)
  have bl : SetTable.below t.place (way t.mask h c) ≤ hs.length := by
    rw [← T.len, Array.length_toList]
    exact (below_cut T.up _).1
  have more : ∀ x ∈ t.place.toList, x ∈ (t.put (way t.mask h c)).1.place.toList := fun x hx => by
    rw [pp]
    exact mem_ins.mpr (.inr hx)
  have ln : (t.put (way t.mask h c)).1.place.toList.length = hs.length + 1 := by
    rw [pp, len_ins _ (by rw [T.len]; exact bl), T.len]
  have dn := put_dm T.nod (way t.mask h c)
  refine ⟨bl, ⟨?_, dn, ?_, T.msk, fun x hx => ?_, fun q hq => ?_⟩, ?_⟩
  · exact ris_insert T.up fun e => free (List.mem_of_getElem? (i := SetTable.below t.place (way t.mask h c)) (by rw [Array.getElem?_toList]; exact e))
  · rw [ln, len_ins _ bl]
  · rw [pp] at hx
    rcases mem_ins.mp hx with z | z
    · rw [z]
      exact way_bd
    · exact T.inn x z
  · rw [pp] at hq
    rcases zip_ins _ _ _ T.len q hq with z | z
    · subst z
      exact ⟨c, rfl, fun d hd => more _ (ahead d hd)⟩
    · exact (T.ov q z).mono more
  · unfold SetTable.fill
    rw [dn, ← Array.length_toList, ln]
    rfl
/-! ### laying all anew -/
theorem free_at {m k : Nat} (hm : m + 1 = 2 ^ k) (owner : Array (Option Nat)) (h : Int) {j : Nat} (hj : j ≤ m) (hf : oAt owner j = none) :
    ∃ c, SetTable.layClean.free m owner (SetTable.turns m) (SetTable.bits h % (m + 1)) (SetTable.bits h) = some (way m h c) ∧ oAt owner (way m h c) = none ∧ ∀ d, d < c → oAt owner (way m h d) ≠ none := by
  obtain ⟨n, hn, e⟩ := run_all hm h hj
  have at_j : way m h (off m (SetTable.bits h % (m + 1)) (SetTable.bits h) n) = j := by
    show (nth m _ (off m _ _ n)).j = j
    rw [nth_off, itL_run]
    exact e
  obtain ⟨c, c1, c2, c3⟩ := st_least (p := fun c => oAt owner (way m h c) = none) _ (show oAt owner (way m h (off m (SetTable.bits h % (m + 1)) (SetTable.bits h) n)) = none by rw [at_j]; exact hf)
  refine ⟨c, free_spec m owner _ n _ _ c (by unfold SetTable.turns; omega) c1 (fun d hd => ?_) ?_, c2, c3⟩
  · rcases o : oAt owner (way m h d) with _ | _
    · exact absurd o (c3 d hd)
    · rfl
  · show (oAt owner (way m h c)).isNone = true
    rw [c2]
    rfl
theorem own_next {m k : Nat} (hm : m + 1 = 2 ^ k) {done : List Int} {owner : Array (Option Nat)} (W : Own m done owner) (few : done.length ≤ m) (h : Int) :
    ∃ j, SetTable.layClean.free m owner (SetTable.turns m) (SetTable.bits h % (m + 1)) (SetTable.bits h) = some j ∧ Own m (done ++ [h]) (owner.setIfInBounds j (some done.length)) := by
  obtain ⟨ps, len, inn⟩ := W.ps
  obtain ⟨j0, l0, n0⟩ := st_missing ps (m + 1) (by omega)
  have f0 : oAt owner j0 = none := Classical.not_not.mp fun z => n0 (inn j0 (by omega) z)
  obtain ⟨c, e1, e2, e3⟩ := free_at hm owner h (show j0 ≤ m by omega) f0
  have bd : way m h c ≤ m := way_bd
  have new : oAt (owner.setIfInBounds (way m h c) (some done.length)) (way m h c) = some done.length := oAt_set_self _ (by rw [W.sz]; omega)
  have stay : ∀ i, i ≠ way m h c → oAt (owner.setIfInBounds (way m h c) (some done.length)) i = oAt owner i := fun i hi => oAt_set_ne _ hi
  have taken : ∀ i, oAt owner i ≠ none → oAt (owner.setIfInBounds (way m h c) (some done.length)) i ≠ none := fun i hi => by
    rw [stay i fun z => hi (by rw [z]; exact e2)]
    exact hi
  refine ⟨_, e1, ⟨by rw [Array.size_setIfInBounds, W.sz], fun j i hj hi => ?_, fun i hi => ?_, way m h c :: ps, by simp [len], fun j hj hi => ?_⟩⟩
  · by_cases z : j = way m h c
    · rw [z, new] at hi
      obtain rfl := Option.some.inj hi
      exact ⟨h, c, by simp, z.symm, fun d hd => taken _ (e3 d hd)⟩
    · rw [stay j z] at hi
      obtain ⟨g, d, a1, a2, a3⟩ := W.at_ j i hj hi
      exact ⟨g, d, by rw [List.getElem?_append_left (List.getElem?_eq_some_iff.mp a1).1]; exact a1, a2, fun b hb => taken _ (a3 b hb)⟩
  · by_cases z : i = done.length
    · exact ⟨_, bd, by rw [z]; exact new⟩
    · obtain ⟨j, hj, o⟩ := W.all i (by rw [List.length_append] at hi; simp at hi; omega)
      exact ⟨j, hj, by rw [stay j fun y => by rw [y, e2] at o; cases o]; exact o⟩
  · by_cases z : j = way m h c
    · rw [z]
      exact List.mem_cons_self
    · rw [stay j z] at hi
      exact List.mem_cons_of_mem _ (inn j hj hi)
theorem own_all {m k : Nat} (hm : m + 1 = 2 ^ k) : ∀ (rest done : List Int) (owner : Array (Option Nat)), Own m done owner → done.length + rest.length ≤ m →
    ∃ o, rest.foldl (stepF m) (some (owner, done.length)) = some (o, done.length + rest.length) ∧ Own m (done ++ rest) o
  | [], done, owner, W, _ => ⟨owner, rfl, by rw [List.append_nil]; exact W⟩
  | h :: rest, done, owner, W, few => by
    rw [List.length_cons] at few
    obtain ⟨j, e, W1⟩ := own_next hm W (by omega) h
    have l1 : (done ++ [h]).length = done.length + 1 := by simp
    obtain ⟨o, f, W2⟩ := own_all hm rest (done ++ [h]) _ W1 (by rw [l1]; omega)
    rw [l1] at f
    rw [List.append_assoc] at W2
    refine ⟨o, ?_, W2⟩
    rw [List.foldl_cons, stepF_some e, f, List.length_cons]
    congr 2
    omega
theorem lay_all {m k : Nat} (hm : m + 1 = 2 ^ k) {hs : Array Int} (few : hs.size ≤ m) : ∃ o, SetTable.layClean m hs = some o ∧ Own m hs.toList o := by
  obtain ⟨o, f, W⟩ := own_all hm hs.toList [] _ (Own.init m) (by simpa using few)
  refine ⟨o, ?_, by simpa using W⟩
  rw [layClean_eq]
  have f' : hs.toList.foldl (stepF m) (some (Array.replicate (m + 1) none, 0)) = _ := f
  rw [f']
  rfl
/-- a table laid anew -/
theorem relay_all (t : SetTable) {hs : Array Int} {wanted M k : Nat} (hw : SetTable.sizeAbove wanted - 1 = M) (hm : M + 1 = 2 ^ k) (k3 : 3 ≤ k) (k13 : k ≤ 13) (few : hs.size ≤ M) :
    ∃ t' order, t.relaid hs wanted = some (t', order) ∧ order.toList.Perm (List.range hs.size) ∧ Tb t' (order.toList.map fun i => hs.getD i 0) ∧ t'.mask = M ∧ t'.led = t.led ∧ t'.plain = t.plain := by
  obtain ⟨o, e, W⟩ := lay_all hm few
  have rr : t.relaid hs wanted = some (tabOf t M o, ((liveOf M o).map (·.2)).toArray) := by
    rw [relaid_eq, hw, e]
    rfl
  have rng : Ris (List.range (M + 1)) := by
    unfold Ris
    first | exact List.pairwise_lt_range | exact List.pairwise_lt_range _
  obtain ⟨r1, r2⟩ := ris_live (fun j => o.getD j none) (List.range (M + 1)) rng
  have r1 : Ris ((liveOf M o).map (·.1)) := r1
  have r2 : ∀ x ∈ (liveOf M o).map (·.1), x < M + 1 := fun x hx => List.mem_range.mp (r2 x hx)
  have all : ∀ i, i < hs.size → i ∈ (liveOf M o).map (·.2) := fun i hi => by
    obtain ⟨j, hj, q⟩ := W.all i (by simpa using hi)
    exact List.mem_map.mpr ⟨(j, i), (mem_live W.sz).mpr ⟨hj, q⟩, rfl⟩
  have ln : (liveOf M o).length = hs.size := by
    obtain ⟨ps, p1, p2⟩ := W.ps
    have nd1 : ((liveOf M o).map (·.1)).Nodup := List.Pairwise.imp (fun h => Nat.ne_of_lt h) r1
    have le1 := nat_nodup_len _ ps nd1 fun x hx => by
      obtain ⟨⟨y, i⟩, hq, rfl⟩ := List.mem_map.mp hx
      obtain ⟨b1, b2⟩ := (mem_live W.sz).mp hq
      exact p2 y b1 (by rw [b2]; nofun)
    have le2 := nat_nodup_len (List.range hs.size) ((liveOf M o).map (·.2)) List.nodup_range fun i hi => all i (List.mem_range.mp hi)
    have h1 : (liveOf M o).length ≤ hs.size := by simpa [p1] using le1
    have h2 : hs.size ≤ (liveOf M o).length := by simpa using le2
    omega
  refine ⟨_, _, rr, perm_range _ _ (by simp [ln]) fun i hi => by simpa using all i hi, ⟨r1, rfl, ?_, ⟨k, k3, k13, hm⟩, fun x hx => Nat.le_of_lt_succ (r2 x hx), fun q hq => ?_⟩, rfl, rfl, rfl⟩
  · show ((liveOf M o).map (·.1)).length = _
    simp
  · have hq : q ∈ (((liveOf M o).map (·.2)).map fun i => hs.getD i 0).zip ((liveOf M o).map (·.1)) := hq
    obtain ⟨i, hi⟩ := List.getElem?_of_mem hq
    obtain ⟨z1, z2⟩ := List.getElem?_zip_eq_some.mp hi
    rw [List.getElem?_map, List.getElem?_map] at z1
    rw [List.getElem?_map] at z2
    rcases y : (liveOf M o)[i]? with _ | ⟨j, i'⟩
    · rw [y] at z2
      cases z2
    · rw [y] at z1 z2
      obtain ⟨q1, q2⟩ := q
      have y1 : hs.getD i' 0 = q1 := Option.some.inj z1
      have y2 : j = q2 := Option.some.inj z2
      subst y2
      obtain ⟨b1, b2⟩ := (mem_live W.sz).mp (List.mem_of_getElem? y)
      obtain ⟨g, c, a1, a2, a3⟩ := W.at_ j i' b1 b2
      have eg : g = q1 := by
        rw [← y1, Array.getD_eq_getD_getElem?, ← Array.getElem?_toList, a1]
        rfl
      subst eg
      refine ⟨c, a2, fun d hd => ?_⟩
      show way M g d ∈ (liveOf M o).map (·.1)
      rcases w : oAt o (way M g d) with _ | x
      · exact absurd w (a3 d hd)
      · exact List.mem_map.mpr ⟨(_, x), (mem_live W.sz).mpr ⟨way_bd, w⟩, rfl⟩
/-- the size chosen -/
theorem size_go (n : Nat) : ∀ (f k : Nat), n < 2 ^ (k + f) → ∃ l, k ≤ l ∧ SetTable.sizeAbove.go n f (2 ^ k) = 2 ^ l ∧ n < 2 ^ l ∧ (l = k ∨ 2 ^ l ≤ 2 * n)
  | 0, k, h => ⟨k, Nat.le_refl _, rfl, h, .inl rfl⟩
  | f + 1, k, h => by
    unfold SetTable.sizeAbove.go
    by_cases c : 2 ^ k ≤ n
    · rw [if_pos c, ← Nat.pow_succ]
      obtain ⟨l, h1, h2, h3, h4⟩ := size_go n f (k + 1) (by rw [show k + 1 + f = k + (f + 1) by omega]; exact h)
      refine ⟨l, by omega, h2, h3, .inr ?_⟩
      rcases h4 with h4 | h4
      · subst h4
        rw [Nat.pow_succ]
        omega
      · exact h4
    · rw [if_neg c]
      exact ⟨k, Nat.le_refl _, rfl, by omega, .inl rfl⟩
theorem size_of {n : Nat} (h : n < 8192) : ∃ l, 3 ≤ l ∧ l ≤ 13 ∧ SetTable.sizeAbove n = 2 ^ l ∧ n < 2 ^ l := by
  obtain ⟨l, h1, h2, h3, h4⟩ := size_go n 64 3 (Nat.lt_of_lt_of_le h (by decide))
  refine ⟨l, h1, ?_, h2, h3⟩
  rcases h4 with h4 | h4
  · omega
  · refine Nat.le_of_lt_succ ((Nat.pow_lt_pow_iff_right (a := 2) (by decide)).mp ?_)
    have : (2 : Nat) ^ (13 + 1) = 16384 := by decide
    omega
end Gx

/-! Sets of tuples of whole numbers, up to 2000 of them: adding -/
namespace Gx
open PySem L2 PySem.Spec PyProof.Rows
section
variable {P : Program} {w : World} {A : Around} {E : Value → Shared → Prop} {s : Shared}
/-- the set at a: its rows in the sequence of the slots -/
structure SetB (P : Program) (w : World) (h : Heap) (a : Addr) (L : List (Addr × List Int)) (es : Array (Int × Value)) (ep : Nat) (t : SetTable) : Prop where
  obj : ∃ o, h.get? a = some o ∧ o.ExactSet ∧ o.data = .set es ep t
  rws : es.toList = rowsOf P w L
  tab : Tb t (L.map fun p => thash P w p.2)
  uni : (L.map (·.2)).Nodup
  pla : t.plain = true
  led : w.params.followText "set-order" = true ∨ t.led = true
  rom : L.length * 5 < t.mask * 3
  few : L.length ≤ 2000
/-- .. its tuples -/
def TupsB (P : Program) (w : World) (h : Heap) (L : List (Addr × List Int)) : Prop := ∀ p ∈ L, IsT P w h p.2 p.1
variable {a : Addr} {L : List (Addr × List Int)} {es : Array (Int × Value)} {ep : Nat} {t : SetTable}
theorem SetB.num (R : SetB P w s.heap a L es ep t) : es.size = L.length := by
  rw [← Array.length_toList, R.rws]
  exact List.length_map _
theorem SetB.ent (R : SetB P w s.heap a L es ep t) {i : Nat} {p : Addr × List Int} (h : L[i]? = some p) : es[i]? = some (thash P w p.2, .ref p.1) := by
  rw [← Array.getElem?_toList, R.rws]
  show (L.map _)[i]? = _
  rw [List.getElem?_map, h]
  rfl
theorem fits_of {hs : List Int} {n : Nat} (T : Tb t hs) (e : n = hs.length) (l : n ≤ t.mask) : t.fits n = true := by
  have z := T.len
  rw [Array.length_toList] at z
  unfold SetTable.fits SetTable.fill
  rw [T.nod]
  simp only [Bool.and_eq_true, beq_iff_eq, decide_eq_true_eq]
  exact ⟨by omega, by simp; omega⟩
theorem SetB.fit (R : SetB P w s.heap a L es ep t) : t.fits es.size = true := fits_of R.tab (by rw [R.num, List.length_map]) (by have := R.rom; have := R.num; omega)
theorem not_gave (h : MaskB t.mask) : ¬ t.gaveWay = true := by
  unfold SetTable.gaveWay
  rw [h.bd.2.2]
  decide
theorem nth_dummy (m : Nat) : ∀ (n : Nat) (p : SetTable.Probe), p.dummy = none → (nth m p n).dummy = none
  | 0, _, h => h
  | n + 1, p, h => nth_dummy m n (adv m p) (by unfold adv; split <;> exact h)
abbrev first0 (m : Nat) (h : Int) : SetTable.Probe := runAt m (SetTable.bits h % (m + 1)) (SetTable.bits h)
/-- the search, from the c-th slot of the way on -/
theorem seek_from (R : SetB P w s.heap a L es ep t) (TT : TupsB P w s.heap L) {x : Addr} {k : List Int} (hx : IsT P w s.heap k x) (hu : A.units < cLine) {K : Nat} (bound : K < 10 * SetTable.turns t.mask)
    (free : way t.mask (thash P w k) K ∉ t.place.toList) (full : ∀ c, c < K → way t.mask (thash P w k) c ∈ t.place.toList) {Q : SetFound → Shared → Prop}
    (yes : k ∈ L.map (·.2) → Q (.there none) s) (no : k ∉ L.map (·.2) → Q (.free (way t.mask (thash P w k) K) false) s) (f : Nat) :
    ∀ (c : Nat) (stand : Option SetTable.Probe), stand.getD (t.probeStart (thash P w k)) = nth t.mask (first0 t.mask (thash P w k)) c → c ≤ K → K - c < f →
      (∀ (i : Nat) p, L[i]? = some p → p.2 = k → ∃ d, c ≤ d ∧ d < K ∧ t.place.toList[i]? = some (way t.mask (thash P w k) d)) →
      wpAny (model P w) A (setSearchFrom a (.ref x) (thash P w k) true f stand) Q E s := by
  obtain ⟨o, ho, hex, hd⟩ := R.obj
  induction f with
  | zero => intro c _ _ _ l _; exact absurd l (Nat.not_lt_zero _)
  | succ f ih =>
    intro c stand from_ cK lim rest
    rw [setSearchFrom_succ]
    refine wpAny_bind (wpAny_setState_of ho hd R.fit ?_)
    dsimp only
    refine wp_if_neg (not_gave R.tab.msk) ?_
    try refine wpAny_bind (wpAny_pure ?_)
    have later : ∀ q, nth t.mask (nth t.mask (first0 t.mask (thash P w k)) c) q = nth t.mask (first0 t.mask (thash P w k)) (c + q) := fun q => (nth_add t.mask c _ q).symm
    have laterJ : ∀ q, (nth t.mask (nth t.mask (first0 t.mask (thash P w k)) c) q).j = way t.mask (thash P w k) (c + q) := fun q => congrArg SetTable.Probe.j (later q)
    have spec := go_spec t R.tab.up R.tab.nod (fun i => (es[i]?.map (·.1)).getD 0) (thash P w k) (10 * SetTable.turns t.mask) (K - c) (nth t.mask (first0 t.mask (thash P w k)) c) (nth_dummy _ _ _ rfl) (by omega)
      (fun q hq => by rw [laterJ]; exact full _ (by omega)) (by rw [laterJ, show c + (K - c) = K by omega]; exact free)
    have hashAt : ∀ (i : Nat) p, L[i]? = some p → (es[i]?.map (·.1)).getD 0 = thash P w p.2 := fun i p hp => by
      rw [R.ent hp]
      rfl
    have met : t.probe (fun i => (es[i]?.map (·.1)).getD 0) (thash P w k) (stand.getD (t.probeStart (thash P w k))) = SetTable.probe.go t (fun i => (es[i]?.map (·.1)).getD 0) (thash P w k) (10 * SetTable.turns t.mask) (nth t.mask (first0 t.mask (thash P w k)) c) := by
      rw [from_]
      rfl
    rw [met]
    rcases spec with ⟨q, i, hq, hi, _, none_before, e⟩ | ⟨none_before, e⟩
    · rw [e, laterJ, later]
      dsimp only
      rw [laterJ] at hi
      have li : i < L.length := by
        have := R.tab.len
        rw [List.length_map] at this
        rw [← this]
        exact (List.getElem?_eq_some_iff.mp hi).1
      obtain ⟨p, hp⟩ : ∃ p, L[i]? = some p := ⟨_, List.getElem?_eq_getElem li⟩
      have mem := List.mem_of_getElem? hp
      have live : t.slot (way t.mask (thash P w k) (c + q)) = .live i := slot_live R.tab.up hi
      have go_on : wpAny (model P w) A (searchRest a (.ref x) (thash P w k) true f es t (way t.mask (thash P w k) (c + q)) i (nth t.mask (first0 t.mask (thash P w k)) (c + (q + 1)))) Q E s := by
        unfold searchRest
        rw [R.ent hp]
        dsimp only
        refine wpAny_bind (wpAny_holding (wpAny_eqBool_tuple hu (TT p mem) hx ?_))
        refine wpAny_bind (wpAny_setState_of ho hd R.fit ?_)
        dsimp only
        by_cases same : p.2 = k
        · refine wp_if_pos (by simp [same]) (wpAny_pure (yes ?_))
          exact List.mem_map.mpr ⟨p, mem, same⟩
        · refine wp_if_neg (by simp [same]) ?_
          try refine wpAny_bind (wpAny_pure ?_)
          rw [sameMem]
          dsimp only
          simp only [if_true, live, R.ent hp]
          refine wpAny_bind (wpAny_isSame_ref_self (wpAny_bind (wpAny_pure ?_)))
          simp only [if_true]
          refine wp_if_neg (by simp [same]) ?_
          refine ih (c + (q + 1)) _ rfl (by omega) (by omega) fun i0 p0 h0 k0 => ?_
          obtain ⟨d, d1, d2, d3⟩ := rest i0 p0 h0 k0
          refine ⟨d, ?_, d2, d3⟩
          have not_at : d ≠ c + q := fun z => by
            rw [z] at d3
            have l0 := slot_live R.tab.up d3
            rw [live] at l0
            injection l0 with l0
            rw [← l0, hp] at h0
            exact same (by rw [Option.some.inj h0]; exact k0)
          have not_before : ¬ d < c + q := fun z => by
            refine none_before (d - c) i0 (by omega) (by rw [laterJ, show c + (d - c) = d by omega]; exact d3) ?_
            rw [hashAt i0 p0 h0, k0]
          omega
      by_cases l : t.led = true
      · refine wp_if_neg (by simp [l]) ?_
        try refine wpAny_bind (wpAny_pure ?_)
        exact go_on
      · refine wp_if_pos (by simp [l]) ?_
        refine wpAny_bind (seen_tup hx (fun y hy => ?_) ?_)
        · obtain ⟨en, hen, rfl⟩ := List.mem_map.mp hy
          have in_es : en ∈ es.toList := by
            have z : en ∈ es ∧ en.1 = thash P w k := by simpa using hen
            simpa using z.1
          rw [R.rws] at in_es
          obtain ⟨p2, m2, rfl⟩ := List.mem_map.mp in_es
          exact ⟨p2.2, p2.1, rfl, TT p2 m2⟩
        · refine wp_if_neg (by decide) ?_
          try refine wpAny_bind (wpAny_pure ?_)
          exact go_on
    · rw [e, laterJ, show c + (K - c) = K by omega]
      dsimp only
      refine wpAny_pure (no fun m => ?_)
      obtain ⟨p0, m0, k0⟩ := List.mem_map.mp m
      obtain ⟨i0, h0⟩ := List.getElem?_of_mem m0
      obtain ⟨d, d1, d2, d3⟩ := rest i0 p0 h0 k0
      refine none_before (d - c) i0 (by omega) (by rw [laterJ, show c + (d - c) = d by omega]; exact d3) ?_
      rw [hashAt i0 p0 h0, k0]
theorem seek_at (R : SetB P w s.heap a L es ep t) (TT : TupsB P w s.heap L) {x : Addr} {k : List Int} (hx : IsT P w s.heap k x) (hu : A.units < cLine) {Q : SetFound → Shared → Prop}
    (yes : k ∈ L.map (·.2) → Q (.there none) s)
    (no : ∀ c, k ∉ L.map (·.2) → way t.mask (thash P w k) c ∉ t.place.toList → (∀ d, d < c → way t.mask (thash P w k) d ∈ t.place.toList) → Q (.free (way t.mask (thash P w k) c) false) s) :
    wpAny (model P w) A (setSearch a (.ref x) (thash P w k) true) Q E s := by
  have rm := R.rom
  obtain ⟨c, c1, c2, c3⟩ := R.tab.gap (by rw [List.length_map]; omega) (thash P w k)
  have big : c < 100000 := by
    have := R.tab.msk.bd
    unfold SetTable.turns at c1
    omega
  unfold setSearch
  refine seek_from R TT hx hu c1 c2 c3 yes (fun m => no c m c2 c3) 100000 0 none rfl (Nat.zero_le _) (by omega) fun i p hp hk => ?_
  obtain ⟨d, d1, d2⟩ := R.tab.here c2 (i := i) (by rw [List.getElem?_map, hp, ← hk]; rfl)
  exact ⟨d, Nat.zero_le _, d1, d2⟩
/-- the table laid anew -/
theorem relay_set {o : Obj} (ho : s.heap.get? a = some o) (hex : o.ExactSet) (hd : o.data = .set es ep t) (rws : es.toList = rowsOf P w L) (fit : t.fits es.size = true) (uni : (L.map (·.2)).Nodup)
    (pla : t.plain = true) (led : w.params.followText "set-order" = true ∨ t.led = true) (few : L.length ≤ 2000) {wanted k : Nat} (hw : SetTable.sizeAbove wanted = 2 ^ k) (k3 : 3 ≤ k) (k13 : k ≤ 13) (rom : 4 * L.length < 2 ^ k) {Q : Unit → Shared → Prop}
    (fin : ∀ h' L' es' ep' t', Heap.SameBut a s.heap h' → SetB P w h' a L' es' ep' t' → L'.Perm L → Q () { s with heap := h' }) : wpAny (model P w) A (setRelay a wanted) Q E s := by
  have num : es.size = L.length := by
    rw [← Array.length_toList, rws]
    exact List.length_map _
  have p8 : 2 ^ 3 ≤ 2 ^ k := Nat.pow_le_pow_right (by decide) k3
  have p13 : 2 ^ k ≤ 2 ^ 13 := Nat.pow_le_pow_right (by decide) k13
  have e3 : (2 : Nat) ^ 3 = 8 := by decide
  have e13 : (2 : Nat) ^ 13 = 8192 := by decide
  obtain ⟨t', order, e, perm, T, em, el, epl⟩ := relay_all t (hs := es.map (·.1)) (wanted := wanted) (M := 2 ^ k - 1) (k := k) (by rw [hw]) (by omega) k3 k13 (by rw [Array.size_map, num]; omega)
  rw [Array.size_map, num] at perm
  obtain ⟨L2, r1, r2, r3⟩ := order_rows L es order rws perm
  rw [← r3] at T
  have num2 : (order.filterMap (es[·]?)).size = es.size := by
    rw [← Array.length_toList, r1, num]
    exact (List.length_map _).trans r2.length_eq
  rw [setRelay_eq]
  refine wpAny_bind (wpAny_setState_of ho hd fit ?_)
  dsimp only
  refine wp_if_neg (by rw [hw, sizeLine_eq]; omega) ?_
  try refine wpAny_bind (wpAny_pure ?_)
  rw [e]
  dsimp only
  refine wpAny_bind ?_
  refine wp_if_neg (by rw [num2]; simp) ?_
  try refine wpAny_bind (wpAny_pure ?_)
  refine wpAny_pure ?_
  dsimp only
  refine wpAny_storeSet_of ho hd ?_ (by rw [num2, num, sizeLine_eq]; omega)
  refine fin _ L2 (order.filterMap (es[·]?)) (ep + 1) t' (Heap.SameBut.update ..) ⟨⟨_, store_at ho hd, ⟨hex.1, hex.2.1, hex.2.2⟩, rfl⟩, r1, T, (r2.map (·.2)).nodup_iff.mpr uni, by rw [epl]; exact pla, by rw [el]; exact led, ?_, by rw [r2.length_eq]; exact few⟩ r2
  rw [r2.length_eq, em]
  omega
/-- one tuple added -/
theorem add_tup (R : SetB P w s.heap a L es ep t) (TT : TupsB P w s.heap L) {x : Addr} {k : List Int} (hx : IsT P w s.heap k x) (hu : A.units < cLine) (few : L.length < 2000) {Q : Bool → Shared → Prop}
    (fin : ∀ b h' L' es' ep' t', Heap.SameBut a s.heap h' → SetB P w h' a L' es' ep' t' → (k ∈ L.map (·.2) → L' = L) → (k ∉ L.map (·.2) → L'.Perm ((x, k) :: L)) → Q b { s with heap := h' }) :
    wpAny (model P w) A (setAddHashed a (.ref x) (thash P w k)) Q E s := by
  obtain ⟨o, ho, hex, hd⟩ := R.obj
  have num := R.num
  have rm := R.rom
  have mb := R.tab.msk.bd
  unfold setAddHashed
  refine wpAny_holding ?_
  rw [show (100000 : Nat) = 99999 + 1 from rfl, setAddHashedIn_succ]
  refine wpAny_bind (wpAny_setState_of ho hd R.fit ?_)
  dsimp only
  refine wp_if_neg (by simp [byScan, Value.scannable]) ?_
  try refine wpAny_bind (wpAny_pure ?_)
  refine wpAny_bind (seek_at R TT hx hu (fun m => ?_) fun c m free full => ?_)
  · dsimp only
    exact wpAny_pure (fin false s.heap L es ep t (Heap.SameBut.refl a s.heap) R (fun _ => rfl) fun z => absurd m z)
  dsimp only
  refine wpAny_bind (wpAny_setState_of ho hd R.fit ?_)
  dsimp only
  obtain ⟨q1, q2, q3⟩ := R.tab.put free full
  have pl1 : (t.put (way t.mask (thash P w k) c)).1.plain = true := R.pla
  have ld1 : w.params.followText "set-order" = true ∨ (t.put (way t.mask (thash P w k) c)).1.led = true := R.led
  have mk1 : (t.put (way t.mask (thash P w k) c)).1.mask = t.mask := rfl
  have at1 : (t.put (way t.mask (thash P w k) c)).2 = SetTable.below t.place (way t.mask (thash P w k) c) := rfl
  rw [List.length_map] at q1 q3
  have in1 : (SetTable.insertAt es (SetTable.below t.place (way t.mask (thash P w k) c)) (thash P w k, Value.ref x)).toList = rowsOf P w (L.take (SetTable.below t.place (way t.mask (thash P w k) c)) ++ (x, k) :: L.drop (SetTable.below t.place (way t.mask (thash P w k) c))) := by
    rw [SetTable.toList_insertAt, rows_put, R.rws]
  generalize t.put (way t.mask (thash P w k) c) = pt at q2 q3 pl1 ld1 mk1 at1 ⊢
  obtain ⟨t1, p1⟩ := pt
  dsimp only at q2 q3 pl1 ld1 mk1 at1 ⊢
  subst at1
  first
    | (refine wpAny_bind ?_; refine wp_if_pos pl1 ?_; refine hashBy_tup hx ?_)
    | refine wp_if_pos pl1 (wpAny_bind (hashBy_tup hx ?_))
  simp only [if_true]
  generalize SetTable.below t.place (way t.mask (thash P w k) c) = p at q1 q2 in1 ⊢
  have pm := put_perm L p (x, k)
  have mp : (L.map fun p => thash P w p.2).take p ++ thash P w k :: (L.map fun p => thash P w p.2).drop p = (L.take p ++ (x, k) :: L.drop p).map fun p => thash P w p.2 := by
    rw [List.map_append, List.map_cons, List.map_take, List.map_drop]
  rw [mp] at q2
  generalize SetTable.insertAt es p (thash P w k, Value.ref x) = es1 at in1 ⊢
  generalize L.take p ++ (x, k) :: L.drop p = L1 at pm q2 in1
  have ln : L1.length = L.length + 1 := pm.length_eq
  have num1 : es1.size = L1.length := by
    rw [← Array.length_toList, in1]
    exact List.length_map _
  have uni1 : (L1.map (·.2)).Nodup := by
    refine (pm.map (·.2)).nodup_iff.mpr ?_
    rw [List.map_cons]
    exact List.nodup_cons.mpr ⟨m, R.uni⟩
  refine wpAny_bind (wpAny_storeSet_of ho hd ?_ (by rw [num1, ln, sizeLine_eq]; omega))
  have sb : Heap.SameBut a s.heap (s.heap.update a (Obj.putSet es1 t1)) := Heap.SameBut.update ..
  have ho1 := store_at (es' := es1) (t' := t1) ho hd
  generalize s.heap.update a (Obj.putSet es1 t1) = h1 at sb ho1 ⊢
  have fit1 : t1.fits es1.size = true := fits_of q2 (by rw [num1, List.length_map]) (by rw [num1, ln, mk1]; omega)
  by_cases hf : t1.tooFull = true
  · first
      | (refine wpAny_bind ?_; refine wp_if_pos (by simp [hf]) ?_)
      | (refine wp_if_pos (by simp [hf]) ?_; refine wpAny_bind ?_)
    have gr : SetTable.grown (es.size + 1) = 4 * (L.length + 1) := by
      unfold SetTable.grown
      rw [num, if_neg (by omega)]
      omega
    rw [gr]
    obtain ⟨k', l1, l2, l3, l4⟩ := size_of (n := 4 * (L.length + 1)) (by omega)
    refine relay_set (s := { s with heap := h1 }) ho1 ⟨hex.1, hex.2.1, hex.2.2⟩ rfl in1 fit1 uni1 pl1 ld1 (by omega) l3 l1 l2 (by rw [ln]; exact l4) ?_
    intro h2 L2 es2 ep2 t2 sb2 R2 pm2
    exact wpAny_pure (fin true h2 L2 es2 ep2 t2 (sb.trans sb2) R2 (fun z => absurd z m) fun _ => pm2.trans pm)
  · first
      | refine wp_if_neg (by simp [hf]) ?_
      | (refine wpAny_bind ?_; refine wp_if_neg (by simp [hf]) ?_; refine wpAny_pure ?_)
    refine wpAny_pure (fin true h1 L1 es1 (ep + 1) t1 sb ⟨⟨_, ho1, ⟨hex.1, hex.2.1, hex.2.2⟩, rfl⟩, in1, q2, uni1, pl1, ld1, ?_, by omega⟩ (fun z => absurd z m) fun _ => pm)
    unfold SetTable.tooFull at hf
    rw [decide_eq_true_eq, q3] at hf
    omega
end
end Gx

/-! set(xs), xs a list of tuples of whole numbers; sorted(s), s a set of pairs or of whole numbers; any number of them (up to 2000, 4000) -/
namespace Gx
open PySem L2 PySem.Spec PyProof.Rows
theorem perm_map_back {α β : Type} {f : α → β} {ys zs : List β} (h : ys.Perm zs) : ∀ {l : List α}, zs = l.map f → ∃ l' : List α, l'.Perm l ∧ ys = l'.map f := by
  induction h with
  | nil => intro l e; exact ⟨[], by rw [List.map_eq_nil_iff.mp e.symm], rfl⟩
  | cons x _ ih =>
    intro l e
    match l, e with
    | a :: l, e =>
      injection e with e1 e2
      obtain ⟨l', p, q⟩ := ih e2
      exact ⟨a :: l', p.cons a, by rw [q, e1, List.map_cons]⟩
  | swap x y zs =>
    intro l e
    match l, e with
    | a :: b :: l, e =>
      injection e with e1 e2
      injection e2 with e2 e3
      exact ⟨b :: a :: l, List.Perm.swap .., by rw [e1, e2, e3]; rfl⟩
  | trans _ _ ih1 ih2 =>
    intro l e
    obtain ⟨l2, p2, e2⟩ := ih2 e
    obtain ⟨l1, p1, e1⟩ := ih1 e2
    exact ⟨l1, p1.trans p2, e1⟩
section
variable {P : Program} {w : World} {A : Around} {E : Value → Shared → Prop} {s : Shared}
def JT (P : Program) (w : World) (S : Addr) (ks : List (Addr × List Int)) (i : Nat) (h : Heap) : Prop := ∃ L es ep t, SetB P w h S L es ep t ∧ (∀ p ∈ L, p ∈ ks.take i) ∧ (∀ p ∈ ks.take i, p.2 ∈ L.map (·.2)) ∧ L.length ≤ i
theorem SetB.move {h h' : Heap} {a : Addr} {L : List (Addr × List Int)} {es : Array (Int × Value)} {ep : Nat} {t : SetTable} (R : SetB P w h a L es ep t) (k : ∀ o, h.get? a = some o → h'.get? a = some o) : SetB P w h' a L es ep t := by
  obtain ⟨o, ho, r⟩ := R.obj
  exact ⟨⟨o, k o ho, r⟩, R.rws, R.tab, R.uni, R.pla, R.led, R.rom, R.few⟩
theorem jt_lean {S : Addr} {h0 : Heap} {ks : List (Addr × List Int)} : Leans S h0 (JT P w S ks) := fun i h h' ⟨L, es, ep, t, R, r⟩ k _ => ⟨L, es, ep, t, R.move k, r⟩
theorem jt_start {S : Addr} {ks : List (Addr × List Int)} {h : Heap} (e : h.get? S = some { cls := .type "set", dict := none, data := .set #[] 0 (.fresh 0 0 (!w.params.followText "set-order")) }) : JT P w S ks 0 h := by
  refine ⟨[], #[], 0, _, ⟨⟨_, e, ⟨rfl, rfl, rfl⟩, rfl⟩, rfl, ⟨List.Pairwise.nil, rfl, rfl, ⟨3, by decide, by decide, rfl⟩, fun x h => (by cases h), fun q h => (by cases h)⟩, List.nodup_nil, rfl, ?_, (show 0 * 5 < 7 * 3 by decide), Nat.zero_le _⟩, fun p h => (by cases h), fun p h => (by simp at h), Nat.le_refl _⟩
  cases w.params.followText "set-order" with
  | true => exact .inl rfl
  | false => exact .inr rfl
theorem jt_adds {S : Addr} {h0 : Heap} {ks : List (Addr × List Int)} {i : Nat} {p : Addr × List Int} (hp : ks[i]? = some p) (few : ks.length ≤ 2000) (tups : TupsB P w h0 ks) : Adds P w S h0 (JT P w S ks) i (.ref p.1) := by
  intro B F s Q hu ji old fin
  obtain ⟨L, es, ep, t, R, sub, all, len⟩ := ji
  have li := (List.getElem?_eq_some_iff.mp hp).1
  have tk : ks.take (i + 1) = ks.take i ++ [p] := take_next hp
  have there : ∀ q ∈ ks, IsT P w s.heap q.2 q.1 := fun q hq => isT_keep (tups q hq) old
  unfold setAdd
  refine wpAny_holding (wpAny_bind (wpAny_pyHash_tuple hu (there p (List.mem_of_getElem? hp)) ?_))
  refine add_tup (s := { s with toks := s.toks + (p.2.length + 1) }) R (fun q hq => there q (List.mem_of_mem_take (sub q hq))) (there p (List.mem_of_getElem? hp)) hu (by omega) fun b h' L' es' ep' t' sb R' c1 c2 => ?_
  refine fin b h' _ sb ⟨L', es', ep', t', R', ?_⟩ (Nat.le_add_right _ _)
  rw [tk]
  by_cases c : p.2 ∈ L.map (·.2)
  · rw [c1 c]
    refine ⟨fun q hq => List.mem_append_left _ (sub q hq), fun q hq => ?_, by omega⟩
    rcases List.mem_append.mp hq with z | z
    · exact all q z
    · rw [List.mem_singleton.mp z]
      exact c
  · have pm := c2 c
    refine ⟨fun q hq => ?_, fun q hq => ?_, by rw [pm.length_eq, List.length_cons]; omega⟩
    · rcases List.mem_cons.mp (pm.mem_iff.mp hq) with z | z
      · rw [z]
        exact List.mem_append_right _ (List.mem_singleton.mpr rfl)
      · exact List.mem_append_left _ (sub q z)
    · refine (pm.map (·.2)).mem_iff.mpr ?_
      rw [List.map_cons]
      rcases List.mem_append.mp hq with z | z
      · exact List.mem_cons_of_mem _ (all q z)
      · rw [List.mem_singleton.mp z]
        exact List.mem_cons_self
open SrtO in
/-- sorted(s), s a set -/
theorem sorted_any {a : Addr} {es : Array (Int × Value)} {ep : Nat} {t : SetTable} {ltv : Value → Value → Bool} {Q : Value → Shared → Prop} (O : Swo ltv) (hh : A.handled = none) (ha : SetAt s.heap a es ep t) (fit : t.fits es.size = true) (few : es.size < scanBound) (up : Ris t.place.toList)
    (led : w.params.followText "set-order" = true ∨ t.led = true)
    (cmp : ∀ (vs : List Value) (s1 : Shared) (b : Addr), vs.Perm (es.toList.map (·.2)) → 2 ≤ vs.length → (∀ b o, s.heap.get? b = some o → s1.heap.get? b = some o) → s1.heap.get? b = some (seqObj "list" vs.toArray 0) → SortableO P w A.in1.in1 s1 b vs ltv)
    (fin : ∀ (s' : Shared) p (out : List Value) (c : Nat), (∀ b o, s.heap.get? b = some o → s'.heap.get? b = some o) → s'.gens = s.gens → s'.os = s.os → s.heap.objs.size ≤ p → s'.heap.get? p = some (seqObj "list" out.toArray c) →
      out.Perm (es.toList.map (·.2)) → Srtd ltv out → Q (.ref p) s') : wpAny (model P w) A (call (.builtin "sorted") [.ref a]) Q E s := by
  refine Calls.call_function_entry kind_sorted plain_sorted entry_sorted (args_sorted1 _) ?_
  unfold Builtin.«sorted»
  refine wpAny_bind (m := checkCount "sorted" 1 1 _) (wpAny_pure ?_)
  refine wpAny_bind (collect_set (A := A.in1) hh ha fit few up led fun s1 vs kept size g1 o1 pm => ?_)
  have small : vs.length ≤ sizeLine := by
    rw [pm.length_eq, List.length_map, Array.length_toList]
    have : scanBound = 4096 := rfl
    rw [sizeLine_eq]
    omega
  refine wpAny_bind (wpAny_newList ?_ small)
  have at_l : (s1.heap.push (seqObj "list" vs.toArray 0)).get? s1.heap.objs.size = some (seqObj "list" vs.toArray 0) := Heap.get?_push_size _ rfl
  have kept1 : ∀ b o, s.heap.get? b = some o → (s1.heap.push (seqObj "list" vs.toArray 0)).get? b = some o := fun b o e => Heap.get?_push_of_some _ (kept b o e)
  refine wpAny_bind (wpAny_holding (wpAny_call_entry slot_list_sort ⟨_, at_l, rfl⟩ entry_list_sort (list_sort_ord (s := { s1 with heap := s1.heap.push (seqObj "list" vs.toArray 0) }) O at_l small (fun l2 => cmp vs { s1 with heap := s1.heap.push (seqObj "list" vs.toArray 0) } _ pm l2 kept1 at_l) fun out srt stb => ⟨_, rfl, ?_⟩) (args_list_sort _)))
  obtain ⟨c, hc⟩ := sortedHeap_at (vs := vs) (out := out.toArray) at_l
  refine wpAny_pure ⟨_, rfl, fin _ s1.heap.objs.size out c (fun b u e => ?_) g1 o1 size hc (stb.perm.trans pm) srt⟩
  have l1 := Heap.lt_size (kept b u e)
  show (sortedHeap (s1.heap.push (seqObj "list" vs.toArray 0)) s1.heap.objs.size vs out.toArray).get? b = some u
  rw [sortedHeap_old (Nat.ne_of_lt l1) (by rw [size_push']; exact Nat.lt_succ_of_lt l1)]
  exact kept1 b u e
end
/-! ### as rules of the layer -/
def SetB0 (P : Program) (w : World) (h : Heap) (a : Addr) (L : List (Addr × List Int)) : Prop := ∃ es ep t, SetB P w h a L es ep t
def SetBO (P : Program) (w : World) (a : Addr) (L : List (Addr × List Int)) : HO := .ext fun h => SetB0 P w h a L
theorem setBO_new {P : Program} {w : World} {H : Hp} {h : Heap} {a : Addr} {L : List (Addr × List Int)} (R : SetB0 P w h a L) : ObjOk P w H h a (SetBO P w a L) := by
  have ⟨es, ep, t, r⟩ := R
  obtain ⟨o, ho, _⟩ := r.obj
  exact ⟨R, ⟨o, ho⟩, fun h1 h2 ⟨es, ep, t, r⟩ k => ⟨es, ep, t, r.move k⟩⟩
/-- the numbers of a pair -/
def pr2 (ns : List Int) : Int × Int := (ns.headD 0, ns.tail.headD 0)
def ltPr (p q : Int × Int) : Bool := SrtO.lexB p q
section
variable {X : Cx}
def rSetOfB (K : PySem.W.Frag) (P : Program) (w : World) : List V → Hp → VK → Prop := fun xs H Q => ∃ (l : Addr) (ks : List (Addr × List Int)), xs = [V.ref l] ∧ SqL K H l (ks.map fun p => V.ref p.1) ∧ (∀ p ∈ ks, SqT K H p.1 (p.2.map V.int)) ∧ ks.length ≤ 2000 ∧
  ∀ a L, H a = none → (∀ p ∈ L, p ∈ ks) → (∀ p ∈ ks, p.2 ∈ L.map (·.2)) → (L.map (·.2)).Nodup → Q (.ref a) (upd H a (SetBO P w a L))
theorem cr_setOfB {j : Nat} (hc : X.calm = true) (hr : Room j X.A) : CallR X (.type "set") (rSetOfB X.K X.prog X.w) := by
  intro pins s σ H xs us Q I rel h
  obtain ⟨l, ks, rfl, sq, tu, few, k⟩ := h
  rw [Vals.ref1 rel]
  obtain ⟨its, rv, pl, sz⟩ := I.list sq
  have eits := refs_of_vals rv
  have len : its.toArray.size = ks.length := by rw [List.size_toArray, eits, List.length_map]
  have tups : TupsB X.prog X.w s.heap ks := fun p hp => I.isT (tu p hp)
  refine set_of_list (JT X.prog X.w s.heap.objs.size ks) (I.ok.hd hc) pl.isList (by have := hr.units; omega) jt_lean (fun i v hv => ?_) (fun h' e _ => jt_start e) fun h' tk jn old => ?_
  · rw [List.getElem?_toArray, eits, List.getElem?_map] at hv
    rcases e : ks[i]? with _ | p
    · rw [e] at hv
      cases hv
    · rw [e] at hv
      obtain rfl := Option.some.inj hv
      exact jt_adds e few tups
  · obtain ⟨L, es, ep, t, R, sub, all, ln⟩ := jn
    rw [len, List.take_length] at sub all
    have new : H s.heap.objs.size = none := I.hok.fresh (Nat.le_refl _)
    exact ⟨.ref s.heap.objs.size, upd H s.heap.objs.size (SetBO X.prog X.w s.heap.objs.size L), I.laid (t' := tk) old (Nat.le_refl _) (setBO_new ⟨es, ep, t, R⟩), rfl, k _ L new sub all R.uni⟩
/-- what a new list made in a call leaves -/
theorem laid_list {pins : List (Addr × Obj)} {σ : L2.St} {H : Hp} {s s' : Shared} {Q : VK} {p : Addr} {xs : List V} {out : List Value} {c : Nat} (I : Inv X pins σ H s) (kept : ∀ b o, s.heap.get? b = some o → s'.heap.get? b = some o) (g : s'.gens = s.gens) (o : s'.os = s.os) (hp : s.heap.objs.size ≤ p)
    (at_p : s'.heap.get? p = some (seqObj "list" out.toArray c)) (v : Vals xs out) (l : xs.length ≤ sizeLine) (q : H p = none → Q (.ref p) (upd H p (.lst xs))) : EP X pins σ Q (.ref p) s' := by
  have new : H p = none := I.hok.fresh hp
  have J : Inv X pins σ (upd H p (.lst xs)) { s with heap := s'.heap, gens := s'.gens, drawn := s'.drawn, toks := s'.toks } :=
    I.call (ch := []) (Un.laid kept hp new) (I.hok.laid kept hp ⟨l, out, c, v, at_p⟩) (by rw [g]; exact I.bare) (fun _ z => nomatch z)
  obtain ⟨h', g', d', t', o'⟩ := s'
  obtain rfl : o' = s.os := o
  exact ⟨.ref p, _, J, rfl, q new⟩
def rSortedB (K : PySem.W.Frag) (P : Program) (w : World) : List V → Hp → VK → Prop := fun vs H Q => ∃ (a : Addr) (L : List (Addr × List Int)), vs = [V.ref a] ∧ H a = some (SetBO P w a L) ∧ (∀ p ∈ L, p.2.length = 2 ∧ SqT K H p.1 (p.2.map V.int)) ∧
  ∀ (L' : List (Addr × List Int)) (p : Addr), L'.Perm L → L'.Pairwise (fun q r => ltPr (pr2 q.2) (pr2 r.2) = true) → H p = none → Q (.ref p) (upd H p (.lst (L'.map fun q => V.ref q.1)))
/-- which pair a reference is -/
def keyR (L : List (Addr × List Int)) : Value → Int × Int
  | .ref a => ((L.find? fun p => p.1 == a).map fun p => pr2 p.2).getD (0, 0)
  | _ => (0, 0)
theorem keyR_mem {P : Program} {w : World} {h : Heap} {L : List (Addr × List Int)} (tu : TupsB P w h L) {p : Addr × List Int} (hp : p ∈ L) : keyR L (.ref p.1) = pr2 p.2 := by
  show ((L.find? fun q => q.1 == p.1).map fun p => pr2 p.2).getD (0, 0) = _
  cases e : L.find? fun q => q.1 == p.1 with
  | none => exact absurd (List.find?_eq_none.mp e p hp) (by simp)
  | some q =>
    have e1 : q.1 = p.1 := by simpa using List.find?_some e
    have t1 := tu q (List.mem_of_find?_eq_some e)
    have t2 := tu p hp
    rw [e1] at t1
    have ek : q.2 = p.2 := t1.inj t2
    show pr2 q.2 = pr2 p.2
    rw [ek]
theorem pair_of {P : Program} {w : World} {h : Heap} {p : Addr × List Int} (l : p.2.length = 2) (t : IsT P w h p.2 p.1) : Srt.IsPair h (.ref p.1) (pr2 p.2).1 (pr2 p.2).2 := by
  obtain ⟨b, k⟩ := p
  match k, l, t with
  | [x, y], _, t =>
    obtain ⟨o, its, n, ho, hc, hd, it⟩ := t
    obtain ⟨its⟩ := its
    have ii := ints_of_items it
    cases ii with
    | cons _ t1 ii =>
      cases ii with
      | cons _ t2 ii =>
        cases ii
        exact ⟨b, o, t1, t2, n, rfl, ho, hc, hd⟩
theorem cr_sortedB (hc : X.calm = true) : CallR X (.builtin "sorted") (rSortedB X.K X.prog X.w) := by
  intro pins s σ H vs us Q I r h
  obtain ⟨a, L, rfl, ha, tu, q⟩ := h
  have R0 : SetB0 X.prog X.w s.heap a L := (I.hok a _ ha).1
  obtain ⟨es, ep, t, R⟩ := R0
  have tups : TupsB X.prog X.w s.heap L := fun p hp => I.isT (tu p hp).2
  rw [Vals.ref1 r]
  obtain ⟨o, ho, hex, hd⟩ := R.obj
  have vals : es.toList.map (·.2) = L.map fun p => Value.ref p.1 := by
    rw [R.rws]
    show (L.map _).map _ = _
    rw [List.map_map]
    rfl
  have few := R.few
  have num := R.num
  have isp : ∀ {h' : Heap} {v : Value}, (∀ b o, s.heap.get? b = some o → h'.get? b = some o) → v ∈ L.map (fun p => Value.ref p.1) → Srt.IsPair h' v (keyR L v).1 (keyR L v).2 := fun {h' v} k hv => by
    obtain ⟨p, hp, rfl⟩ := List.mem_map.mp hv
    rw [keyR_mem tups hp]
    exact pair_of (tu p hp).1 (isT_keep (tups p hp) k)
  refine sorted_any (SrtO.swo_lex (keyR L)) (I.ok.hd hc) ⟨o, ho, hex.1, hd⟩ R.fit (by have : scanBound = 4096 := rfl; omega) R.tab.up R.led (fun vs s1 b pm l2 kept at_b => ?_) fun s' p out c kept g os hp at_p pm srt => ?_
  · rw [vals] at pm
    refine SrtO.pairs_sortableO (s := s1) (by omega) (fun v hv => isp kept (pm.mem_iff.mp hv)) fun o e => ?_
    rw [at_b] at e
    obtain rfl := Option.some.inj e
    exact fun z => absurd (Value.type.inj z) (by decide)
  · rw [vals] at pm
    obtain ⟨L', pL, rfl⟩ := perm_map_back pm rfl
    refine laid_list I kept g os hp at_p (vals_of_refs L') (by rw [List.length_map, pL.length_eq, sizeLine_eq]; omega) (q L' p pL ?_)
    have uni0 : (L'.map (·.2)).Nodup := (pL.map (·.2)).nodup_iff.mpr R.uni
    have uni : L'.Pairwise fun q r => q.2 ≠ r.2 := List.pairwise_map.mp uni0
    have srt : (L'.map fun p => Value.ref p.1).Pairwise fun x y => SrtO.lexB (keyR L y) (keyR L x) = false := srt
    rw [List.pairwise_map] at srt
    refine (uni.and srt).imp_of_mem fun {x y} hx hy ⟨ne, le⟩ => ?_
    have mx := pL.mem_iff.mp hx
    have my := pL.mem_iff.mp hy
    rw [keyR_mem tups mx, keyR_mem tups my] at le
    have l1 := (tu x mx).1
    have l2 := (tu y my).1
    obtain ⟨x1, x2⟩ := x
    obtain ⟨y1, y2⟩ := y
    match x2, l1, y2, l2 with
    | [i, j], _, [i', j'], _ =>
      have le := SrtO.lexB_no.mp le
      refine SrtO.lexB_iff.mpr ?_
      simp only [pr2, List.headD_cons, List.tail_cons] at le ⊢
      have ne : ¬ (i = i' ∧ j = j') := fun z => ne (by rw [z.1, z.2])
      omega
/-- sorted(s), s a set of whole numbers, any number of them -/
def rSortedJ (w : World) : List V → Hp → VK → Prop := fun vs H Q => ∃ (a : Addr) (M : Int → Bool) (n : Nat), vs = [V.ref a] ∧ H a = some (SetO w a M n) ∧
  ∀ (ns : List Int) (p : Addr), ns.Pairwise (· < ·) → (∀ k : Int, k ∈ ns ↔ M k = true) → ns.length = n → H p = none → Q (.ref p) (upd H p (.lst (ns.map V.int)))
theorem cr_sortedJ (hc : X.calm = true) : CallR X (.builtin "sorted") (rSortedJ X.w) := by
  intro pins s σ H vs us Q I r h
  obtain ⟨a, M, n, rfl, ha, q⟩ := h
  obtain ⟨o, es, ep, t, ho, hex, hd, good, nd, mem, few, fit, num, up, led⟩ := setO_get I ha
  rw [Vals.ref1 r]
  have all : ∀ {vs : List Value}, vs.Perm (es.toList.map (·.2)) → IntsAre vs (vs.map SrtO.iv) ∧ (vs.map SrtO.iv).Perm (es.toList.map keyOf) := fun {vs} pm => by
    refine ⟨SrtO.ints_iv fun v hv => ?_, ?_⟩
    · obtain ⟨e, he, rfl⟩ := List.mem_map.mp (pm.mem_iff.mp hv)
      obtain ⟨k, tk, h1, _⟩ := good e he
      exact ⟨k, tk, h1⟩
    · have z := pm.map SrtO.iv
      rw [List.map_map] at z
      have e : es.toList.map (SrtO.iv ∘ (·.2)) = es.toList.map keyOf := List.map_congr_left fun e he => by
        obtain ⟨k, tk, h1, _⟩ := good e he
        show SrtO.iv e.2 = keyOf e
        unfold keyOf
        rw [h1]
        rfl
      rw [e] at z
      exact z
  refine sorted_any SrtO.swo_int (I.ok.hd hc) ⟨o, ho, hex.1, hd⟩ fit few up led (fun vs s1 b pm l2 kept at_b => SrtO.ints_sortable (all pm).1 l2) fun s' p out c kept g os hp at_p pm srt => ?_
  obtain ⟨i1, pk⟩ := all pm
  have ln : (out.map SrtO.iv).length = n := by rw [pk.length_eq, List.length_map, Array.length_toList, num]
  refine laid_list I kept g os hp at_p (vals_of_ints i1) (by rw [List.length_map, ln, sizeLine_eq]; have : scanBound = 4096 := rfl; omega) (q _ p ?_ (fun k => by rw [pk.mem_iff, ← mem k]) ln)
  have srt : out.Pairwise fun x y => SrtO.ltIv y x = false := srt
  refine lt_of_le_nodup _ (List.pairwise_map.mpr (srt.imp fun {x y} h => ?_)) (pk.nodup_iff.mpr nd)
  exact Int.not_lt.mp (of_decide_eq_false (p := SrtO.iv y < SrtO.iv x) h)
end
end Gx

/-! A comprehension over a range whose turns may change hidden things; texts -/
namespace Gx
open PySem L2
section
variable {σ : L2.St} {H H1 : Hp} {Q : VK} {K : PySem.W.Frag} {te tl : TE} {tt : TT} {g : TG} {vs : List Nat} {J : It} {n j : Nat}
end
end Gx

/-! name, *rest = x; a text times 0 or 1 -/
namespace Gx
open PySem L2 PySem.Spec PyProof.Rows PySem.W
section
variable {X : Cx}
/-- name, *rest = x : x a list or a tuple -/
def gStar (K : PySem.W.Frag) (t : TGs) : TG := fun v σ H Q => ∃ a x r, v = .ref a ∧ (SqL K H a (x :: r) ∨ SqT K H a (x :: r)) ∧ r.length ≤ 16000 ∧ ∀ p, H p = none → t [x, .ref p] σ (upd H p (.lst r)) Q
/-- a text, 0 or 1 times -/
def rRep1 : R2 := fun x y H Q => ∃ (a : Str) (b : Bool), x = .str a ∧ y = .int (if b = true then 1 else 0) ∧ Q (.str (if b = true then a else Str.empty)) H
end
end Gx

/-! Steps for texts; defs called by a keyword; the walk over enumerate -/
namespace Gx
open PySem L2 PySem.Spec PyProof.Rows
section
variable {X : Cx}
/-- a def called with keywords alone -/
structure CalK (P : Program) (w : World) (K : PySem.W.Frag) (mg : Str → Option Value) (base : Heap) (k : Nat) (x : Str) (ks : List Str) (gV : List V → List V → List V) (sp : Sp) : Prop where
  ex : ∃ (f : Addr) (fd : FuncData) (ps : List Str) (g : List Value → List Value → List Value), FnOk P w K mg base CX0 k f fd ps sp ∧ mg x = some (.ref f) ∧ PySem.W.keepIn K (.ref f) = true ∧ KBinds K fd ps ks g gV
def tCallK0 (sp : Sp) (gV : List V → List V → List V) (tk : TA) : TE := fun σ H Q => tk σ H fun zs H2 => sp (gV [] zs) H2 Q (fun _ _ _ => False)
def soleV : List V → List V → List V
  | [], [x] => [x]
  | _, _ => []
def soleU : List Value → List Value → List Value
  | [], [x] => [x]
  | _, _ => []
end
section
variable {σ : L2.St} {H H1 : Hp} {Q : VK} {K : PySem.W.Frag} {te to ta : TE} {tk : TA} {R : It → Hp → Prop} {a : Addr} {xs : List V}
theorem g_callK0 {sp : Sp} {gV : List V → List V → List V} (q : tk σ H fun zs H2 => sp (gV [] zs) H2 Q (fun _ _ _ => False)) : tCallK0 sp gV tk σ H Q := q
theorem g_m1 {r : V → List V → Hp → VK → Prop} (q : to σ H fun x H1 => (∃ a, x = .str a) ∧ te σ H1 fun y H2 => r x [y] H2 Q) : tM1 r to te σ H Q := q
theorem g_isstr {z : Str} {P : Prop} (q : P) : (∃ a, V.str z = .str a) ∧ P := ⟨⟨z, rfl⟩, q⟩
theorem g_iStr (q : te σ H fun v H1 => ∃ x, v = .str x ∧ R (Its x) H1) : iStr te σ H R := q
theorem g_exS {z : Str} {R : Str → Prop} (q : R z) : ∃ x, V.str z = .str x ∧ R x := ⟨z, rfl, q⟩
theorem g_iEnum {t : TA} (q : t σ H fun vs H1 => ∃ a xs, vs = [.ref a] ∧ SqL K H1 a xs ∧ R (Ite K a) H1) : iEnum K t σ H R := q
theorem g_exEn {R : Addr → Prop} (h : SqL K H a xs) (q : R a) : ∃ b ys, [V.ref a] = [.ref b] ∧ SqL K H b ys ∧ R b := ⟨a, xs, rfl, h, q⟩
theorem fw_enum {g : TG} {tb : TS} {D : Ends} (Pv : Nat → L2.St → Hp → Prop) (h0 : Pv 0 σ H) (hl : ∀ i σ H, i ≤ xs.length → Pv i σ H → SqL K H a xs)
    (hs : ∀ i x t σ H H', xs[i]? = some x → Pv i σ H → Same H H' → H' t = some (.tup [.int (i : Nat), x]) → g (.ref t) σ H' fun σ2 H2 => tb { D with nx := Pv (i + 1), ct := Pv (i + 1), bk := D.nx } σ2 H2) (hd : ∀ σ H, Pv xs.length σ H → D.nx σ H) : FW g tb D (Ite K a) σ H := by
  refine ⟨fun i m σ H => m = xs.length - i ∧ i ≤ xs.length ∧ Pv i σ H, ⟨_, rfl, Nat.zero_le _, h0⟩, ?_⟩
  rintro i m σ H ⟨rfl, hi, p⟩
  have q := hl i σ H hi p
  rcases Nat.lt_or_ge i xs.length with lt | ge
  · refine .inr ⟨⟨xs, xs[i], q, List.getElem?_eq_getElem lt⟩, Pv (i + 1), fun σ' H' p' => ⟨xs.length - (i + 1), by omega, rfl, lt, p'⟩, fun v H' y => ?_⟩
    obtain ⟨t, x, rfl, nt, rfl, at_⟩ := y
    exact hs i x t σ H _ (at_ xs q) p (same_new nt) upd_same
  · have e : i = xs.length := Nat.le_antisymm hi ge
    subst e
    exact .inl ⟨⟨xs, q, Nat.le_refl _⟩, hd σ H p⟩
end
end Gx

/-! in by an own __contains__; while; dict comprehensions; comprehensions over ints -/
namespace Gx
open PySem L2 PySem.Spec PyProof.Rows
open C8 (Cal Met Mak)
section
variable {X : Cx} {k j : Nat} {C : Addr} {sp : Sp}
/-- y in o, o of the class at C with its own __contains__ -/
def rOwn (C : Addr) (sp : Sp) (neg : Bool) : R2 := fun y x H Q => ∃ a dx fs, x = .ref a ∧ H a = some (.ins C dx fs) ∧ sp [.ref a, y] H (fun r H' => ∃ b, r = .bl b ∧ Q (.bl (if neg = true then !b else b)) H') (fun _ _ _ => False)
end
section
variable {σ : L2.St} {H H1 : Hp} {Q : VK} {K : PySem.W.Frag} {te tl tk tv : TE} {tt : TT} {g : TG} {vs : List Nat} {J : It} {n j : Nat} {D : Ends} {tb : TS}
/-- while, by a word and a measure of the state -/
theorem g_while (Pv : Nat → L2.St → Hp → Prop) (m0 : Nat) (h0 : Pv m0 σ H) (hs : ∀ m σ H, Pv m σ H → tt σ H fun b H1 => if b = true then ∃ N : L2.St → Hp → Prop, (∀ σ' H', N σ' H' → ∃ m', m' < m ∧ Pv m' σ' H') ∧ tb { D with nx := N, ct := N, bk := D.nx } σ H1 else D.nx σ H1) : tWhile tt tb D σ H := ⟨Pv, ⟨m0, h0⟩, hs⟩
/-! ### membership in a dict -/
/-- the turns of a dict comprehension, its source known -/
def DC (g : TG) (tt : TT) (tk tv : TE) (vs : List Nat) (J : It) (σ : L2.St) (H1 : Hp) (Q : VK) : Prop := ∀ D, H1 D = none → ∃ W : Nat → Nat → Hp → Prop, (∃ m, W 0 m (upd H1 D (.dK []))) ∧ ∀ i m H, W i m H →
  (J.stop i H ∧ Q (.ref D) H) ∨ (J.go i H ∧ ∃ Nx : Hp → Prop, (∀ H', Nx H' → ∃ m', m' < m ∧ W (i + 1) m' H') ∧ ∀ x H', J.yld i H x H' → g x (wipe σ vs) H' fun σ2 H2 => wipe σ2 vs = wipe σ vs ∧ tt σ2 H2 fun b H3 =>
    if b = true then tk σ2 H3 fun y H4 => tv σ2 H4 fun z H5 => ∃ kvs k, y = kV k ∧ H5 D = some (.dK kvs) ∧ kvs.length < sizeLine ∧ Nx (upd H5 D (.dK (putK kvs k z))) else Nx H3)
/-- a dict whose keys are some ints -/
def KeysI (H : Hp) (a : Addr) (ns : List Int) : Prop := ∃ kvs : List (Key × V), H a = some (.dK kvs) ∧ ∀ k : Int, (valV kvs (.inl k)).isSome = decide (k ∈ ns)
theorem KeysI.same {H H' : Hp} {a : Addr} {ns : List Int} (h : KeysI H a ns) (s : Same H H') : KeysI H' a ns := by
  obtain ⟨kvs, e, m⟩ := h
  exact ⟨kvs, s _ _ e, m⟩
def rDIn2 (neg : Bool) : R2 := fun y x H Q => ∃ a o, x = .ref a ∧ DGet H a y o ∧ Q (.bl (if neg = true then !o.isSome else o.isSome)) H
theorem op_dictNotIn {X : Cx} (hu : X.A.units + 64 < cLine) : OpR X (compareOp .NotIn) (rDIn2 true) := by
  intro pins s σ H y x v u Q I ry rx h
  obtain ⟨a, ov, rfl, g, q⟩ := h
  cases rx
  exact d_notIn (by omega) I g ry fun s3 I3 => ⟨.bl (!ov.isSome), H, I3, rfl, q⟩
/-! ### comprehensions over ints -/
/-- a test that each int answers -/
theorem lc_filtI {a : Addr} {ns : List Int} (h : SqL K H1 a (ns.map V.int)) (hn : ns.length ≤ 100000) (d : Int → Bool)
    (turn : ∀ (m : Int) H' (Nx : V → Hp → Prop) (No : Hp → Prop), m ∈ ns → Same H1 H' → (∀ H4, Same H' H4 → d m = true → Nx (.int m) H4) → (∀ H4, Same H' H4 → d m = false → No H4) →
      g (.int m) (wipe σ vs) H' fun σ2 H2 => wipe σ2 vs = wipe σ vs ∧ tt σ2 H2 fun b H3 => if b = true then te σ2 H3 Nx else No H3)
    (done : ∀ D H', H1 D = none → Same H1 H' → H' D = some (.lst ((ns.filter d).map V.int)) → Q (.ref D) H') : LC g tt te vs (Itl K a) σ H1 Q := by
  have e0 : ns.length = (ns.map V.int).length := (List.length_map _).symm
  refine lc_src (n := ns.length) (by rw [e0]; exact src_list h) hn (fun i acc _ => acc = ((ns.take i).filter d).map V.int) (fun _ _ _ _ _ _ _ _ _ _ a => a) (fun _ _ => rfl) (fun i x acc H' Nx No lt s it a hl k1 k2 => ?_) fun D acc H' h1 s e a _ => done D H' h1 s (by rw [e, a, List.take_length])
  obtain ⟨m, hm, rfl⟩ := ints_at it
  have tk : ns.take (i + 1) = ns.take i ++ [m] := by
    rw [List.take_succ, hm]
    rfl
  refine turn m H' Nx No (List.mem_of_getElem? hm) s (fun H4 s4 h => k1 _ H4 s4 ?_) (fun H4 s4 h => k2 H4 s4 ?_)
  · rw [tk, List.filter_append, List.map_append, a]
    simp [h]
  · rw [tk, List.filter_append, List.map_append, a]
    simp [h]
end
/-! ### keywords in another sequence -/
def rotV : List V → List V → List V
  | [], [z, b, a, c] => [a, b, c, z]
  | _, _ => []
def rotU : List Value → List Value → List Value
  | [], [z, b, a, c] => [a, b, c, z]
  | _, _ => []
end Gx

/-! How far a read reaches, as plain functions; what is found by steps and by the nearest points is the same -/
namespace Gx
open PySem L2
def leftOf (ns : List Int) (lo : Int) : Option Int := if lo ∈ ns then some lo else (ns.filter fun n => decide (n < lo)).getLast?
def rightOf (ns : List Int) (hi : Int) : Option Int := if hi ∈ ns then some hi else (ns.filter fun n => decide (hi < n)).head?
def keptOf (ns ss : List Int) : List Int := ns.filter fun n => !decide (n ∈ ss)
def leftOk (l : Option Int) (hl : Bool) (x : Int) : Bool := match l with | none => true | some a => !(decide (x < a) || (decide (x = a) && !hl))
def rightOk (r : Option Int) (hr : Bool) (x : Int) : Bool := match r with | none => true | some b => decide (x < b) || (decide (x = b) && hr)
def heldB (l r : Option Int) (hl hr : Bool) (x : Int) : Bool := leftOk l hl x && rightOk r hr x
def reachV (ns ss : List Int) (lo hi : Int) : List V := [oV (leftOf (keptOf ns ss) lo), oV (rightOf (keptOf ns ss) hi), .bl (decide (lo ∈ keptOf ns ss)), .bl (decide (hi ∈ keptOf ns ss))]
def tupD (l r : Option Int) (hl hr : Bool) : PyData := .tuple [oD l, oD r, .bool hl, .bool hr]
def reachD (ns ss : List Int) (lo hi : Int) : PyData := tupD (leftOf (keptOf ns ss) lo) (rightOf (keptOf ns ss) hi) (decide (lo ∈ keptOf ns ss)) (decide (hi ∈ keptOf ns ss))
/-- what is found by steps of one number -/
def StepP (rows : List Int) (b by_ : Int) (o : Option Int) (z : Bool) : Prop :=
  (∃ t : Nat, t < 40 ∧ o = some (b + by_ * (t : Int)) ∧ b + by_ * (t : Int) ∈ rows ∧ (∀ s : Nat, s < t → ¬ b + by_ * (s : Int) ∈ rows) ∧ z = decide (t = 0)) ∨ (o = none ∧ z = false ∧ ∀ s : Nat, s < 40 → ¬ b + by_ * (s : Int) ∈ rows)
/-- the nearest points, itself among them -/
def lessOf (ns : List Int) (lo : Int) : List Int := ns.filter fun n => decide (n ≤ lo)
def moreOf (ns : List Int) (hi : Int) : List Int := ns.filter fun n => decide (hi ≤ n)
/-- how many of ascending numbers are less: a halving search -/
def lessN (ns : List Int) (x : Int) : Nat := (ns.filter fun n => decide (n < x)).length
end Gx

/-! Objects of one of several classes: methods, properties, in, defs with a promise for each class -/
namespace Gx
open PySem L2 PySem.Spec PyProof.Rows
open C8 (Cal Met Mak)
/-- a promise for each class of S -/
def spAny (S : Addr → Prop) (sp : Addr → Sp) : Sp := fun vs H Q E => ∃ C, S C ∧ sp C vs H Q E
/-- one of two classes -/
def two (CL CK : Addr) : Addr → Prop := fun C => C = CL ∨ C = CK
structure MetS (P : Program) (w : World) (K : PySem.W.Frag) (mg : Str → Option Value) (base : Heap) (k : Nat) (S : Addr → Prop) (m : Str) (sp : Sp) : Prop where
  ex : ∀ C, S C → Met P w K mg base k C m sp []
def tMethS (S : Addr → Prop) (m : Str) (sp : Sp) (ta : TE) (t : TA) : TE := fun σ H Q => ta σ H fun x H1 => ∃ a C dx fs, x = .ref a ∧ H1 a = some (.ins C dx fs) ∧ S C ∧ fs.lookup m = none ∧ t σ H1 fun vs H2 => sp (.ref a :: vs) H2 Q (fun _ _ _ => False)
section
variable {X : Cx} {k j : Nat} {S : Addr → Prop} {m f : Str} {sp : Sp} {pos apos : Pos} {e o : Expr} {es : List Expr} {ta : TE} {t : TA}
/-- properties -/
structure PropS (P : Program) (w : World) (K : PySem.W.Frag) (mg : Str → Option Value) (base : Heap) (k : Nat) (S : Addr → Prop) (f : Str) (sp : Sp) : Prop where
  ex : ∀ C, S C → PropR P w K mg base k C f sp
def tPropS (S : Addr → Prop) (sp : Sp) (ta : TE) : TE := fun σ H Q => ta σ H fun x H1 => ∃ a C dx fs, x = .ref a ∧ H1 a = some (.ins C dx fs) ∧ S C ∧ sp [.ref a] H1 Q (fun _ _ _ => False)
/-- y in o -/
def rOwnS (S : Addr → Prop) (sp : Sp) (neg : Bool) : R2 := fun y x H Q => ∃ a C dx fs, x = .ref a ∧ H a = some (.ins C dx fs) ∧ S C ∧ sp [.ref a, y] H (fun r H' => ∃ b, r = .bl b ∧ Q (.bl (if neg = true then !b else b)) H') (fun _ _ _ => False)
end
section
variable {σ : L2.St} {H : Hp} {Q : VK} {S : Addr → Prop} {m : Str} {sp : Sp} {ta : TE} {t : TA} {a C dx : Addr} {fs : List (Str × V)}
def MethSQ (S : Addr → Prop) (m : Str) (sp : Sp) (t : TA) (σ : L2.St) (x : V) (H : Hp) (Q : VK) : Prop := ∃ a C dx fs, x = .ref a ∧ H a = some (.ins C dx fs) ∧ S C ∧ fs.lookup m = none ∧ t σ H fun vs H2 => sp (.ref a :: vs) H2 Q (fun _ _ _ => False)
def PropSQ (S : Addr → Prop) (sp : Sp) (x : V) (H : Hp) (Q : VK) : Prop := ∃ a C dx fs, x = .ref a ∧ H a = some (.ins C dx fs) ∧ S C ∧ sp [.ref a] H Q (fun _ _ _ => False)
end
end Gx

/-! Points of two kinds: whole numbers and pairs of them; lists of such points; < of both kinds, membership in lists of data -/
namespace Gx
open PySem L2 PySem.Spec PyProof.Rows
/-- x < y, of two ints or of two tuples of ints -/
def rLt2 (K : PySem.W.Frag) : R2 := fun x y H Q => rI0 (fun i j => .bl (decide (i < j))) x y H Q ∨ rLtT K x y H Q
theorem op_lt2 {X : Cx} (hu : X.A.units < cLine) : OpR X (compareOp .Lt) (rLt2 X.K) := fun pins s σ H x y v u Q I rx ry h => by
  rcases h with h | h
  · exact op_lt pins s σ H x y v u Q I rx ry h
  · exact op_ltT hu pins s σ H x y v u Q I rx ry h
/-- membership in a list of data -/
def rInDL (K : PySem.W.Frag) (neg : Bool) : R2 := fun x y H Q => ∃ d ds, Dp K H x d ∧ Dp K H y (.list ds) ∧ SeqAt.shaped d = true ∧ SeqAt.shaped (.list ds) = true ∧ d.depth ≤ 60 ∧ Q (.bl (if neg = true then !(ds.any fun z => PyData.eqv z d) else ds.any fun z => PyData.eqv z d)) H
theorem op_inDL {X : Cx} (hu : X.A.units + 64 < cLine) : OpR X (compareOp .In) (rInDL X.K false) := by
  intro pins s σ H x y v u Q I rx ry h
  obtain ⟨d, ds, hd, he, sd, se, dd, q⟩ := h
  obtain ⟨as, r1⟩ := Dp.reads I d x v hd rx
  obtain ⟨bs, r2⟩ := Dp.reads I (.list ds) y u he ry
  exact SeqAt.in_list_reads r2 r1 (SeqAt.canLay_of_shaped se) (SeqAt.canLay_of_shaped sd) (by omega) ⟨.bl _, H, I, rfl, q⟩
theorem op_notInDL {X : Cx} (hu : X.A.units + 64 < cLine) : OpR X (compareOp .NotIn) (rInDL X.K true) := by
  intro pins s σ H x y v u Q I rx ry h
  obtain ⟨d, ds, hd, he, sd, se, dd, q⟩ := h
  obtain ⟨as, r1⟩ := Dp.reads I d x v hd rx
  obtain ⟨bs, r2⟩ := Dp.reads I (.list ds) y u he ry
  exact SeqAt.notIn_list_reads r2 r1 (SeqAt.canLay_of_shaped se) (SeqAt.canLay_of_shaped sd) (by omega) ⟨.bl _, H, I, rfl, q⟩
/-- a kind of points -/
class Kd (α : Type) where
  dec : DecidableEq α
  D : α → PyData
  lt : α → α → Bool
  inj : ∀ a b, D a = D b → a = b
  bar : ∀ a, bare (D a) = true
  lay : ∀ a, (D a).canLay0 = true
  dep : ∀ a, (D a).depth ≤ 1
  nol : ∀ a, noLst (D a) = true
  nn : ∀ a, D a ≠ PyData.none
  irr : ∀ a, lt a a = false
  tran : ∀ a b c, lt a b = true → lt b c = true → lt a c = true
  tri : ∀ a b, a ≠ b → lt a b = true ∨ lt b a = true
  less : ∀ {K : PySem.W.Frag} {H : Hp} {x y : V} {a b : α} {Q : VK}, Dp K H x (D a) → Dp K H y (D b) → Q (.bl (lt a b)) H → rLt2 K x y H Q
instance {α : Type} [k : Kd α] : DecidableEq α := k.dec
abbrev Pr := Int × Int
def prD (p : Pr) : PyData := .tuple [.int p.1, .int p.2]
def prLt (p q : Pr) : Bool := decide (p.1 < q.1 ∨ (p.1 = q.1 ∧ p.2 < q.2))
theorem pr_at {K : PySem.W.Frag} {H : Hp} {x : V} {p : Pr} (h : Dp K H x (prD p)) : ∃ r, x = .ref r ∧ SqT K H r [.int p.1, .int p.2] := by
  unfold prD at h
  cases h with
  | tup e hd =>
    cases hd with
    | cons h1 hd =>
      cases h1
      cases hd with
      | cons h2 hd =>
        cases h2
        cases hd
        exact ⟨_, rfl, e⟩
theorem pr_of {K : PySem.W.Frag} {H : Hp} {r : Addr} {p : Pr} (h : SqT K H r [.int p.1, .int p.2]) : Dp K H (.ref r) (prD p) := .tup h (.cons (.int _) (.cons (.int _) .nil))
theorem lex_pr (p q : Pr) : HT.lexLt [p.1, p.2] [q.1, q.2] = prLt p q := by
  unfold prLt
  rw [HT.lexLt_cons]
  by_cases h : p.1 = q.1
  · rw [if_pos h, HT.lexLt_cons]
    by_cases h2 : p.2 = q.2
    · rw [if_pos h2, HT.lexLt_nil_nil, decide_eq_false (by omega)]
    · rw [if_neg h2]
      exact decide_eq_decide.mpr ⟨fun z => .inr ⟨h, z⟩, fun z => by omega⟩
  · rw [if_neg h]
    exact decide_eq_decide.mpr ⟨fun z => .inl z, fun z => by omega⟩
instance : Kd Int where
  dec := inferInstance
  D := PyData.int
  lt a b := decide (a < b)
  inj a b h := by injection h
  bar a := by simp [bare]
  lay a := by simp [PyData.canLay0]
  dep a := by simp [PyData.depth]
  nol a := by simp [noLst]
  nn a := nofun
  irr a := by simp
  tran a b c h1 h2 := by simp at *; omega
  tri a b h := by simp; omega
  less h1 h2 q := by
    cases h1
    cases h2
    exact .inl (g_I0 q)
instance : Kd Pr where
  dec := inferInstance
  D := prD
  lt := prLt
  inj a b h := by
    unfold prD at h
    injection h with h
    simp only [List.cons.injEq, PyData.int.injEq] at h
    exact Prod.ext h.1 h.2.1
  bar a := by simp [prD, bare, bareAll]
  lay a := by simp [prD, PyData.canLay0, PyData.canLayAll0]
  dep a := by simp [prD, PyData.depth, PyData.depthAll]
  nol a := by simp [prD, noLst, noLstAll]
  nn a := nofun
  irr a := by simp [prLt]
  tran a b c h1 h2 := by simp [prLt] at *; omega
  tri a b h := by
    have : a.1 ≠ b.1 ∨ a.2 ≠ b.2 := by
      by_cases e : a.1 = b.1
      · exact .inr fun e2 => h (Prod.ext e e2)
      · exact .inl e
    simp [prLt]
    omega
  less h1 h2 q := by
    obtain ⟨r1, rfl, e1⟩ := pr_at h1
    obtain ⟨r2, rfl, e2⟩ := pr_at h2
    refine .inr ⟨r1, r2, [_, _], [_, _], rfl, rfl, e1, e2, ?_⟩
    rw [lex_pr]
    exact q
section
variable {α : Type} [Kd α] {K : PySem.W.Frag} {H H' : Hp} {Q : VK}
open Kd
theorem kd_lays (as : List α) : PyData.canLayAll0 (as.map D) = true := by
  induction as with
  | nil => simp [PyData.canLayAll0]
  | cons a as ih => simp [PyData.canLayAll0, lay a, ih]
theorem kd_shapes (as : List α) : SeqAt.shaped (.list (as.map D)) = true := by
  unfold SeqAt.shaped
  have h2 : PyData.depthAll (as.map D) ≤ 1 := depthAll_le fun x hx => by
    obtain ⟨n, _, rfl⟩ := List.mem_map.mp hx
    exact dep n
  have h3 : PyData.depthAll (as.map D) + 1 ≤ 64 := by omega
  simp [PyData.canLay0, PyData.depth, kd_lays as, h3]
theorem kd_bares (as : List α) : bare (.list (as.map D)) = true := by
  simp only [bare]
  exact bareAll_iff.mpr fun x hx => by
    obtain ⟨n, _, rfl⟩ := List.mem_map.mp hx
    exact bar n
theorem kd_injs : ∀ {as bs : List α}, as.map D = bs.map D → as = bs
  | [], [], _ => rfl
  | [], _ :: _, h => by simp at h
  | _ :: _, [], h => by simp at h
  | a :: as, b :: bs, h => by
    rw [List.map_cons, List.map_cons] at h
    injection h with h1 h2
    rw [inj a b h1, kd_injs h2]
theorem kd_eqvs (as bs : List α) : PyData.eqv (.list (as.map D)) (.list (bs.map D)) = decide (as = bs) := by
  by_cases h : as = bs
  · rw [decide_eq_true h, eqv_yes (kd_bares _) (kd_bares _) (by rw [h])]
  · rw [decide_eq_false h, eqv_no (kd_bares _) (kd_bares _) fun z => h (kd_injs (by injection z))]
theorem kd_nols (as : List α) : noLstAll (as.map D) = true := noLstAll_iff.mpr fun d hd => by
  obtain ⟨n, _, rfl⟩ := List.mem_map.mp hd
  exact nol n
/-- a list of points in the heap -/
def PtsL (K : PySem.W.Frag) (H : Hp) (p : Addr) (as : List α) : Prop := ∃ xs, H p = some (.lst xs) ∧ DpAll K H xs (as.map D)
theorem PtsL.same {p : Addr} {as : List α} (h : PtsL K H p as) (s : Same H H') : PtsL K H' p as := by
  obtain ⟨xs, e, d⟩ := h
  exact ⟨xs, s _ _ e, dp_sameAll s _ _ d⟩
theorem PtsL.dp {p : Addr} {as : List α} (h : PtsL K H p as) : Dp K H (.ref p) (.list (as.map D)) := by
  obtain ⟨xs, e, d⟩ := h
  exact .lst (SqL.of e) d
theorem ptsI {p : Addr} {ns : List Int} (h : H p = some (.lst (ns.map V.int))) : PtsL K H p ns := ⟨_, h, dpAll_ints ns⟩
theorem ptsI_of {p : Addr} {ns : List Int} (h : PtsL K H p ns) : H p = some (.lst (ns.map V.int)) := by
  obtain ⟨xs, e, d⟩ := h
  have : xs = ns.map V.int := by
    clear e
    induction ns generalizing xs with
    | nil => cases d; rfl
    | cons n ns ih =>
      cases d with
      | cons h1 d =>
        cases h1
        rw [ih _ d]
        rfl
  rw [this] at e
  exact e
theorem g_eqP {p q : Addr} {as bs : List α} (h1 : PtsL K H p as) (h2 : PtsL K H q bs) (k : Q (.bl (decide (as = bs))) H) : rEqD K (.ref p) (.ref q) H Q := by
  refine g_eqD h1.dp h2.dp (kd_shapes _) (kd_shapes _) ?_
  rw [kd_eqvs]
  exact k
theorem g_neP {p q : Addr} {as bs : List α} (h1 : PtsL K H p as) (h2 : PtsL K H q bs) (k : Q (.bl (!decide (as = bs))) H) : rNeD K (.ref p) (.ref q) H Q := by
  refine g_neD h1.dp h2.dp (kd_shapes _) (kd_shapes _) ?_
  rw [kd_eqvs]
  exact k
theorem pts_len {as : List α} {xs : List V} (d : DpAll K H xs (as.map D)) : xs.length = as.length := by
  rw [dpAll_len d, List.length_map]
/-- ascending -/
def Up (as : List α) : Prop := as.Pairwise fun a b => lt a b = true
/-- how many are less -/
def lessK (as : List α) (x : α) : Nat := (as.filter fun a => lt a x).length
end
end Gx

/-! The texts of whole numbers -/
namespace Gx
open PySem TL SX
abbrev numS (n : Int) : Str := Str.ofString (toString n)
/-- the signs of a whole number -/
def numI (n : Int) : List Nat := if n < 0 then 45 :: numL n.natAbs else numL n.natAbs
theorem tl_neg (m : Nat) : tl (numS (Int.negSucc m)) = 45 :: numL (m + 1) := by
  have e : toString (Int.negSucc m) = "-" ++ Nat.repr (m + 1) := rfl
  rw [tl_ofString, e, String.toList_append, List.map_append, Nat.toList_repr]
  rfl
theorem tl_numS (n : Int) : tl (numS n) = numI n := by
  unfold numI
  cases n with
  | ofNat m =>
    rw [if_neg (show ¬ Int.ofNat m < 0 from Int.not_lt.mpr (Int.natCast_nonneg m))]
    exact tl_num m
  | negSucc m =>
    rw [if_pos (Int.negSucc_lt_zero m)]
    exact tl_neg m
theorem numI_free {c : Nat} (h1 : c ≠ 45) (h2 : c < 48 ∨ 57 < c) (n : Int) : c ∉ numI n := by
  unfold numI
  split
  · intro h
    rcases List.mem_cons.mp h with e | h
    · exact h1 e
    · exact numL_free h2 h
  · exact numL_free h2
/-! ### joined texts -/
end Gx

/-! Errors whose __init__ calls the __init__ of an own class above it -/
namespace Gx
open PySem L2 PySem.Spec PyProof.Rows
section
variable {X : Cx} {e : Expr} {es : List Expr} {ta : TA} {x : Str} {LE : Addr} {mc : Value} {p1 p2 pos : Pos}
theorem pe_above {pl : Sem Bool} (hg : Gl X x) (hm : X.mg x = some (.ref LE)) (ga : PySem.W.specialIn X.K (.ref LE) "__getattribute__" = some (some (.builtin "type.__getattribute__"))) (rd : PySem.W.readsIn X.K LE mc = true)
    (fc : PySem.W.findCls X.K (.ref LE) mc "__init__" = some (.val (.builtin "ValueError.__init__"))) (ha : PA X (e :: es) ta) (hdb : (x == ("__debug__" : Str)) = false := by decide)
    (hc : eval (.Call (.Attribute (.Name x p1) "__init__" p2) (e :: es) [] pos) X.env = (do
      let cls ← eval (.Name x p1) X.env
      standAt p2.atName
      let (fn, fs1) ← holding [cls] (getMethod cls "__init__" pl)
      callWith pos fn fs1 (backTo pos (starEach (e :: es) X.env)) (backToKw pos (keywordEach [] X.env))) := by rfl)
    (he : starEach (e :: es) X.env = (false, eval e X.env) :: starEach es X.env := by rfl) (hpl : (backTo pos (starEach es X.env)).any (·.1) = false := by rfl) : PE X (.Call (.Attribute (.Name x p1) "__init__" p2) (e :: es) [] pos) (tVeI X.K ta) := by
  refine ⟨fun pins s σ H Q I h => ?_⟩
  refine PySem.W.methodCall_KW (ld_glob I hg hm ?_ hdb) hc
  refine PySem.W.method_cls I.kIn ga (PySem.W.cls_value I.kIn rd fc (by decide +kernel) ?_)
  show wpAny _ _ (callWith pos (Value.builtin "ValueError.__init__") [] (backTo pos (starEach (e :: es) X.env)) []) _ _ _
  refine PyProof.Rows.callWith_method1 (thn (ha.run pos pins _ σ H _ (I.tok _) h) fun us s1 got => ?_) he hpl
  obtain ⟨vs, H1, I1, r1, a, C, ws, rfl, hl, T, ea, q⟩ := got
  cases r1 with
  | @cons _ u0 _ ur ra rw' =>
    obtain rfl : u0 = Value.ref a := ra
    have few : ur.length ≤ sizeLine := by
      rw [← Paired.length rw', sizeLine_eq]
      omega
    exact oinit_ok T I1 ea few fun s' J => ⟨.non, H1, J, rfl, q⟩
theorem g_veI {K : PySem.W.Frag} {σ : L2.St} {H : Hp} {Q : VK} (q : ta σ H fun vs H1 => ∃ (a C : Addr) (ws : List V), vs = .ref a :: ws ∧ ws.length ≤ 1000 ∧ OexC K C ∧ H1 a = some (exo a C none) ∧ Q .non H1) : tVeI K ta σ H Q := q
theorem g_ost {K : PySem.W.Frag} {f : Str} {to te : TE} {D : Ends} {σ : L2.St} {H : Hp} (q : te σ H fun y H1 => to σ H1 fun x H2 => ∃ a C : Addr, x = .ref a ∧ OexC K C ∧ PySem.W.findIn K (.ref C) f = some none ∧
  ((H2 a = some (exo a C none) ∧ ∀ dx, H2 dx = none → dx ≠ a → D.nx σ (upd (upd H2 dx (exd dx [(f, y)])) a (exo a C (some dx)))) ∨
    ∃ (dx : Addr) (fs : List (Str × V)), H2 a = some (exo a C (some dx)) ∧ H2 dx = some (exd dx fs) ∧ fs.length ≤ 900 ∧ D.nx σ (upd H2 dx (exd dx ((f, y) :: fs))))) : tOst K f to te D σ H := q
end
end Gx

/-! The whole number that a text writes, if it writes one -/
namespace Gx
open PySem TL SX
def digs (a : List Nat) : List Nat := if a.take 1 = [45] then a.drop 1 else a
def isDig (c : Nat) : Bool := decide (48 ≤ c) && decide (c ≤ 57)
def goodI (a : List Nat) : Bool := (decide (1 ≤ (digs a).length) && decide ((digs a).length ≤ 60) && (digs a).all isDig) && !(decide ((digs a).head? = some 48) && !decide (a = [48]))
def valI (a : List Nat) : Int := if a.take 1 = [45] then -((NumText.digitsVal (a.drop 1) : Nat) : Int) else ((NumText.digitsVal a : Nat) : Int)
def readI (a : List Nat) : Option Int := if goodI a = true then some (valI a) else none
end Gx

/-! A table of the module: a word that it lacks -/
namespace Gx
open PySem L2
end Gx

/-! Requests, their texts: what needs no law's text -/
namespace Gk
open PySem L2 Gx SX TL
/-- numbers below 10 ** 60 -/
def In60 (n : Int) : Prop := n.natAbs < 1000000000000000000000000000000000000000000000000000000000000
/-- a request: its name, its numbers -/
abbrev Req := Str × List Int
def reqV (r : Req) : List V := .str r.1 :: r.2.map V.int
def reqD (r : Req) : PyData := .tuple (.str r.1 :: r.2.map PyData.int)
/-- a request that is no last one -/
def Open (r : Req) : Prop := (∀ n ∈ r.2, In60 n) ∧ (((r.1 = "read" ∨ r.1 = "read_values") ∧ ∃ a b, r.2 = [a, b] ∧ a ≤ b) ∨ (r.1 = "put" ∧ ∃ a b, r.2 = [a, b]) ∨ (r.1 = "erase" ∧ ∃ a, r.2 = [a]))
def Last (r : Req) : Prop := (r.1 = "end" ∨ r.1 = "abort") ∧ r.2 = []
section
variable {P : Program} {w : World} {K : PySem.W.Frag} {mg : Str → Option Value} {base : Heap} {aL aN aC : Addr} {eN eC : Array DictEntry} {mN mC : Nat}
theorem int_at {ns : List Int} {i : Nat} {x : V} (h : (ns.map V.int)[i]? = some x) : ∃ n, ns[i]? = some n ∧ x = .int n := by
  rw [List.getElem?_map] at h
  cases e : ns[i]? with
  | none =>
    rw [e] at h
    cases h
  | some n =>
    rw [e] at h
    exact ⟨n, rfl, (Option.some.inj h).symm⟩
def wordT (x : Str) : Str := if x = "read_values" then "values" else x
/-- the text of a request -/
def reqT (r : Req) : Str := Txt.join " " (wordT r.1 :: r.2.map numS)
/-- a request as it may be written -/
def Wri (r : Req) : Prop := (∀ n ∈ r.2, In60 n) ∧ r.2.length ≤ 2 ∧ (wordT r.1).length ≤ 10
def scriptT (rs : List Req) : Str := Txt.join "; " (rs.map reqT)
/-- a list of requests -/
abbrev RqL (K : PySem.W.Frag) (H : Hp) (l : Addr) (rs : List Req) : Prop := Dp K H (.ref l) (.list (rs.map reqD))
/-- the module's tables of words -/
structure Words (K : PySem.W.Frag) (w : World) (mg : Str → Option Value) (aL aN aC : Addr) (eN eC : Array DictEntry) (mN mC : Nat) : Prop where
  gl : ∃ u, mg "LAST" = some u ∧ RelV (.ref aL) u
  hl : ∀ H, SqT K H aL [.str "end", .str "abort"]
  gn : ∃ u, mg "NAMES" = some u ∧ RelV (.ref aN) u
  kn : KDict K w aN eN mN
  n1 : ∃ t, PySem.W.nsIn K aN "read" = some (some (.str "read" t))
  n2 : ∃ t, PySem.W.nsIn K aN "values" = some (some (.str "read_values" t))
  n3 : ∃ t, PySem.W.nsIn K aN "put" = some (some (.str "put" t))
  n4 : ∃ t, PySem.W.nsIn K aN "erase" = some (some (.str "erase" t))
  gc : ∃ u, mg "COUNTS" = some u ∧ RelV (.ref aC) u
  kc : KDict K w aC eC mC
  c1 : ∃ t, PySem.W.nsIn K aC "read" = some (some (.int 2 t))
  c2 : ∃ t, PySem.W.nsIn K aC "values" = some (some (.int 2 t))
  c3 : ∃ t, PySem.W.nsIn K aC "put" = some (some (.int 2 t))
  c4 : ∃ t, PySem.W.nsIn K aC "erase" = some (some (.int 1 t))
/-- what holds of a request that is no last one -/
structure OpenF (K : PySem.W.Frag) (aN aC : Addr) (r : Req) : Prop where
  nums : ∀ n ∈ r.2, In60 n
  few : r.2.length ≤ 2
  short : (wordT r.1).length ≤ 10
  f32 : 32 ∉ tl (wordT r.1)
  f59 : 59 ∉ tl (wordT r.1)
  last : inV (.str (wordT r.1)) [V.str "end", V.str "abort"] = false
  lastN : inV (.str r.1) [V.str "end", V.str "abort"] = false
  name : ∃ t, PySem.W.nsIn K aN (wordT r.1) = some (some (.str r.1 t))
  count : ∃ t, PySem.W.nsIn K aC (wordT r.1) = some (some (.int r.2.length t))
  rng : inV (.str (wordT r.1)) [V.str "read", V.str "values"] = true → ∃ a b, r.2 = [a, b] ∧ a ≤ b
theorem wf_read : (wordT "read").length ≤ 10 ∧ 32 ∉ tl (wordT "read") ∧ 59 ∉ tl (wordT "read") ∧ inV (.str (wordT "read")) [V.str "end", V.str "abort"] = false ∧ inV (.str "read") [V.str "end", V.str "abort"] = false := by decide +kernel
theorem wf_values : (wordT "read_values").length ≤ 10 ∧ 32 ∉ tl (wordT "read_values") ∧ 59 ∉ tl (wordT "read_values") ∧ inV (.str (wordT "read_values")) [V.str "end", V.str "abort"] = false ∧ inV (.str "read_values") [V.str "end", V.str "abort"] = false := by decide +kernel
theorem wf_put : (wordT "put").length ≤ 10 ∧ 32 ∉ tl (wordT "put") ∧ 59 ∉ tl (wordT "put") ∧ inV (.str (wordT "put")) [V.str "end", V.str "abort"] = false ∧ inV (.str "put") [V.str "end", V.str "abort"] = false ∧ inV (.str (wordT "put")) [V.str "read", V.str "values"] = false := by decide +kernel
theorem wf_erase : (wordT "erase").length ≤ 10 ∧ 32 ∉ tl (wordT "erase") ∧ 59 ∉ tl (wordT "erase") ∧ inV (.str (wordT "erase")) [V.str "end", V.str "abort"] = false ∧ inV (.str "erase") [V.str "end", V.str "abort"] = false ∧ inV (.str (wordT "erase")) [V.str "read", V.str "values"] = false := by decide +kernel
theorem openF (W : Words K w mg aL aN aC eN eC mN mC) {r : Req} (h : Open r) : OpenF K aN aC r := by
  obtain ⟨x, ns⟩ := r
  obtain ⟨hb, h⟩ := h
  rcases h with ⟨h | h, a, b, e, le⟩ | ⟨h, a, b, e⟩ | ⟨h, a, e⟩ <;> (simp only at h e hb; subst h e)
  · obtain ⟨a1, a2, a3, a4, a5⟩ := wf_read
    exact ⟨hb, Nat.le_refl 2, a1, a2, a3, a4, a5, W.n1, W.c1, fun _ => ⟨a, b, rfl, le⟩⟩
  · obtain ⟨a1, a2, a3, a4, a5⟩ := wf_values
    exact ⟨hb, Nat.le_refl 2, a1, a2, a3, a4, a5, W.n2, W.c2, fun _ => ⟨a, b, rfl, le⟩⟩
  · obtain ⟨a1, a2, a3, a4, a5, a6⟩ := wf_put
    exact ⟨hb, Nat.le_refl 2, a1, a2, a3, a4, a5, W.n3, W.c3, fun z => absurd (a6.symm.trans z) Bool.false_ne_true⟩
  · obtain ⟨a1, a2, a3, a4, a5, a6⟩ := wf_erase
    exact ⟨hb, Nat.le_succ 1, a1, a2, a3, a4, a5, W.n4, W.c4, fun z => absurd (a6.symm.trans z) Bool.false_ne_true⟩
structure LastF (r : Req) : Prop where
  none : r.2 = []
  word : wordT r.1 = r.1
  short : (wordT r.1).length ≤ 10
  f32 : 32 ∉ tl (wordT r.1)
  f59 : 59 ∉ tl (wordT r.1)
  last : inV (.str (wordT r.1)) [V.str "end", V.str "abort"] = true
  lastN : inV (.str r.1) [V.str "end", V.str "abort"] = true
theorem wl_end : wordT "end" = "end" ∧ (wordT "end").length ≤ 10 ∧ 32 ∉ tl (wordT "end") ∧ 59 ∉ tl (wordT "end") ∧ inV (.str (wordT "end")) [V.str "end", V.str "abort"] = true ∧ inV (.str "end") [V.str "end", V.str "abort"] = true := by decide +kernel
theorem wl_abort : wordT "abort" = "abort" ∧ (wordT "abort").length ≤ 10 ∧ 32 ∉ tl (wordT "abort") ∧ 59 ∉ tl (wordT "abort") ∧ inV (.str (wordT "abort")) [V.str "end", V.str "abort"] = true ∧ inV (.str "abort") [V.str "end", V.str "abort"] = true := by decide +kernel
theorem lastF {r : Req} (h : Last r) : LastF r := by
  obtain ⟨x, ns⟩ := r
  obtain ⟨h | h, e⟩ := h <;> (simp only at h e; subst h e)
  · obtain ⟨a1, a2, a3, a4, a5, a6⟩ := wl_end
    exact ⟨rfl, a1, a2, a3, a4, a5, a6⟩
  · obtain ⟨a1, a2, a3, a4, a5, a6⟩ := wl_abort
    exact ⟨rfl, a1, a2, a3, a4, a5, a6⟩
/-- a script: open requests, then a last one -/
structure Scr (rs : List Req) : Prop where
  ex : ∃ os l, rs = os ++ [l] ∧ (∀ r ∈ os, Open r) ∧ Last l ∧ os.length ≤ 7
theorem Scr.len {rs : List Req} (h : Scr rs) : rs.length ≤ 8 ∧ 0 < rs.length := by
  obtain ⟨os, l, rfl, _, _, h⟩ := h.ex
  rw [List.length_append]
  simp only [List.length_cons, List.length_nil]
  omega
theorem Scr.at_ {rs : List Req} (h : Scr rs) {i : Nat} {r : Req} (hi : rs[i]? = some r) : (i + 1 < rs.length ∧ Open r) ∨ (i + 1 = rs.length ∧ Last r) := by
  obtain ⟨os, l, rfl, ho, hl, h⟩ := h.ex
  rw [List.length_append]
  simp only [List.length_cons, List.length_nil]
  rcases Nat.lt_or_ge i os.length with c | c
  · rw [List.getElem?_append_left c] at hi
    exact .inl ⟨by omega, ho r (List.mem_of_getElem? hi)⟩
  · rw [List.getElem?_append_right c] at hi
    have lt : i - os.length < 1 := by
      rcases Nat.lt_or_ge (i - os.length) 1 with z | z
      · exact z
      · rw [List.getElem?_eq_none (by simpa using z)] at hi
        cases hi
    have e0 : i - os.length = 0 := by omega
    rw [e0] at hi
    obtain rfl := Option.some.inj hi
    exact .inr ⟨by omega, hl⟩
theorem wri (W : Words K w mg aL aN aC eN eC mN mC) {r : Req} (h : Open r ∨ Last r) : Wri r ∧ 59 ∉ tl (wordT r.1) := by
  rcases h with h | h
  · have o := openF W h
    exact ⟨⟨o.nums, o.few, o.short⟩, o.f59⟩
  · have o := lastF h
    exact ⟨⟨by rw [o.none]; exact nofun, by rw [o.none]; exact Nat.zero_le _, o.short⟩, o.f59⟩
theorem Scr.all {rs : List Req} (h : Scr rs) : ∀ r ∈ rs, Open r ∨ Last r := fun r hr => by
  obtain ⟨i, hi, e⟩ := List.getElem_of_mem hr
  rcases h.at_ (List.getElem?_eq_some_iff.mpr ⟨hi, e⟩) with ⟨_, q⟩ | ⟨_, q⟩
  · exact .inl q
  · exact .inr q
/-- the numbers of a request behind its word -/
def argsT (ns : List Int) : Str := S ((ns.map fun n => 32 :: numI n).flatten)
/-- what a word of a request is made of -/
structure WordF (r : Req) : Prop where
  nums : ∀ n ∈ r.2, In60 n
  few : r.2.length ≤ 2
  low : (tl (wordT r.1)).all (· < 128) = true
  ne : tl (wordT r.1) ≠ []
  short : (wordT r.1).length ≤ 10
  rep : (PySem.reprText r.1).length ≤ 100
  ok : PyData.strOk r.1 = true
theorem WordF.wri {r : Req} (h : WordF r) : Wri r := ⟨h.nums, h.few, h.short⟩
end
end Gk

/-! The request that any text writes, if it writes one -/
namespace Gk
open PySem L2 Gx SX TL
/-- a word of a request: its name, how many numbers -/
def nameOf (x : Str) : Option (Str × Nat) := if x = "read" then some ("read", 2) else if x = "values" then some ("read_values", 2) else if x = "put" then some ("put", 2) else if x = "erase" then some ("erase", 1) else none
def allI (as : List (List Nat)) : Option (List Int) := if (as.any fun a => (readI a).isNone) = true then none else some (as.filterMap readI)
def inOrder : List Int → Bool
  | a :: b :: _ => decide (a ≤ b)
  | _ => true
def reqOf (w : Str) (rest : List (List Nat)) : Option Req :=
  if w = "end" ∨ w = "abort" then (if rest = [] then some (w, []) else none)
  else match nameOf w, allI rest with
    | some (nm, c), some ns => if ns.length = c ∧ (w = "read" ∨ w = "values" → inOrder ns = true) then some (nm, ns) else none
    | _, _ => none
def reqI (a : List Nat) : Option Req := match spl [32] 0 [] a with
  | [] => none
  | w :: rest => reqOf (S w) rest
end Gk

/-! Lists of texts as data; a text among two -/
namespace Gx
open PySem L2
section
variable {K : PySem.W.Frag} {H : Hp}
end
end Gx
namespace Gk
open PySem L2 Gx SX TL
/-- all signs below 128 -/
def Low (a : List Nat) : Prop := ∀ c ∈ a, c < 128
/-- what the tables say of a word of a request -/
structure NameF (K : PySem.W.Frag) (aN aC : Addr) (z nm : Str) (c : Nat) : Prop where
  name : ∃ t, PySem.W.nsIn K aN z = some (some (.str nm t))
  count : ∃ t, PySem.W.nsIn K aC z = some (some (.int c t))
  two : (z = "read" ∨ z = "values") → c = 2
  le : c ≤ 2
end Gk

/-! Errors: defs that raise and are called, by place and by keyword; what is asked of a caught error; raising one with a place -/
namespace Gx
open PySem L2 PySem.Spec PyProof.Rows
/-- what an own class of errors says, so that a caught one may be asked -/
structure ErrC (K : PySem.W.Frag) (D : Addr) : Prop where
  cl : (PySem.W.clsIn K D).isSome = true
  hg : PySem.W.findIn K (.ref D) "__getattribute__" = some (some (.builtin "BaseException.__getattribute__"))
  hk : PySem.W.findIn K (.ref D) "__getattr__" = some none
  hs : PySem.W.subIn K (.ref D) (.type "BaseException") = some true
  hd : PySem.W.hasDictIn K D = true
  ha : PySem.W.findIn K (.ref D) "__class__" = some (some (.builtin "object.__class__"))
  hn : PySem.W.specialIn K (.builtin "object.__class__") "__get__" = some (some (.builtin "getset_descriptor.__get__"))
  ht : PySem.W.takesIn K (.builtin "object.__class__") = some true
  hm : PySem.W.mroIn K D (.type "object") = some true
/-- isinstance(e, c), e a caught error that has its dict -/
def rIsD (K : PySem.W.Frag) (a : Addr) (cls : Value) (d : Option Addr) : List V → Hp → VK → Prop := fun xs H Q => ∃ (D dd : Addr) (fs : List (Str × V)) (c : V) (b : Bool), xs = [.ref a, c] ∧ cls = .ref D ∧ d = some dd ∧ H dd = some (.xd fs) ∧ ErrC K D ∧
  ((∃ u, ClsV c u ∧ PySem.W.kitOne K (.ref D) u = some b) ∨ ∃ tp cs us, c = .ref tp ∧ H tp = some (.tup cs) ∧ Paired ClsV cs us ∧ PySem.W.kitAny K (.ref D) us = some b) ∧ Q (.bl b) H
theorem err_inst {X : Cx} {pins : List (Addr × Obj)} {σ : L2.St} {H : Hp} {s : Shared} {a D dd : Addr} {oe : Obj} {pn : List (Addr × Obj)} {fs : List (Str × V)} (I : Inv (X.suite a ((a, oe) :: pn)) pins σ H s) (hz : Zc (.ref D) (some dd) oe) (hf : ∃ vs, oe.data = .fields vs) (ed : H dd = some (.xd fs)) :
    ∃ (od : Obj) (mA : Str → Option Value), PySem.W.InstAt s.heap a oe D (some od) ∧ (∀ name, PySem.W.lookIn name od = some (mA name)) ∧ ∀ f, RelO (fs.lookup f) (mA f) := by
  obtain ⟨ha, _⟩ := I.pin (a, oe) (List.mem_append_left _ List.mem_cons_self)
  obtain ⟨vs, hd⟩ := hf
  have hx : ObjOk X.prog X.w H s.heap dd (.xd fs) := I.hok dd _ ed
  obtain ⟨mA, hns, hr⟩ := hx
  obtain ⟨od, ho, hl⟩ := lookIn_ns hns
  exact ⟨od, mA, ⟨ha, hz.1, by unfold PySem.W.notCls; rw [hd] <;> rfl, by rw [hz.2]; exact ho⟩, hl, hr⟩
/-- e.f, e a caught error -/
def tErr (K : PySem.W.Frag) (a : Addr) (cls : Value) (d : Option Addr) (f : Str) (te : TE) : TE := fun σ H Q => te σ H fun x H1 => x = .ref a ∧ ∃ (D dd : Addr) (fs : List (Str × V)) (v : V), cls = .ref D ∧ d = some dd ∧ H1 dd = some (.xd fs) ∧ fs.lookup f = some v ∧ ErrC K D ∧ PySem.W.findIn K (.ref D) f = some none ∧ Q v H1
theorem pe_err {X : Cx} {a : Addr} {oe : Obj} {cls : Value} {d : Option Addr} {pn : List (Addr × Obj)} {e : Expr} {te : TE} {f : Str} {pos : Pos} (hz : Zc cls d oe) (hf : ∃ vs, oe.data = .fields vs) (he : PE (X.suite a ((a, oe) :: pn)) e te)
    (hb : attributeBase e f X.env (eval e X.env) = eval e X.env := by rfl) : PE (X.suite a ((a, oe) :: pn)) (.Attribute e f pos) (tErr X.K a cls d f te) := by
  refine ⟨fun pins s σ H Q I h => ?_⟩
  refine attr_of hb (thn (he.run pins s σ H _ I h) fun u s1 hh => ?_)
  obtain ⟨x, H1, I1, rx, ex, D, dd, fs, v, ec, edd, ed, hl, C, no, q⟩ := hh
  subst ex
  obtain rfl : u = Value.ref a := rx
  subst ec
  subst edd
  obtain ⟨od, mA, J, lk, hr⟩ := err_inst I1 hz hf ed
  obtain ⟨u, hu, ru⟩ := RelO.some_of (v := v) (o := mA f) (by rw [← hl]; exact hr f)
  exact PySem.HandSPX.exc_get I1.kIn J C.hg C.hk C.hs (PySem.W.findObj_own C.hd no rfl (by rw [lk, hu])) (handed_of ru) ⟨v, H1, I1.tok _, ru, q⟩
section
variable {X : Cx} {e : Expr} {es : List Expr} {x : Str} {ta : TA} {p pos : Pos}
/-- a def that may raise, called by its name -/
structure CalX (P : Program) (w : World) (K : PySem.W.Frag) (mg : Str → Option Value) (base : Heap) (k : Nat) (x : Str) (sp : Sp) : Prop where
  ex : ∃ (f : Addr) (fd : FuncData) (ps : List Str), FnOk P w K mg base (L2.CX P w) k f fd ps sp ∧ mg x = some (.ref f) ∧ PySem.W.keepIn K (.ref f) = true ∧ Binds K fd ps []
theorem pe_cX {k j : Nat} {sp : Sp} {E : L2.St → XK} (c : CalX X.prog X.w X.K X.mg X.base k x sp) (hr : Room j X.A) (hk : k ≤ j) (hg : Gl X x) (hx : ∀ σ, PassesAt (L2.CX X.prog X.w) X σ (E σ)) (ha : PA X (e :: es) ta)
    (hdb : (x == ("__debug__" : Str)) = false := by decide) (he : starEach (e :: es) X.env = (false, eval e X.env) :: starEach es X.env := by rfl) (hpl : (backTo pos (starEach es X.env)).any (·.1) = false := by rfl) : PE X (.Call (.Name x p) (e :: es) [] pos) (tCallS sp E ta) := by
  obtain ⟨f, fd, ps, F, named, kept, b⟩ := c.ex
  exact pe_callS F (hr.mono hk) hg named kept b hx ha hdb he hpl
/-- .. with keywords alone -/
structure CalKX (P : Program) (w : World) (K : PySem.W.Frag) (mg : Str → Option Value) (base : Heap) (k : Nat) (x : Str) (ks : List Str) (gV : List V → List V → List V) (sp : Sp) : Prop where
  ex : ∃ (f : Addr) (fd : FuncData) (ps : List Str) (g : List Value → List Value → List Value), FnOk P w K mg base (L2.CX P w) k f fd ps sp ∧ mg x = some (.ref f) ∧ PySem.W.keepIn K (.ref f) = true ∧ KBinds K fd ps ks g gV
theorem run_fnkS {pins : List (Addr × Obj)} {σ : L2.St} {H : Hp} {s : Shared} {Q : VK} {us ws : List Value} {vs zs : List V} {CX : CXT} {k : Nat} {f : Addr} {fd : FuncData} {ps ks : List Str} {sp : Sp} {g : List Value → List Value → List Value} {gV : List V → List V → List V} {E : L2.St → XK}
    (F : FnOk X.prog X.w X.K X.mg X.base CX k f fd ps sp) (hr : Room k X.A) (hb : KBinds X.K fd ps ks g gV) (hx : PassesAt CX X σ (E σ))
    (I : Inv X pins σ H s) (r : Vals vs us) (rz : Vals zs ws) (h : sp (gV vs zs) H Q (E σ)) : wpAny (model X.prog X.w) X.A (call (.ref f) us (ks.zip ws)) (EP X pins σ Q) X.xe s := by
  have r2 := hb.rel r rz
  have hl : (g us ws).length = ps.length := by rw [← r2.length]; exact F.len _ _ _ _ h
  refine wpAny_call (codeAny_mono (F.run X.A X.stack s H ⟨us, ks.zip ws⟩ (g us ws) (gV vs zs) Q (E σ) hr I.env0 (hb.to s us ws I.kIn hl) r2 h) fun r s' hq => ?_)
  cases r with
  | error e => exact hx pins H s e s' I hq
  | ok fl =>
    cases fl with
    | ret u => exact I.after hq
    | next => exact False.elim hq
    | brk => exact False.elim hq
    | cont => exact False.elim hq
def tCallKX (sp : Sp) (gV : List V → List V → List V) (E : L2.St → XK) (tk : TA) : TE := fun σ H Q => tk σ H fun zs H2 => sp (gV [] zs) H2 Q (E σ)
theorem pe_cKX {k j : Nat} {ks : List Str} {gV : List V → List V → List V} {sp : Sp} {kws : List Keyword} {tk : TA} {E : L2.St → XK} (c : CalKX X.prog X.w X.K X.mg X.base k x ks gV sp) (hr : Room j X.A) (hk : k ≤ j) (hg : Gl X x) (hx : ∀ σ, PassesAt (L2.CX X.prog X.w) X σ (E σ)) (hkw : PK X kws tk)
    (hdb : (x == ("__debug__" : Str)) = false := by decide) (hall : (backToKw pos (keywordEach kws X.env)).all (·.1.isSome) = true := by rfl) (hks : (backToKw pos (keywordEach kws X.env)).filterMap (·.1) = ks := by rfl)
    (hpl : ((backTo pos (starEach [] X.env)).any (·.1) || (backToKw pos (keywordEach kws X.env)).any (·.1.isNone)) = false := by rfl) : PE X (.Call (.Name x p) [] kws pos) (tCallKX sp gV E tk) := by
  obtain ⟨f, fd, ps, g, F, named, kept, kb⟩ := c.ex
  refine ⟨fun pins s σ H Q I h => wpAny_Call_Name_kw (ld_glob I hg named ?_ hdb)⟩
  refine PySem.W.callWith_KW0 (h₀ := X.base) I.ok.mod.kin kept hall (thn (hkw.run pos pins s σ H _ I h) fun ws s2 got => ?_) hpl
  obtain ⟨zs, H2, I2, rz, q2⟩ := got
  refine ⟨I2.kIn, ?_⟩
  rw [hks]
  exact run_fnkS (us := []) (vs := []) F (hr.mono hk) kb (hx σ) I2 .nil rz q2
end
/-- membership in a tuple of data -/
def rInDT (K : PySem.W.Frag) : R2 := fun x y H Q => ∃ d ds, Dp K H x d ∧ Dp K H y (.tuple ds) ∧ SeqAt.shaped d = true ∧ SeqAt.shaped (.tuple ds) = true ∧ d.depth ≤ 60 ∧ Q (.bl (ds.any fun z => PyData.eqv z d)) H
section
variable {σ : L2.St} {H : Hp} {Q : VK} {K : PySem.W.Frag} {ta tk : TA} {te : TE} {D : Ends}
theorem g_cX {sp : Sp} {E : L2.St → XK} (q : ta σ H fun vs H1 => sp vs H1 Q (E σ)) : tCallS sp E ta σ H Q := q
theorem g_cKX {sp : Sp} {gV : List V → List V → List V} {E : L2.St → XK} (q : tk σ H fun zs H2 => sp (gV [] zs) H2 Q (E σ)) : tCallKX sp gV E tk σ H Q := q
theorem g_err {a : Addr} {cls : Value} {d : Option Addr} {f : Str} (q : te σ H fun x H1 => x = .ref a ∧ ∃ (D dd : Addr) (fs : List (Str × V)) (v : V), cls = .ref D ∧ d = some dd ∧ H1 dd = some (.xd fs) ∧ fs.lookup f = some v ∧ ErrC K D ∧ PySem.W.findIn K (.ref D) f = some none ∧ Q v H1) : tErr K a cls d f te σ H Q := q
end
end Gx

/-! Methods of one of several classes that may raise; raising an own error made with a text -/
namespace Gx
open PySem L2 PySem.Spec PyProof.Rows
open C8 (Cal Met Mak)
structure MetF (P : Program) (w : World) (K : PySem.W.Frag) (mg : Str → Option Value) (base : Heap) (CX : CXT) (k : Nat) (S : Addr → Prop) (m : Str) (sp : Addr → Sp) : Prop where
  ex : ∀ C, S C → ∃ (f : Addr) (fd : FuncData) (ps : List Str), Cls K C ∧ Meth K C m f ∧ FnOk P w K mg base CX k f fd ps (sp C) ∧ Binds K fd ps []
def tMethF (S : Addr → Prop) (m : Str) (sp : Addr → Sp) (E : L2.St → XK) (ta : TE) (t : TA) : TE := fun σ H Q => ta σ H fun x H1 => ∃ a C dx fs, x = .ref a ∧ H1 a = some (.ins C dx fs) ∧ S C ∧ fs.lookup m = none ∧ t σ H1 fun vs H2 => sp C (.ref a :: vs) H2 Q (E σ)
section
variable {X : Cx} {CX : CXT} {k j : Nat} {S : Addr → Prop} {m : Str} {sp : Addr → Sp} {E : L2.St → XK} {pos apos : Pos} {e o : Expr} {es : List Expr} {ta : TE} {t : TA}
structure MetKF (P : Program) (w : World) (K : PySem.W.Frag) (mg : Str → Option Value) (base : Heap) (CX : CXT) (k : Nat) (S : Addr → Prop) (m : Str) (ks : List Str) (gV : List V → List V → List V) (sp : Addr → Sp) : Prop where
  ex : ∀ C, S C → ∃ (f : Addr) (fd : FuncData) (ps : List Str) (g : List Value → List Value → List Value), Cls K C ∧ Meth K C m f ∧ FnOk P w K mg base CX k f fd ps (sp C) ∧ KBinds K fd ps ks g gV
def tMethKF (S : Addr → Prop) (m : Str) (sp : Addr → Sp) (gV : List V → List V → List V) (E : L2.St → XK) (ta : TE) (tk : TA) : TE := fun σ H Q => ta σ H fun x H1 => ∃ a C dx fs, x = .ref a ∧ H1 a = some (.ins C dx fs) ∧ S C ∧ fs.lookup m = none ∧ tk σ H1 fun zs H2 => sp C (gV [.ref a] zs) H2 Q (E σ)
structure PropF (P : Program) (w : World) (K : PySem.W.Frag) (mg : Str → Option Value) (base : Heap) (k : Nat) (S : Addr → Prop) (f : Str) (sp : Addr → Sp) : Prop where
  ex : ∀ C, S C → PropR P w K mg base k C f (sp C)
def tPropF (S : Addr → Prop) (sp : Addr → Sp) (ta : TE) : TE := fun σ H Q => ta σ H fun x H1 => ∃ a C dx fs, x = .ref a ∧ H1 a = some (.ins C dx fs) ∧ S C ∧ sp C [.ref a] H1 Q (fun _ _ _ => False)
def rOwnF (S : Addr → Prop) (sp : Addr → Sp) (neg : Bool) : R2 := fun y x H Q => ∃ a C dx fs, x = .ref a ∧ H a = some (.ins C dx fs) ∧ S C ∧ sp C [.ref a, y] H (fun r H' => ∃ b, r = .bl b ∧ Q (.bl (if neg = true then !b else b)) H') (fun _ _ _ => False)
/-- an own class of errors that may be raised with a text -/
structure OwnE (K : PySem.W.Frag) (mg : Str → Option Value) (x : Str) (C : Addr) : Prop where
  named : mg x = some (.ref C)
  shape : PySem.W.excIn K C [.type "ValueError", .type "Exception", .type "BaseException", .type "object"] "ValueError.__new__" = true
  kept : PySem.W.keepIn K (.ref C) = true
  under : PySem.W.subIn K (.ref C) (.type "BaseException") = some true
  typed : PySem.W.typeIn K (.ref C) = some (.type "type")
def tOwn (C : Addr) (W : WX) : TS := fun _ σ H => W (.ref C) none σ H
end
section
variable {σ : L2.St} {H : Hp} {Q : VK} {S : Addr → Prop} {m : Str} {sp : Addr → Sp} {ta : TE} {t : TA} {a C dx : Addr} {fs : List (Str × V)} {E : L2.St → XK}
def MethFQ (S : Addr → Prop) (m : Str) (sp : Addr → Sp) (E : L2.St → XK) (t : TA) (σ : L2.St) (x : V) (H : Hp) (Q : VK) : Prop := ∃ a C dx fs, x = .ref a ∧ H a = some (.ins C dx fs) ∧ S C ∧ fs.lookup m = none ∧ t σ H fun vs H2 => sp C (.ref a :: vs) H2 Q (E σ)
theorem g_tmethF (q : ta σ H fun x H1 => MethFQ S m sp E t σ x H1 Q) : tMethF S m sp E ta t σ H Q := q
def MethKFQ (S : Addr → Prop) (m : Str) (sp : Addr → Sp) (gV : List V → List V → List V) (E : L2.St → XK) (t : TA) (σ : L2.St) (x : V) (H : Hp) (Q : VK) : Prop := ∃ a C dx fs, x = .ref a ∧ H a = some (.ins C dx fs) ∧ S C ∧ fs.lookup m = none ∧ t σ H fun zs H2 => sp C (gV [.ref a] zs) H2 Q (E σ)
theorem g_tmethKF {gV : List V → List V → List V} (q : ta σ H fun x H1 => MethKFQ S m sp gV E t σ x H1 Q) : tMethKF S m sp gV E ta t σ H Q := q
def PropFQ (S : Addr → Prop) (sp : Addr → Sp) (x : V) (H : Hp) (Q : VK) : Prop := ∃ a C dx fs, x = .ref a ∧ H a = some (.ins C dx fs) ∧ S C ∧ sp C [.ref a] H Q (fun _ _ _ => False)
theorem g_tpropF (q : ta σ H fun x H1 => PropFQ S sp x H1 Q) : tPropF S sp ta σ H Q := q
theorem g_ownE {C : Addr} {W : WX} {D : Ends} (q : W (.ref C) none σ H) : tOwn C W D σ H := q
end
end Gx

/-! What an object is to a line: a point of its kind or not; lines in the heap; what a range meets -/
namespace Gx
open PySem L2 PySem.Spec PyProof.Rows
theorem g_iteNF {c : Prop} [Decidable c] {A B : Prop} (h : c) (q : B) : if (!decide c) = true then A else B := g_ifF (by rw [decide_eq_true h]; rfl) q
theorem g_iteNT {c : Prop} [Decidable c] {A B : Prop} (h : ¬ c) (q : A) : if (!decide c) = true then A else B := g_ifT (by rw [decide_eq_false h]; rfl) q
section
variable {K : PySem.W.Frag} {H H' : Hp}
theorem tyO_same {x : V} {t : Value} (s : Same H H') (h : TyOf K H x t) : TyOf K H' x t := by
  cases h with
  | non => exact .non
  | bl b => exact .bl b
  | int i => exact .int i
  | str a => exact .str a
  | flt a => exact .flt a
  | lst e => exact .lst (s _ _ e)
  | frz e => exact .frz (s _ _ e)
  | tup e => exact .tup (s _ _ e)
  | dK e => exact .dK (s _ _ e)
  | dT e => exact .dT (s _ _ e)
  | ins e c a b d m => exact .ins (s _ _ e) c a b d m
theorem tyX_same {x : V} {t : Value} (s : Same H H') (h : TyX K H x t) : TyX K H' x t := by
  cases h with
  | base h => exact .base (tyO_same s h)
  | byt b => exact .byt b
  | set e => exact .set (s _ _ e)
  | kList e c => exact .kList e c
  | kTuple e c => exact .kTuple e c
  | kDict e c => exact .kDict e c
  | fTuple e => exact .fTuple (s _ _ e)
  | fDict e => exact .fDict (s _ _ e)
theorem whole_same {x : V} {b : Bool} (s : Same H H') (h : WholeV K H x b) : WholeV K H' x b := by
  cases h with
  | int i => exact .int i
  | bl c => exact .bl c
  | other ty no => exact .other (tyX_same s ty) no
theorem sqT_ty {a : Addr} {xs : List V} (h : SqT K H a xs) : TyX K H (.ref a) (.type "tuple") := by
  rcases h with h | ⟨o, its, n, e, c, _⟩
  · rcases h with h | ⟨o, h⟩
    · exact .base (.tup h)
    · exact .fTuple h
  · exact .kTuple e c
/-- is it a tuple of two whole numbers -/
inductive PairV (K : PySem.W.Frag) (H : Hp) : V → Bool → Prop
  | other {x : V} {t : Value} (ty : TyX K H x t) (no : PySem.W.kitOne K t (.type "tuple") = some false) : PairV K H x false
  | tup {r : Addr} {xs : List V} {bs : List Bool} (e : SqT K H r xs) (l : xs.length = bs.length) (w : ∀ (i : Nat) x b, xs[i]? = some x → bs[i]? = some b → WholeV K H x b) : PairV K H (.ref r) (decide (xs.length = 2) && bs.all id)
theorem pair_same {x : V} {b : Bool} (s : Same H H') (h : PairV K H x b) : PairV K H' x b := by
  cases h with
  | other ty no => exact .other (tyX_same s ty) no
  | tup e l w => exact .tup (same_sqT s e) l fun i x b h1 h2 => whole_same s (w i x b h1 h2)
end
/-- a kind of points, as lines know it -/
class Ln (α : Type) extends Kd α where
  pv : PySem.W.Frag → Hp → V → Bool → Prop
  pv_same : ∀ {K H H' x b}, Same H H' → pv K H x b → pv K H' x b
  pv_ok : ∀ {K H x} {a : α}, Dp K H x (D a) → pv K H x true
  ahead : α → Int → Bool
  beyond : α → Int → Bool
  gap : Option α → Option α → Int → Int → Bool
def gapV (l r : Option Pr) (lo hi : Int) : Bool := match l, r with
  | some a, some b => if a.1 = b.1 then decide (lo ≤ a.1 ∧ a.1 ≤ hi) && decide (1 < b.2 - a.2) else decide (a.1 ≤ hi) && decide (lo ≤ b.1)
  | none, some b => decide (lo ≤ b.1)
  | some a, none => decide (a.1 ≤ hi)
  | none, none => true
instance : Ln Int where
  pv := WholeV
  pv_same := whole_same
  pv_ok h := by
    cases h
    exact .int _
  ahead a lo := decide (a < lo)
  beyond a hi := decide (hi < a)
  gap := gapIn
instance : Ln Pr where
  pv := PairV
  pv_same := pair_same
  pv_ok h := by
    obtain ⟨r, rfl, e⟩ := pr_at h
    exact .tup (bs := [true, true]) e rfl fun i x b h1 h2 => by
      match i, h1, h2 with
      | 0, h1, h2 => cases (Option.some.inj h1); cases (Option.some.inj h2); exact .int _
      | 1, h1, h2 => cases (Option.some.inj h1); cases (Option.some.inj h2); exact .int _
      | n + 2, h1, h2 => simp at h1
  ahead a lo := decide (a.1 < lo)
  beyond a hi := decide (hi < a.1)
  gap := gapV
section
variable {α : Type} [Ln α] {K : PySem.W.Frag} {H H' : Hp}
open Kd
/-- a line of the class at C with these points -/
def LnAt (K : PySem.W.Frag) (C : Addr) (H : Hp) (p : Addr) (as : List α) : Prop := ∃ dx q, H p = some (.ins C dx (lf q)) ∧ PtsL K H q as
theorem LnAt.same {C p : Addr} {as : List α} (h : LnAt K C H p as) (s : Same H H') : LnAt K C H' p as := by
  obtain ⟨dx, q, e, l⟩ := h
  exact ⟨dx, q, s _ _ e, l.same s⟩
/-- .. of one of some classes -/
def LnS (K : PySem.W.Frag) (S : Addr → Prop) (H : Hp) (p : Addr) (as : List α) : Prop := ∃ C, S C ∧ LnAt K C H p as
theorem LnS.same {S : Addr → Prop} {p : Addr} {as : List α} (h : LnS K S H p as) (s : Same H H') : LnS K S H' p as := by
  obtain ⟨C, hC, l⟩ := h
  exact ⟨C, hC, l.same s⟩
/-- None or a point -/
def oK : Option α → PyData
  | none => .none
  | some a => D a
theorem nol_o (o : Option α) : noLst (oK o) = true := by
  cases o with
  | none => simp [oK, noLst]
  | some a => exact nol a
def gapK (l r : Option α) : PyData := .tuple [.str "gap", oK l, oK r]
def pointK (y : α) : PyData := .tuple [.str "point", D y]
def inK (y : α) (lo hi : Int) : Bool := !Ln.ahead y lo && !Ln.beyond y hi
def ptStepK (lo hi : Int) : Option α → List PyData
  | none => []
  | some y => if inK y lo hi = true then [pointK y] else []
def stepK (lo hi : Int) (l r : Option α) : List PyData := (if Ln.gap l r lo hi = true then [gapK l r] else []) ++ ptStepK lo hi r
def foldK (lo hi : Int) (s : Option α × List PyData) (r : Option α) : Option α × List PyData := (r, s.2 ++ stepK lo hi s.1 r)
def rightsK (as : List α) : List (Option α) := as.map some ++ [none]
def cellsK (as : List α) (lo hi : Int) : List PyData := ((rightsK as).foldl (foldK lo hi) (none, [])).2
theorem nol_gapK (l r : Option α) : noLst (gapK l r) = true := by
  simp [gapK, noLst, noLstAll, nol_o]
theorem nol_pointK (y : α) : noLst (pointK y) = true := by
  simp [pointK, noLst, noLstAll, nol]
end
section
variable {K : PySem.W.Frag} {H H' : Hp}
/-- an object that is no list and no tuple is changed: data stays -/
def Odd (o : HO) : Prop := (∀ xs, o ≠ .lst xs) ∧ (∀ xs, o ≠ .tup xs) ∧ ∀ ob u, o ≠ .frz ob u
theorem sqL_odd {p a : Addr} {o : HO} {xs : List V} (hp : H p = some o) (no : Odd o) (b : But p H H') (h : SqL K H a xs) : SqL K H' a xs := by
  rcases h with (h | ⟨ob, h⟩) | h
  · exact .inl (.inl (b a _ (ne_of h hp (fun z => no.1 _ z.symm)) h))
  · exact .inl (.inr ⟨ob, b a _ (ne_of h hp (fun z => no.2.2 _ _ z.symm)) h⟩)
  · exact .inr h
theorem sqT_odd {p a : Addr} {o : HO} {xs : List V} (hp : H p = some o) (no : Odd o) (b : But p H H') (h : SqT K H a xs) : SqT K H' a xs := by
  rcases h with (h | ⟨ob, h⟩) | h
  · exact .inl (.inl (b a _ (ne_of h hp (fun z => no.2.1 _ z.symm)) h))
  · exact .inl (.inr ⟨ob, b a _ (ne_of h hp (fun z => no.2.2 _ _ z.symm)) h⟩)
  · exact .inr h
mutual
theorem dp_odd {p : Addr} {o : HO} (hp : H p = some o) (no : Odd o) (b : But p H H') : ∀ (d : PyData) (v : V), Dp K H v d → Dp K H' v d
  | .none, _, h => by cases h; exact .non
  | .bool c, _, h => by cases h; exact .bl c
  | .int i, _, h => by cases h; exact .int i
  | .str x, _, h => by cases h; exact .str x
  | .list ds, _, h => by
    cases h with
    | lst a c => exact .lst (sqL_odd hp no b a) (dp_oddAll hp no b ds _ c)
  | .dict _, _, h => by cases h
  | .tuple ds, _, h => by
    cases h with
    | tup a c => exact .tup (sqT_odd hp no b a) (dp_oddAll hp no b ds _ c)
theorem dp_oddAll {p : Addr} {o : HO} (hp : H p = some o) (no : Odd o) (b : But p H H') : ∀ (ds : List PyData) (vs : List V), DpAll K H vs ds → DpAll K H' vs ds
  | [], _, h => by cases h; exact .nil
  | d :: ds, _, h => by
    cases h with
    | cons a c => exact .cons (dp_odd hp no b d _ a) (dp_oddAll hp no b ds _ c)
end
end
end Gx

set_option maxHeartbeats 1000000
/-! set(xs), sorted(s), sorted(xs) of lists of points of either kind -/
namespace Gx
open PySem L2 PySem.Spec PyProof.Rows
def rSetAny (K : PySem.W.Frag) (P : Program) (w : World) : List V → Hp → VK → Prop := fun xs H Q => rSetOfI K w xs H Q ∨ rSetOfB K P w xs H Q
def rSortAny (K : PySem.W.Frag) (P : Program) (w : World) : List V → Hp → VK → Prop := fun xs H Q => rSortedI K xs H Q ∨ rSortedPO K xs H Q ∨ rSortedJ w xs H Q ∨ rSortedB K P w xs H Q
theorem cr_setAny {X : Cx} {j : Nat} (hc : X.calm = true) (hr : Room j X.A) : CallR X (.type "set") (rSetAny X.K X.prog X.w) := by
  intro pins s σ H xs us Q I rel h
  rcases h with h | h
  · exact cr_setOfI hc hr pins s σ H xs us Q I rel h
  · exact cr_setOfB hc hr pins s σ H xs us Q I rel h
theorem cr_sortAny {X : Cx} (hc : X.calm = true) : CallR X (.builtin "sorted") (rSortAny X.K X.prog X.w) := by
  intro pins s σ H xs us Q I rel h
  rcases h with h | h | h | h
  · exact cr_sortedI pins s σ H xs us Q I rel h
  · exact cr_sortedPO pins s σ H xs us Q I rel h
  · exact cr_sortedJ hc pins s σ H xs us Q I rel h
  · exact cr_sortedB hc pins s σ H xs us Q I rel h
/-- a kind of points of which sets are made -/
class Sk (α : Type) extends Ln α where
  /-- a set of these stands at a -/
  setP : PySem.W.Frag → Program → World → Hp → Addr → List α → Prop
  mkS : ∀ {K : PySem.W.Frag} {P : Program} {w : World} {H : Hp} {l : Addr} {as : List α} {Q : VK}, PtsL K H l as → as.length ≤ 2000 → (∀ a H', H a = none → Same H H' → setP K P w H' a as → Q (.ref a) H') → rSetAny K P w [.ref l] H Q
  srt : ∀ {K : PySem.W.Frag} {P : Program} {w : World} {H : Hp} {a : Addr} {as : List α} {Q : VK}, setP K P w H a as → (∀ (bs : List α) p H', Up bs → (∀ x, x ∈ bs ↔ x ∈ as) → bs.length ≤ as.length → H p = none → Same H H' → PtsL K H' p bs → Q (.ref p) H') → rSortAny K P w [.ref a] H Q
theorem up_nodup {α : Type} [Kd α] {bs : List α} (h : Up bs) : bs.Nodup := h.imp fun {a b} l e => by
  rw [e, Kd.irr] at l
  cases l
/-- a list without doubles of things of another one is no longer -/
theorem nodup_le {α : Type} [DecidableEq α] : ∀ {bs as : List α}, bs.Nodup → (∀ x ∈ bs, x ∈ as) → bs.length ≤ as.length
  | [], _, _, _ => Nat.zero_le _
  | b :: bs, as, nd, sub => by
    obtain ⟨n1, n2⟩ := List.nodup_cons.mp nd
    have hb := sub b List.mem_cons_self
    have ih := nodup_le (bs := bs) (as := as.erase b) n2 fun x hx => (List.mem_erase_of_ne (fun (e : x = b) => n1 (by rw [← e]; exact hx))).mpr (sub x (List.mem_cons_of_mem _ hx))
    have e := List.length_erase_of_mem hb
    have pos : 0 < as.length := List.length_pos_of_mem hb
    rw [List.length_cons]
    omega
instance : Sk Int where
  setP K P w H a as := ∃ M n, H a = some (SetO w a M n) ∧ (∀ k, M k = true ↔ k ∈ as) ∧ n ≤ as.length
  mkS := fun {K P w H l as Q} h few k => .inl (g_setI (SqL.of (ptsI_of h)) (by omega) fun a M n H' ha S e m ln => k a H' ha S ⟨M, n, e, m, ln⟩)
  srt := fun {K P w H a as Q} h k => by
    obtain ⟨M, n, e, m, ln⟩ := h
    refine .inr (.inr (.inl ⟨a, M, n, rfl, e, fun ns p up mem len hp => ?_⟩))
    exact k ns p _ (up.imp fun {a b} z => decide_eq_true z) (fun x => (mem x).trans (m x)) (by omega) hp (same_new hp) (ptsI upd_same)
/-- the references of a list of pairs, with what they stand for -/
theorem pairs_keys {K : PySem.W.Frag} {H : Hp} : ∀ {xs : List V} {as : List Pr}, DpAll K H xs (as.map Kd.D) → ∃ ks : List (Addr × List Int), xs = ks.map (fun p => V.ref p.1) ∧ (∀ p ∈ ks, p.2.length = 2 ∧ SqT K H p.1 (p.2.map V.int)) ∧ ks.map (fun p => pr2 p.2) = as
  | _, [], d => by cases d; exact ⟨[], rfl, (fun p h => by cases h), rfl⟩
  | _, a :: as, d => by
    cases d with
    | cons h d =>
      obtain ⟨ks, e1, e2, e3⟩ := pairs_keys d
      obtain ⟨r, rfl, e⟩ := pr_at h
      refine ⟨(r, [a.1, a.2]) :: ks, by rw [e1]; rfl, fun p hp => ?_, by rw [List.map_cons, e3]; rfl⟩
      rcases List.mem_cons.mp hp with z | z
      · rw [z]
        exact ⟨rfl, e⟩
      · exact e2 p z
theorem keys_pairs {K : PySem.W.Frag} {H : Hp} : ∀ {ks : List (Addr × List Int)}, (∀ p ∈ ks, p.2.length = 2 ∧ SqT K H p.1 (p.2.map V.int)) → DpAll K H (ks.map fun p => V.ref p.1) ((ks.map fun p => pr2 p.2).map (Kd.D (α := Pr)))
  | [], _ => .nil
  | p :: ks, h => by
    refine .cons ?_ (keys_pairs fun q hq => h q (List.mem_cons_of_mem _ hq))
    obtain ⟨l, t⟩ := h p List.mem_cons_self
    obtain ⟨b, k⟩ := p
    match k, l, t with
    | [x, y], _, t => exact pr_of t
theorem ltPr_eq (p q : Pr) : ltPr p q = Kd.lt p q := by
  show SrtO.lexB p q = prLt p q
  unfold prLt
  cases h : SrtO.lexB p q with
  | true => exact (decide_eq_true (SrtO.lexB_iff.mp h)).symm
  | false => exact (decide_eq_false (SrtO.lexB_no.mp h)).symm
instance : Sk Pr where
  setP K P w H a as := ∃ L, H a = some (SetBO P w a L) ∧ (∀ p ∈ L, p.2.length = 2 ∧ SqT K H p.1 (p.2.map V.int)) ∧ (∀ x, x ∈ L.map (fun p => pr2 p.2) ↔ x ∈ as)
  mkS := fun {K P w H l as Q} h few k => by
    obtain ⟨xs, e, d⟩ := h
    have ln := pts_len d
    obtain ⟨ks, rfl, tu, ek⟩ := pairs_keys d
    refine .inr ⟨l, ks, rfl, SqL.of e, fun p hp => (tu p hp).2, by rw [List.length_map] at ln; omega, fun a L ha sub all uni => ?_⟩
    refine k a _ ha (same_new ha) ⟨L, upd_same, fun p hp => ?_, fun x => ?_⟩
    · obtain ⟨l2, t⟩ := tu p (sub p hp)
      exact ⟨l2, same_sqT (same_new ha) t⟩
    · rw [← ek, List.mem_map, List.mem_map]
      constructor
      · rintro ⟨p, hp, e⟩
        exact ⟨p, sub p hp, e⟩
      · rintro ⟨p, hp, e⟩
        obtain ⟨q, hq, e2⟩ := List.mem_map.mp (all p hp)
        exact ⟨q, hq, by rw [show q.2 = p.2 from e2]; exact e⟩
  srt := fun {K P w H a as Q} h k => by
    obtain ⟨L, e, tu, mem⟩ := h
    refine .inr (.inr (.inr ⟨a, L, rfl, e, tu, fun L' p perm up hp => ?_⟩))
    have tu' : ∀ q ∈ L', q.2.length = 2 ∧ SqT K (upd H p (.lst (L'.map fun q => V.ref q.1))) q.1 (q.2.map V.int) := fun q hq => by
      obtain ⟨l2, t⟩ := tu q (perm.mem_iff.mp hq)
      exact ⟨l2, same_sqT (same_new hp) t⟩
    have u : Up (L'.map fun q => pr2 q.2) := List.pairwise_map.mpr (up.imp fun {x y} z => by rw [← ltPr_eq]; exact z)
    have m : ∀ x, x ∈ L'.map (fun q => pr2 q.2) ↔ x ∈ as := fun x => by
      rw [← mem x]
      exact (perm.map _).mem_iff
    exact k _ p _ u m (nodup_le (up_nodup u) fun x hx => (m x).mp hx) hp (same_new hp) ⟨_, upd_same, keys_pairs tu'⟩
end Gx

/-! > of points of either kind -/
namespace Gx
open PySem L2 PySem.Spec PyProof.Rows
def rGtP (K : PySem.W.Frag) : R2 := fun x y H Q => ∃ (a b : Addr) (p q : Pr), x = .ref a ∧ y = .ref b ∧ SqT K H a [.int p.1, .int p.2] ∧ SqT K H b [.int q.1, .int q.2] ∧ Q (.bl (prLt q p)) H
def rGt2 (K : PySem.W.Frag) : R2 := fun x y H Q => rI0 (fun i j => .bl (decide (j < i))) x y H Q ∨ rGtP K x y H Q
class Gr (α : Type) extends Sk α where
  more : ∀ {K : PySem.W.Frag} {H : Hp} {x y : V} {a b : α} {Q : VK}, Dp K H x (D a) → Dp K H y (D b) → Q (.bl (lt b a)) H → rGt2 K x y H Q
instance : Gr Int where
  more h1 h2 q := by
    cases h1
    cases h2
    exact .inl (g_I0 q)
instance : Gr Pr where
  more h1 h2 q := by
    obtain ⟨r1, rfl, e1⟩ := pr_at h1
    obtain ⟨r2, rfl, e2⟩ := pr_at h2
    exact .inr ⟨r1, r2, _, _, rfl, rfl, e1, e2, q⟩
end Gx

/-! Lists of points: made, joined, cut, walked; neighbours by filters -/
namespace Gx
open PySem L2 PySem.Spec PyProof.Rows
theorem passN {X : Cx} : ∀ σ, PassesAt (L2.CX X.prog X.w) X σ (fun _ _ _ => False) := fun σ pins H s e s' I h => passL pins σ H s e s' I h
theorem dpTake {K : PySem.W.Frag} {H : Hp} {xs : List V} {ds : List PyData} (d : DpAll K H xs ds) : ∀ n, DpAll K H (xs.take n) (ds.take n) := by
  intro n
  induction n generalizing xs ds with
  | zero => exact .nil
  | succ n ih =>
    cases d with
    | nil => exact .nil
    | cons h d => exact .cons h (ih d)
section
variable {α : Type} [Kd α] {K : PySem.W.Frag} {H H1 : Hp} {Q : VK} {σ : L2.St} {te : TE} {tt : TT} {g : TG} {vs : List Nat} {J : It} {n : Nat} {item : Nat → V → Hp → Prop}
open Kd
end
theorem g_eqNil {α : Type} [Kd α] {K : PySem.W.Frag} {H : Hp} {Q : VK} {a p : Addr} {as : List α} (h : PtsL K H a as) (e : H p = some (.lst [])) (k : Q (.bl (decide (as = []))) H) : rEqD K (.ref a) (.ref p) H Q :=
  g_eqP (bs := []) h ⟨[], e, .nil⟩ k
theorem g_neNil {α : Type} [Kd α] {K : PySem.W.Frag} {H : Hp} {Q : VK} {a p : Addr} {as : List α} (h : PtsL K H a as) (e : H p = some (.lst [])) (k : Q (.bl (!decide (as = []))) H) : rNeD K (.ref a) (.ref p) H Q :=
  g_neP (bs := []) h ⟨[], e, .nil⟩ k
theorem g_ix2 {K : PySem.W.Frag} {H : Hp} {Q : VK} {t : Addr} {xs : List V} {k : Int} {v : V} (e : SqT K H t xs) (h : atI xs k = some v) (q : Q v H) : rIxT K (.ref t) (.int k) H Q := ⟨t, xs, k, v, rfl, rfl, e, h, q⟩
/-! ### neighbours -/
section
variable {α : Type} [Kd α]
open Kd
end
end Gx
namespace Gx
open PySem L2
end Gx
namespace Gx
open PySem L2
end Gx

/-! Cells: all of a line, those that meet a range; lists of data filtered -/
namespace Gx
open PySem L2 PySem.Spec PyProof.Rows
inductive Cell (α : Type) where
  | gap (l r : Option α)
  | pt (a : α)
section
variable {α : Type} [Ln α] {K : PySem.W.Frag} {H H1 : Hp} {Q : VK} {σ : L2.St} {te : TE} {tt : TT} {g : TG} {vs : List Nat}
open Kd
def cellD : Cell α → PyData
  | .gap l r => gapK l r
  | .pt a => pointK a
def meetC (lo hi : Int) : Cell α → Bool
  | .gap l r => Ln.gap l r lo hi
  | .pt a => inK a lo hi
def cellsFrom : Option α → List α → List (Cell α)
  | l, [] => [.gap l none]
  | l, a :: as => .gap l (some a) :: .pt a :: cellsFrom (some a) as
/-- all cells of a line -/
def allC (as : List α) : List (Cell α) := cellsFrom none as
theorem nol_cellD (c : Cell α) : noLst (cellD c) = true := by
  cases c with
  | gap l r => exact nol_gapK l r
  | pt a => exact nol_pointK a
/-- which cells there are -/
def CellOf (as : List α) : Cell α → Prop
  | .gap l r => (∀ a, l = some a → a ∈ as) ∧ ∀ a, r = some a → a ∈ as
  | .pt a => a ∈ as
/-- the ends of a gap ascend -/
def CellUp : Cell α → Prop
  | .gap (some a) (some b) => lt a b = true
  | _ => True
end
section
variable {β : Type} {K : PySem.W.Frag} {H H1 : Hp} {Q : VK} {σ : L2.St} {te : TE} {tt : TT} {g : TG} {vs : List Nat}
theorem datas_at {Dd : β → PyData} {bs : List β} {xs : List V} {i : Nat} {x : V} (d : DpAll K H xs (bs.map Dd)) (h : xs[i]? = some x) : ∃ b, bs[i]? = some b ∧ Dp K H x (Dd b) := by
  obtain ⟨d', h1, h2⟩ := dpAll_get d h
  rw [List.getElem?_map] at h1
  cases e : bs[i]? with
  | none => rw [e] at h1; cases h1
  | some b =>
    rw [e] at h1
    have z : Dd b = d' := Option.some.inj h1
    rw [← z] at h2
    exact ⟨b, rfl, h2⟩
theorem nol_all {Dd : β → PyData} (nol : ∀ b, noLst (Dd b) = true) (bs : List β) : noLstAll (bs.map Dd) = true := noLstAll_iff.mpr fun d hd => by
  obtain ⟨b, _, rfl⟩ := List.mem_map.mp hd
  exact nol b
/-- things of a list, those that pass a test -/
theorem lc_filtD (Dd : β → PyData) (nol : ∀ b, noLst (Dd b) = true) {a : Addr} {xs : List V} {bs : List β} (h : SqL K H1 a xs) (d : DpAll K H1 xs (bs.map Dd)) (hn : xs.length ≤ 100000) (c : β → Bool)
    (turn : ∀ (x : V) (b : β) H' (Nx : V → Hp → Prop) (No : Hp → Prop), b ∈ bs → Dp K H' x (Dd b) → Same H1 H' → (∀ H4, Same H' H4 → c b = true → Nx x H4) → (∀ H4, Same H' H4 → c b = false → No H4) →
      g x (wipe σ vs) H' fun σ2 H2 => wipe σ2 vs = wipe σ vs ∧ tt σ2 H2 fun b H3 => if b = true then te σ2 H3 Nx else No H3)
    (done : ∀ p acc H', H1 p = none → Same H1 H' → H' p = some (.lst acc) → DpAll K H' acc ((bs.filter c).map Dd) → Q (.ref p) H') : LC g tt te vs (Itl K a) σ H1 Q := by
  have ln : xs.length = bs.length := by rw [dpAll_len d, List.length_map]
  refine lc_src (n := xs.length) (src_list h) hn (fun i acc H' => DpAll K H' acc (((bs.take i).filter c).map Dd)) (fun _ _ _ _ _ _ e _ _ b a => dp_butAll e b _ _ (nol_all nol _) a) (fun _ _ => .nil) (fun i x acc H' Nx No lt s it a hl k1 k2 => ?_) fun p acc H' h1 s e a _ => done p acc H' h1 s e (by rw [ln, List.take_length] at a; exact a)
  obtain ⟨b, hb, hx⟩ := datas_at (dp_sameAll s _ _ d) it
  have tk : bs.take (i + 1) = bs.take i ++ [b] := by
    rw [List.take_succ, hb]
    rfl
  refine turn x b H' Nx No (List.mem_of_getElem? hb) hx s (fun H4 s4 h => k1 x H4 s4 ?_) (fun H4 s4 h => k2 H4 s4 ?_)
  · rw [tk, List.filter_append, List.map_append]
    simp only [List.filter_cons, h, if_true, List.filter_nil, List.map_cons, List.map_nil]
    exact dpAll_append (dp_sameAll s4 _ _ a) (.cons (dp_same s4 _ _ hx) .nil)
  · rw [tk, List.filter_append, List.map_append]
    simp only [List.filter_cons, h, Bool.false_eq_true, if_false, List.filter_nil, List.map_nil, List.append_nil]
    exact dp_sameAll s4 _ _ a
end
end Gx

/-! dicts whose keys are tuples of numbers, texts, None and such tuples, wherever these tuples stand; dict comprehensions with such keys -/
namespace Gx
open PySem L2 PySem.Spec PyProof.Rows
section
variable {X : Cx} {pins : List (Addr × Obj)} {σ : L2.St} {H : Hp} {s : Shared}
mutual
/-- data without lists and bools is a key -/
theorem nest_is (I : Inv X pins σ H s) : ∀ (k : NestedKey) (v : V) (u : Value), Dp X.K H v k.data → RelV v u → NestedIs s.heap k u
  | .none, _, _, d, r => by
    cases d
    cases r
    exact .none
  | .num i, _, _, d, r => by
    cases d
    obtain ⟨t, rfl⟩ := r
    exact .int i t
  | .text x, _, _, d, r => by
    cases d
    obtain ⟨t, rfl⟩ := r
    exact .text x t
  | .tup ks, _, _, d, r => by
    cases d with
    | tup sq da =>
      cases r
      obtain ⟨us, rv, ⟨o, ho, hc, n, hd⟩, _⟩ := I.tuple sq
      exact .tup ho hc hd (nest_all I ks _ us da rv)
theorem nest_all (I : Inv X pins σ H s) : ∀ (ks : List NestedKey) (vs : List V) (us : List Value), DpAll X.K H vs (NestedKey.datas ks) → Vals vs us → NestedAll s.heap ks us
  | [], _, _, d, r => by
    cases d
    cases r
    exact .nil
  | k :: ks, _, _, d, r => by
    cases d with
    | cons d1 d2 =>
      cases r with
      | cons r1 r2 => exact .cons (nest_is I k _ _ d1 r1) (nest_all I ks _ _ d2 r2)
end
end
abbrev NKd (P : Program) (w : World) : HeapKind P w NestedKey := nestedKind P w
abbrev Kvs := List (NestedKey × Addr × V)
/-- the value at a key -/
def atB (kvs : Kvs) (k : NestedKey) : Option V := (kvs.find? fun p => decide (p.1 = k)).map (·.2.2)
def putB (kvs : Kvs) (k : NestedKey) (a : Addr) (v : V) : Kvs := if (atB kvs k).isSome then kvs.map fun p => if p.1 = k then (p.1, p.2.1, v) else p else kvs ++ [(k, a, v)]
/-- what is told, and what stands there -/
def PairB : Kvs → List (NestedKey × Addr × Value) → Prop := Paired fun p q => p.1 = q.1 ∧ p.2.1 = q.2.1 ∧ RelV p.2.2 q.2.2
theorem atB_rel {kvs : Kvs} {xs : List (NestedKey × Addr × Value)} (r : PairB kvs xs) (k : NestedKey) : (atB kvs k).isSome = (atKey xs k).isSome ∧ ∀ p, atKey xs k = some p → ∃ v, atB kvs k = some v ∧ RelV v p.2 := by
  induction r with
  | nil => exact ⟨rfl, fun p h => by cases h⟩
  | @cons p q ps qs h t ih =>
    obtain ⟨e1, e2, e3⟩ := h
    by_cases c : p.1 = k
    · have c' : q.1 = k := e1 ▸ c
      have x1 : atB (p :: ps) k = some p.2.2 := by simp [atB, List.find?_cons, c]
      have x2 : atKey (q :: qs) k = some q.2 := by simp [atKey, List.find?_cons, c']
      rw [x1, x2]
      exact ⟨rfl, fun z hz => ⟨_, rfl, by rw [← Option.some.inj hz]; exact e3⟩⟩
    · have c' : ¬ q.1 = k := e1 ▸ c
      have x1 : atB (p :: ps) k = atB ps k := by simp [atB, List.find?_cons, c]
      have x2 : atKey (q :: qs) k = atKey qs k := by simp [atKey, List.find?_cons, c']
      rw [x1, x2]
      exact ih
theorem pairB_repl {kvs : Kvs} {xs : List (NestedKey × Addr × Value)} (r : PairB kvs xs) (k : NestedKey) {v : V} {u : Value} (rv : RelV v u) : PairB (kvs.map fun p => if p.1 = k then (p.1, p.2.1, v) else p) (xs.map (putAt k u)) := by
  induction r with
  | nil => exact .nil
  | @cons p q ps qs h t ih =>
    obtain ⟨e1, e2, e3⟩ := h
    refine .cons ?_ ih
    unfold putAt
    show _ = _ ∧ _ = _ ∧ RelV _ _
    dsimp only
    by_cases c : p.1 = k
    · rw [if_pos c, if_pos (e1 ▸ c)]
      exact ⟨e1, e2, rv⟩
    · rw [if_neg c, if_neg (e1 ▸ c)]
      exact ⟨e1, e2, e3⟩
theorem pairB_put {kvs : Kvs} {xs : List (NestedKey × Addr × Value)} (r : PairB kvs xs) (k : NestedKey) (a : Addr) {v : V} {u : Value} (rv : RelV v u) : PairB (putB kvs k a v) (storedH xs k a u) := by
  unfold putB storedH
  rw [(atB_rel r k).1]
  by_cases c : (atKey xs k).isSome = true
  · rw [if_pos c, if_pos c]
    exact pairB_repl r k rv
  · rw [if_neg c, if_neg c]
    exact Paired.snoc r ⟨rfl, rfl, rv⟩
theorem atB_put (kvs : Kvs) (k : NestedKey) (a : Addr) (v : V) (j : NestedKey) : (atB (putB kvs k a v) j) = if j = k then some v else atB kvs j := by
  unfold putB
  by_cases c : (atB kvs k).isSome = true
  · rw [if_pos c]
    induction kvs with
    | nil => cases c
    | cons p ps ih =>
      by_cases e : p.1 = k
      · by_cases f : j = k
        · subst f
          simp [atB, List.find?_cons, e]
        · have nf : ¬ p.1 = j := fun z => f (z.symm.trans e)
          have nk : ¬ k = j := fun z => f z.symm
          have fix : ∀ (qs : Kvs), atB (qs.map fun p => if p.1 = k then (p.1, p.2.1, v) else p) j = atB qs j := fun qs => by
            induction qs with
            | nil => rfl
            | cons q qs ih2 =>
              rw [List.map_cons]
              by_cases g : q.1 = k
              · have : ¬ q.1 = j := fun z => f (z.symm.trans g)
                rw [if_pos g]
                simp only [atB, List.find?_cons, decide_eq_false this] at ih2 ⊢
                exact ih2
              · rw [if_neg g]
                by_cases x : q.1 = j
                · simp [atB, List.find?_cons, x]
                · simp only [atB, List.find?_cons, decide_eq_false x] at ih2 ⊢
                  exact ih2
          rw [fix, if_neg f]
      · have c2 : (atB ps k).isSome = true := by
          have : atB (p :: ps) k = atB ps k := by simp [atB, List.find?_cons, e]
          rwa [this] at c
        rw [List.map_cons, if_neg e]
        by_cases f : p.1 = j
        · have : ¬ j = k := fun z => e (f.trans z)
          rw [if_neg this]
          simp [atB, List.find?_cons, f]
        · have x1 : atB (p :: List.map (fun p => if p.1 = k then (p.1, p.2.1, v) else p) ps) j = atB (List.map (fun p => if p.1 = k then (p.1, p.2.1, v) else p) ps) j := by simp [atB, List.find?_cons, f]
          have x2 : atB (p :: ps) j = atB ps j := by simp [atB, List.find?_cons, f]
          rw [x1, x2]
          exact ih c2
  · rw [if_neg c]
    have c0 : atB kvs k = none := by
      cases h : atB kvs k with
      | none => rfl
      | some z => rw [h] at c; exact absurd rfl c
    have app : ∀ qs : Kvs, atB (qs ++ [(k, a, v)]) j = (atB qs j).or (if k = j then some v else none) := fun qs => by
      unfold atB
      rw [List.find?_append]
      cases h : qs.find? fun p => decide (p.1 = j) with
      | some z => rfl
      | none =>
        by_cases e : k = j
        · simp [List.find?_cons, e]
        · simp [List.find?_cons, e]
    rw [app]
    by_cases e : j = k
    · subst e
      rw [c0, if_pos rfl]
      simp
    · rw [if_neg e, if_neg (fun z => e z.symm)]
      cases atB kvs j <;> rfl
theorem putB_len (kvs : Kvs) (k : NestedKey) (a : Addr) (v : V) : (putB kvs k a v).length ≤ kvs.length + 1 := by
  unfold putB
  split
  · rw [List.length_map]; exact Nat.le_succ _
  · rw [List.length_append]; exact Nat.le_refl _
theorem pairB_len {kvs : Kvs} {xs : List (NestedKey × Addr × Value)} (r : PairB kvs xs) : kvs.length = xs.length := Paired.length r
/-- the dict at D -/
def DictB0 (P : Program) (w : World) (D : Addr) (kvs : Kvs) (h : Heap) : Prop := kvs.length ≤ sizeLine ∧ (D == sysModules) = false ∧ ∃ xs, PairB kvs xs ∧
  ∃ o es ep, h.get? D = some o ∧ o.ExactDict ∧ o.data = .dict es ep ∧ es.toList = xs.map (entryOfKey (NKd P w)) ∧ (xs.map (·.1)).Nodup
def DictBO (P : Program) (w : World) (D : Addr) (kvs : Kvs) : HO := .ext (DictB0 P w D kvs)
theorem dictB_ok {P : Program} {w : World} {H : Hp} {h : Heap} {D : Addr} {kvs : Kvs} (R : DictB0 P w D kvs h) : ObjOk P w H h D (DictBO P w D kvs) := by
  have ⟨_, _, _, _, o, _, _, ho, _⟩ := R
  refine ⟨R, ⟨o, ho⟩, fun h1 h2 ⟨z, y, xs, r, o, es, ep, e, q⟩ k => ⟨z, y, xs, r, o, es, ep, k o e, q⟩⟩
/-- a dict whose keys are such tuples -/
def DTab (K : PySem.W.Frag) (P : Program) (w : World) (H : Hp) (D : Addr) (kvs : Kvs) : Prop := H D = some (DictBO P w D kvs) ∧ ∀ p ∈ kvs, p.1.depth ≤ 8 ∧ Dp K H (.ref p.2.1) p.1.data
theorem DTab.same {K : PySem.W.Frag} {P : Program} {w : World} {H H' : Hp} {D : Addr} {kvs : Kvs} (h : DTab K P w H D kvs) (s : Same H H') : DTab K P w H' D kvs := ⟨s _ _ h.1, fun p hp => ⟨(h.2 p hp).1, dp_same s _ _ (h.2 p hp).2⟩⟩
section
variable {X : Cx} {pins : List (Addr × Obj)} {σ : L2.St} {H : Hp} {s : Shared} {D a : Addr} {kvs : Kvs} {k : NestedKey}
theorem key_is (I : Inv X pins σ H s) (d : Dp X.K H (.ref a) k.data) (l : k.depth ≤ 8) : (NKd X.prog X.w).is s.heap k a := ⟨nest_is I k _ _ d rfl, l⟩
theorem dtab_get (I : Inv X pins σ H s) (d : DTab X.K X.prog X.w H D kvs) : kvs.length ≤ sizeLine ∧ (D == sysModules) = false ∧ ∃ xs, PairB kvs xs ∧ s.heap.DictOfH (NKd X.prog X.w) D xs := by
  obtain ⟨e, tu⟩ := d
  obtain ⟨z, y, xs, r, o, es, ep, ho, hc, hd, he, nd⟩ := (I.hok D _ e).1
  refine ⟨z, y, xs, r, o, es, ep, ho, hc, hd, he, fun q hq => ?_, nd⟩
  have : ∀ {l : Kvs} {m : List (NestedKey × Addr × Value)}, PairB l m → (∀ p ∈ l, p.1.depth ≤ 8 ∧ Dp X.K H (.ref p.2.1) p.1.data) → ∀ q ∈ m, (NKd X.prog X.w).is s.heap q.1 q.2.1 := by
    intro l m r
    induction r with
    | nil => intro _ q hq; cases hq
    | @cons p q ps qs h t ih =>
      intro tu q' hq'
      rcases List.mem_cons.mp hq' with z | z
      · subst z
        have t1 := tu p List.mem_cons_self
        rw [h.1, h.2.1] at t1
        exact key_is I t1.2 t1.1
      · exact ih (fun p hp => tu p (List.mem_cons_of_mem _ hp)) q' z
  exact this r tu q hq
/-- membership -/
def rInB (K : PySem.W.Frag) (P : Program) (w : World) (neg : Bool) : R2 := fun y x H Q => ∃ a D kvs k, y = .ref a ∧ x = .ref D ∧ DTab K P w H D kvs ∧ Dp K H (.ref a) k.data ∧ k.depth ≤ 8 ∧ Q (.bl (if neg = true then !(atB kvs k).isSome else (atB kvs k).isSome)) H
theorem op_notInB (hu : X.A.units + 64 < cLine) : OpR X (compareOp .NotIn) (rInB X.K X.prog X.w true) := by
  intro pins s σ H y x v u Q I ry rx h
  obtain ⟨a, D, kvs, k, rfl, rfl, d, da, dk, q⟩ := h
  cases ry
  cases rx
  obtain ⟨_, y, xs, r, dd⟩ := dtab_get I d
  refine wpAny_notIn_heap (show X.A.in1.units + 8 < cLine by rw [Around.in1_units]; omega) (key_is I da dk) y dd ?_
  rw [← (atB_rel r k).1]
  exact ⟨.bl _, H, I.tok _, rfl, q⟩
/-- D[k] = v within a comprehension -/
theorem put_B {v : V} {r : Value} {Q : Unit → Shared → Prop} {E : Value → Shared → Prop} (hu : X.A.units + 64 < cLine) (I : Inv X pins σ H s) (d : DTab X.K X.prog X.w H D kvs) (few : kvs.length < sizeLine) (da : Dp X.K H (.ref a) k.data) (dk : k.depth ≤ 8) (rv : RelV v r)
    (q : ∀ s', Inv X pins σ (upd H D (DictBO X.prog X.w D (putB kvs k a v))) s' → Q () s') : wpAny (model X.prog X.w) X.A (dictSet D (.ref a) r) Q E s := by
  obtain ⟨_, y, xs, rel, dd⟩ := dtab_get I d
  have e := d.1
  have ln := pairB_len rel
  refine wpAny_dictSet_heap (hsz := by omega) (show X.A.units + 8 < cLine by omega) (key_is I da dk) dd fun h' dd' sb => q _ ?_
  obtain ⟨o, es, ep, ho, hc, hd, he, _, nd⟩ := dd'
  exact d_write I (by rw [e]; trivial) sb ⟨o, ho⟩ (dictB_ok ⟨Nat.le_trans (putB_len kvs k a v) few, y, _, pairB_put rel k a rv, o, es, ep, ho, hc, hd, he, nd⟩)
theorem new_B {P : Program} {w : World} {h : Heap} (big : sysModules < h.objs.size) : ObjOk P w H (h.push { cls := .type "dict", data := .dict #[] }) h.objs.size (DictBO P w h.objs.size []) := by
  refine dictB_ok ⟨Nat.zero_le _, by simpa using Nat.ne_of_gt big, [], .nil, _, #[], 0, Heap.get?_push_size _ rfl, ⟨rfl, rfl, rfl⟩, rfl, rfl, List.nodup_nil⟩
/-- a pair is put into the dict that a comprehension makes -/
def PutD (K : PySem.W.Frag) (P : Program) (w : World) (D : Addr) (y z : V) (H : Hp) (N : Hp → Prop) : Prop :=
  (∃ kvs k, y = kV k ∧ H D = some (.dK kvs) ∧ kvs.length < sizeLine ∧ N (upd H D (.dK (putK kvs k z)))) ∨
  ∃ kvs k a, y = .ref a ∧ DTab K P w H D kvs ∧ kvs.length < sizeLine ∧ Dp K H (.ref a) k.data ∧ k.depth ≤ 8 ∧ N (upd H D (DictBO P w D (putB kvs k a z)))
theorem put_D {N : Hp → Prop} {y z : V} {u r : Value} {Q : Unit → Shared → Prop} {E : Value → Shared → Prop} (hu : X.A.units + 64 < cLine) (I : Inv X pins σ H s) (p : PutD X.K X.prog X.w D y z H N) (ry : RelV y u) (rz : RelV z r)
    (q : ∀ H' s', Inv X pins σ H' s' → N H' → Q () s') : wpAny (model X.prog X.w) X.A (dictSet D u r) Q E s := by
  rcases p with ⟨kvs, k, rfl, e, l, n⟩ | ⟨kvs, k, a, rfl, d, l, da, dk, n⟩
  · exact d_dictSet I e l ry rz fun s' J => q _ s' J n
  · cases ry
    exact put_B hu I d l da dk rz fun s' J => q _ s' J n
/-- the dict that a comprehension begins with -/
def IniD (P : Program) (w : World) (D : Addr) (o : HO) : Prop := o = .dK [] ∨ o = DictBO P w D []
def tDcB (K : PySem.W.Frag) (P : Program) (w : World) (src : TI) (g : TG) (tt : TT) (tk tv : TE) (vs : List Nat) : TE := fun σ H Q => src σ H fun J H1 => ∀ D, H1 D = none → ∃ o, IniD P w D o ∧ ∃ W : Nat → Nat → Hp → Prop, (∃ m, W 0 m (upd H1 D o)) ∧ ∀ i m H, W i m H →
  (J.stop i H ∧ Q (.ref D) H) ∨ (J.go i H ∧ ∃ Nx : Hp → Prop, (∀ H', Nx H' → ∃ m', m' < m ∧ W (i + 1) m' H') ∧ ∀ x H', J.yld i H x H' → g x (wipe σ vs) H' fun σ2 H2 => wipe σ2 vs = wipe σ vs ∧ tt σ2 H2 fun b H3 =>
    if b = true then tk σ2 H3 fun y H4 => tv σ2 H4 fun z H5 => PutD K P w D y z H5 Nx else Nx H3)
variable {X : Cx}
theorem laid_D {pins : List (Addr × Obj)} {σ : L2.St} {H : Hp} {s : Shared} {o : HO} (I : Inv X pins σ H s) (io : IniD X.prog X.w s.heap.objs.size o) :
    Inv X pins σ (upd H s.heap.objs.size o) { s with heap := s.heap.push { cls := .type "dict", data := .dict #[] } } :=
  I.laid (t' := s.toks) (fun b q e => Heap.get?_push_of_some _ e) (Nat.le_refl _) (by
    rcases io with rfl | rfl
    · exact dk_empty s.heap I.big
    · exact new_B I.big)
/-- a dict comprehension over keys of both kinds -/
theorem pe_dcB {kx vx tg src : Expr} {ifs : List Expr} {scope : Scope} {own : List (Str × Nat)} {pos : Pos} {wi : TI} {g : TG} {tt : TT} {tk tv : TE} (calm : X.calm = true) (hu : X.A.units + 64 < cLine) (nd : X.N.Nodup) (hsrc : PI X tg src wi) (blk : BlkOk X.N X.env.scope scope own)
    (htg : ∀ (s : Shared) (H : Hp) (L : Addr) (cl : List (Str × Addr)) (fp : List Addr), PG (X.blk s H scope (compEnvC scope cl L X.env) fp) tg g)
    (hif : ∀ (s : Shared) (H : Hp) (L : Addr) (cl : List (Str × Addr)) (fp : List Addr), PTs (X.blk s H scope (compEnvC scope cl L X.env) fp) ifs tt)
    (hkx : ∀ (s : Shared) (H : Hp) (L : Addr) (cl : List (Str × Addr)) (fp : List Addr), PE (X.blk s H scope (compEnvC scope cl L X.env) fp) kx tk)
    (hvx : ∀ (s : Shared) (H : Hp) (L : Addr) (cl : List (Str × Addr)) (fp : List Addr), PE (X.blk s H scope (compEnvC scope cl L X.env) fp) vx tv) (plain : ∀ x, foldedSetIterable src X.env x = pure x := by intro _; rfl) :
    PE X (.DictComp kx vx [⟨tg, src, ifs, 0⟩] scope pos) (tDcB X.K X.prog X.w wi g tt tk tv (own.map (·.2))) := by
  refine ⟨fun pins s0 σ H Q I0 h => ?_⟩
  rw [arm_eval_DictComp]
  have cells : ∀ y ∈ scope.names, y.2 = .free → ∃ c, X.env.cells.lookup y.1 = some c := fun y hy fr => (blk.free y hy fr).elim (fun z => I0.ok.has _ (.inl z)) fun z => I0.ok.has _ (.inr z)
  refine wpAny_comprehension_free (use := none) rfl plain (closure_ok cells) blk.kind (fun y hy fr => by rw [blk.uniq y hy, fr]) (thn (hsrc.run pins s0 σ H _ I0 h) fun sv s1 q1 => thn q1 fun iv s2 q2 => ?_)
  obtain ⟨it, fp, tn, J, H2, rfl, I2, T, at2, old2, turns⟩ := q2
  refine wpAny_newObj_type (newEnv_comp ?_)
  obtain ⟨o, io, W, ⟨m0, start⟩, step⟩ := turns s2.heap.objs.size (I2.hok.fresh (Nat.le_refl _))
  have I3 := laid_D I2 io
  have low : ∀ b ∈ fp, b < s2.heap.objs.size := fun b hb => let ⟨_, e, _⟩ := T.obj _ _ at2 b hb; Heap.lt_size e
  generalize eD : s2.heap.objs.size = D at I3 start step low ⊢
  have kept3 : ∀ b u, s2.heap.get? b = some u → (s2.heap.push { cls := .type "dict", data := .dict #[] }).get? b = some u := fun b u e => Heap.get?_push_of_some _ e
  have top3 : (s2.heap.push { cls := .type "dict", data := .dict #[] }).objs.size = D + 1 := by rw [Heap.size_push, eD]
  generalize eh : s2.heap.push { cls := .type "dict", data := .dict #[] } = h3 at I3 kept3 top3 ⊢
  generalize e3 : ({ s2 with heap := h3 } : Shared) = s3 at I3 ⊢
  obtain rfl : h3 = s3.heap := by rw [← e3]
  have ok3 : ∀ b ∈ fp, FpOk X pins (upd H2 D o) b ∧ b < s3.heap.objs.size := fun b hb => by
    have l := low b hb
    obtain ⟨n1, n2⟩ := old2 b hb
    exact ⟨⟨by rw [upd_ne (Nat.ne_of_lt l)]; exact n1, n2⟩, by rw [top3]; exact Nat.lt_succ_of_lt l⟩
  have at3 : tn 0 s3.heap := T.keep _ _ _ at2 fun b _ u e => kept3 b u e
  have I4 := block_start I3 blk nd ok3
  generalize ece : compEnvC scope (PySem.cellsFrom (s3.heap.objs.size + 1) scope.names (cloFrom X.env.cells scope.names [])) s3.heap.objs.size X.env = ce at I4
  have pg := ece ▸ htg s3 (upd H2 D o) s3.heap.objs.size (PySem.cellsFrom (s3.heap.objs.size + 1) scope.names (cloFrom X.env.cells scope.names [])) fp
  have pt := ece ▸ hif s3 (upd H2 D o) s3.heap.objs.size (PySem.cellsFrom (s3.heap.objs.size + 1) scope.names (cloFrom X.env.cells scope.names [])) fp
  have pk := ece ▸ hkx s3 (upd H2 D o) s3.heap.objs.size (PySem.cellsFrom (s3.heap.objs.size + 1) scope.names (cloFrom X.env.cells scope.names [])) fp
  have pv := ece ▸ hvx s3 (upd H2 D o) s3.heap.objs.size (PySem.cellsFrom (s3.heap.objs.size + 1) scope.names (cloFrom X.env.cells scope.names [])) fp
  have loc : ce.locals = s3.heap.objs.size := by rw [← ece]; rfl
  change codeAny _ _ (.compStart (.DictComp kx vx [⟨tg, src, ifs, 0⟩] scope pos) 0 (.ref it) (.ref D) (compEnvC scope (PySem.cellsFrom (s3.heap.objs.size + 1) scope.names (cloFrom X.env.cells scope.names [])) s3.heap.objs.size X.env)) (compPost (model X.prog X.w) X.A X.xe none (EP X pins σ Q) (.ref D) s3.heap.objs.size) _
  rw [ece]
  clear ece htg hif hkx hvx turns io
  generalize upd H2 D o = H3 at I3 I4 start ok3 pg pt pk pv
  have at4 : tn 0 (pushCells (s3.heap.push { cls := .type "dict", data := .dict #[] }) scope.names) := T.keep _ _ _ at3 fun b _ u e => pushCells_keeps _ _ _ _ (Heap.get?_push_of_some _ e)
  have put_off : ∀ {σ' : L2.St} {H' : Hp} {s' : Shared}, Inv (X.blk s3 H3 scope ce fp) [] σ' H' s' → (∀ b ∈ fp, H' b = none) → ∀ b ∈ fp, FpOk (X.blk s3 H3 scope ce fp) [] H' b := fun {σ' H' s'} I' off b hb =>
    ⟨off b hb, (I'.ok.exf b hb).1, I'.ok.exfs b hb, .inl hb, fun x c e => (I'.ok.exf b hb).2 x c e, fun p hp => by cases hp⟩
  refine (fun loop => codeAny_compStart_dict loop (T.self X.A 0 _ _ _ at4 loop)) ?_
  refine compLoop_anyD (fun n s' => ∃ i H', Inv (X.blk s3 H3 scope ce fp) [] (wipe σ (own.map (·.2))) H' s' ∧ tn i s'.heap ∧ (∀ b ∈ fp, H' b = none) ∧ W i n H') ?_ m0 ⟨0, H3, I4, at4, fun b hb => (ok3 b hb).1.1, start⟩
  rintro n s5 ⟨i, H5, I5, at5, off5, w5⟩
  rcases step i n H5 w5 with ⟨stop, fin⟩ | ⟨go, Nx, less, turn⟩
  · refine thnF (T.done (X.blk s3 H3 scope ce fp) rfl rfl rfl calm i [] s5 _ H5 (fun _ _ => False) I5 (put_off I5 off5) at5 stop) fun r s6 ⟨hr, I6⟩ => ?_
    subst hr
    have I7 : Inv X pins σ H5 s6 := I3.call' (ch := fp) I6.os I6.base I6.hok I6.bare fun b hb => by
      obtain ⟨_, c1, c2, c3, c4, c5⟩ := (ok3 b hb).1
      exact ⟨c3, c1, c4, c5⟩
    have fresh : H5 s3.heap.objs.size = .none := by
      have z : H5 ce.locals = .none := I6.free
      rwa [loc] at z
    obtain ⟨m, ns, _⟩ := I6.loc
    have ns : s6.heap.Ns ce.locals m := ns
    rw [loc] at ns
    obtain ⟨f0, f1, f2, f3, f4, f5⟩ := I3.fpOk (Nat.le_refl _) fresh
    exact ⟨m, ns, fun h'' sb => ⟨.ref D, H5, I7.turned (t' := s6.toks) (fun b u hb e => (sb.2 b hb).trans e) f0 f1 f3 f4 f5, rfl, fin⟩⟩
  · refine thnF (T.item (X.blk s3 H3 scope ce fp) rfl rfl rfl calm i [] s5 _ H5 (fun _ _ => False) I5 (put_off I5 off5) at5 go) fun r s6 ⟨u, hr, q6⟩ => ?_
    subst hr
    refine thnF q6 fun _ s7 ⟨x, H7, I7, r7, y7, at7, off7⟩ => ?_
    refine thnF (pg.run _ s7 _ H7 x u _ (I7.pinned (put_off I7 off7) (T.obj _ _ at7)) r7 (turn x H7 y7)) fun _ s8 ⟨σ8, H8, I8, wiped, q8⟩ => ?_
    refine thnF (pt.run _ s8 σ8 H8 _ I8 q8) fun b s9 ⟨H9, I9, q9⟩ => ?_
    have next : ∀ {s' : Shared} {H' : Hp}, Inv (X.blk s3 H3 scope ce fp) ([] ++ pinsAt fp s7.heap) σ8 H' s' → Nx H' → ∃ m, m < n ∧ ∃ i H', Inv (X.blk s3 H3 scope ce fp) [] (wipe σ (own.map (·.2))) H' s' ∧ tn i s'.heap ∧ (∀ b ∈ fp, H' b = .none) ∧ W i m H' := fun {s' H'} I' nx => by
      obtain ⟨m', lt, w'⟩ := less H' nx
      have pin' : ∀ b ∈ fp, ∀ ob, s7.heap.get? b = some ob → s'.heap.get? b = some ob ∧ H' b = .none := fun b hb ob e => by
        have z := I'.pin (b, ob) (List.mem_append_right _ (List.mem_append_right _ (mem_pinsAt hb e)))
        exact ⟨z.1, z.2.1⟩
      have ln : (wipe σ (own.map (·.2))).length = σ8.length := by rw [← wiped, wipe_length]
      refine ⟨m', lt, i + 1, H', (I'.unpinned (pins := [])).weak ln fun j v e => ?_, T.keep _ _ _ at7 fun b hb ob e => (pin' b hb ob e).1, fun b hb => ?_, w'⟩
      · rw [← wiped] at e
        exact (wipe_some e).1
      · obtain ⟨ob, e, _⟩ := T.obj _ _ at7 b hb
        exact (pin' b hb ob e).2
    cases b with
    | false =>
      rw [if_neg Bool.false_ne_true] at q9 ⊢
      exact next I9 q9
    | true =>
      rw [if_pos rfl] at q9 ⊢
      refine thnF (pk.run _ s9 σ8 H9 _ I9 q9) fun z s10 ⟨yk, H10, I10, rk, q10⟩ => ?_
      refine thnF (pv.run _ s10 σ8 H10 _ I10 q10) fun z2 s11 ⟨yv, H11, I11, rv, put⟩ => ?_
      exact put_D (X := X.blk s3 H3 scope ce fp) hu I11 put rk rv fun H' s12 I12 nx => next I12 nx
end
/-! ### keys of a kind of points -/
def DCB (K : PySem.W.Frag) (P : Program) (w : World) (g : TG) (tt : TT) (tk tv : TE) (vs : List Nat) (J : It) (σ : L2.St) (H1 : Hp) (Q : VK) : Prop := ∀ D, H1 D = none → ∃ o, IniD P w D o ∧ ∃ W : Nat → Nat → Hp → Prop, (∃ m, W 0 m (upd H1 D o)) ∧ ∀ i m H, W i m H →
  (J.stop i H ∧ Q (.ref D) H) ∨ (J.go i H ∧ ∃ Nx : Hp → Prop, (∀ H', Nx H' → ∃ m', m' < m ∧ W (i + 1) m' H') ∧ ∀ x H', J.yld i H x H' → g x (wipe σ vs) H' fun σ2 H2 => wipe σ2 vs = wipe σ vs ∧ tt σ2 H2 fun b H3 =>
    if b = true then tk σ2 H3 fun y H4 => tv σ2 H4 fun z H5 => PutD K P w D y z H5 Nx else Nx H3)
theorem g_dcB {K : PySem.W.Frag} {P : Program} {w : World} {wi : TI} {g : TG} {tt : TT} {tk tv : TE} {vs : List Nat} {σ : L2.St} {H : Hp} {Q : VK} (q : wi σ H fun J H1 => DCB K P w g tt tk tv vs J σ H1 Q) : tDcB K P w wi g tt tk tv vs σ H Q := q
/-- membership in a dict of both kinds -/
def rKey (K : PySem.W.Frag) (P : Program) (w : World) (neg : Bool) : R2 := fun y x H Q => rDIn2 neg y x H Q ∨ rInB K P w neg y x H Q
theorem op_keyNot {X : Cx} (hu : X.A.units + 64 < cLine) : OpR X (compareOp .NotIn) (rKey X.K X.prog X.w true) := fun pins s σ H y x v u Q I ry rx h => by
  rcases h with h | h
  · exact op_dictNotIn hu pins s σ H y x v u Q I ry rx h
  · exact op_notInB hu pins s σ H y x v u Q I ry rx h
/-- a kind of points as keys, and a number of a range as a point -/
class Kb (α : Type) extends Gr α where
  keysP : PySem.W.Frag → Program → World → Hp → Addr → List α → Prop
  keys_same : ∀ {K P w H H' a as}, Same H H' → keysP K P w H a as → keysP K P w H' a as
  ini : Program → World → Addr → HO
  ini_ok : ∀ P w D, IniD P w D (ini P w D)
  ini_keys : ∀ K P w H D, keysP K P w (upd H D (ini P w D)) D []
  put : ∀ {K : PySem.W.Frag} {P : Program} {w : World} {H : Hp} {D0 : Addr} {as : List α} {y : V} {a : α} {z : V} {N : Hp → Prop}, keysP K P w H D0 as → as.length < sizeLine → Dp K H y (D a) → (∀ o, keysP K P w (upd H D0 o) D0 (as ++ [a]) → N (upd H D0 o)) → PutD K P w D0 y z H N
  has : ∀ {K : PySem.W.Frag} {P : Program} {w : World} {H : Hp} {D0 : Addr} {as : List α} {y : V} {a : α} {neg c : Bool} {Q : VK}, keysP K P w H D0 as → Dp K H y (D a) → (c = true ↔ a ∈ as) → Q (.bl (if neg = true then !c else c)) H → rKey K P w neg y (.ref D0) H Q
  asPt : Int → Option α
  as_pv : ∀ {K : PySem.W.Frag} {H : Hp} (n : Int), pv K H (.int n) (asPt n).isSome
  as_D : ∀ {n : Int} {a : α}, asPt n = some a → D a = .int n
instance : Kb Int where
  keysP K P w H a as := ∃ kvs : List (Key × V), H a = some (.dK kvs) ∧ kvs.length ≤ as.length ∧ ∀ k : Int, (valV kvs (.inl k)).isSome = decide (k ∈ as)
  keys_same s h := let ⟨kvs, e, r⟩ := h; ⟨kvs, s _ _ e, r⟩
  ini P w D := .dK []
  ini_ok P w D := .inl rfl
  ini_keys K P w H D := ⟨[], upd_same, Nat.le_refl _, fun k => rfl⟩
  put := fun {K P w H D as y a z N} h few d k => by
    cases d
    obtain ⟨kvs, e, l, m⟩ := h
    refine .inl ⟨kvs, .inl a, rfl, e, by omega, k _ ⟨_, upd_same, Nat.le_trans (length_putK _ _ _) (by rw [List.length_append]; exact Nat.succ_le_succ l), fun j => ?_⟩⟩
    rw [valV_put]
    by_cases c : j = a
    · subst c
      rw [if_pos rfl]
      simp
    · rw [if_neg (fun z => c (Sum.inl.inj z)), m j]
      simp [c]
  has := fun {K P w H D as y a neg c Q} h d hc q => by
    cases d
    obtain ⟨kvs, e, l, m⟩ := h
    exact .inl ⟨D, _, rfl, DGet.k (k := .inl a) e, by rw [m, show decide (a ∈ as) = c from Bool.eq_iff_iff.mpr (decide_eq_true_iff.trans hc.symm)]; exact q⟩
  asPt n := some n
  as_pv n := .int n
  as_D h := by rw [Option.some.inj h]; rfl
def nkP (p : Pr) : NestedKey := .tup [.num p.1, .num p.2]
theorem nkP_inj {p q : Pr} : nkP p = nkP q ↔ p = q := by
  constructor
  · intro h
    unfold nkP at h
    injection h with h
    injection h with h1 h
    injection h with h2 h
    injection h1 with h1
    injection h2 with h2
    exact Prod.ext h1 h2
  · rintro rfl; rfl
theorem nkP_dep (p : Pr) : (nkP p).depth ≤ 8 := by simp [nkP, NestedKey.depth, NestedKey.depthAll]
instance : Kb Pr where
  keysP K P w H a as := ∃ kvs : Kvs, DTab K P w H a kvs ∧ kvs.length ≤ as.length ∧ ∀ k : Pr, (atB kvs (nkP k)).isSome = decide (k ∈ as)
  keys_same s h := let ⟨kvs, e, r⟩ := h; ⟨kvs, e.same s, r⟩
  ini P w D := DictBO P w D []
  ini_ok P w D := .inr rfl
  ini_keys K P w H D := ⟨[], ⟨upd_same, fun p h => by cases h⟩, Nat.le_refl _, fun k => rfl⟩
  put := fun {K P w H D as y a z N} h few d k => by
    obtain ⟨kvs, e, l, m⟩ := h
    have d0 := d
    obtain ⟨r, rfl, t⟩ := pr_at d
    have odd : Odd (DictBO P w D kvs) := ⟨fun xs z => (by cases z), fun xs z => (by cases z), fun ob u z => (by cases z)⟩
    refine .inr ⟨kvs, nkP a, r, rfl, e, by omega, d0, nkP_dep a, k _ ⟨_, ⟨upd_same, fun p hp => ?_⟩, Nat.le_trans (putB_len _ _ _ _) (by rw [List.length_append]; exact Nat.succ_le_succ l), fun j => ?_⟩⟩
    · have stay : ∀ (d : PyData) (v : V), Dp K H v d → Dp K (upd H D (DictBO P w D (putB kvs (nkP a) r z))) v d := dp_odd e.1 odd fun b o nb hb => by rw [upd_ne nb]; exact hb
      unfold putB at hp
      split at hp
      · obtain ⟨q, hq, rfl⟩ := List.mem_map.mp hp
        have := e.2 q hq
        split
        · exact ⟨this.1, stay _ _ this.2⟩
        · exact ⟨this.1, stay _ _ this.2⟩
      · rcases List.mem_append.mp hp with q | q
        · exact ⟨(e.2 p q).1, stay _ _ (e.2 p q).2⟩
        · rw [List.mem_singleton.mp q]
          exact ⟨nkP_dep a, stay _ _ d0⟩
    · rw [atB_put]
      by_cases c : j = a
      · subst c
        rw [if_pos rfl]
        simp
      · rw [if_neg (fun z => c (nkP_inj.mp z)), m j]
        simp [c]
  has := fun {K P w H D as y a neg c Q} h d hc q => by
    obtain ⟨kvs, e, l, m⟩ := h
    have d0 := d
    obtain ⟨r, rfl, t⟩ := pr_at d
    refine .inr ⟨r, D, kvs, nkP a, rfl, rfl, e, d0, nkP_dep a, ?_⟩
    rw [m, show decide (a ∈ as) = c from Bool.eq_iff_iff.mpr (decide_eq_true_iff.trans hc.symm)]
    exact q
  asPt n := none
  as_pv n := .other (.base (.int n)) (kit_ty (by decide +kernel))
  as_D h := by cases h
section
variable {α : Type} [Kb α] {K : PySem.W.Frag} {P : Program} {w : World} {H H1 : Hp} {Q : VK} {σ : L2.St} {tk tv : TE} {tt : TT} {g : TG} {vs : List Nat}
open Kd
end
end Gx

/-! calls by keywords alone, in any sequence -/
namespace Gx
open PySem L2 PySem.Spec PyProof.Rows
def permV (n : Nat) (ix : List Nat) : List V → List V → List V
  | [], zs => if zs.length = n then ix.map fun i => zs.getD i .non else []
  | _ :: _, _ => []
def permU (n : Nat) (ix : List Nat) : List Value → List Value → List Value
  | [], zs => if zs.length = n then ix.map fun i => zs.getD i .none else []
  | _ :: _, _ => []
theorem vals_get {zs : List V} {ws : List Value} (r : Vals zs ws) : ∀ i, RelV (zs.getD i .non) (ws.getD i .none) := by
  induction r with
  | nil => intro i; exact rfl
  | cons h t ih =>
    intro i
    cases i with
    | zero => exact h
    | succ i => exact ih i
theorem perm_rel (n : Nat) (ix : List Nat) {vs : List V} {us : List Value} {zs : List V} {ws : List Value} (r : Vals vs us) (rz : Vals zs ws) : Vals (permV n ix vs zs) (permU n ix us ws) := by
  cases r with
  | cons _ _ => exact .nil
  | nil =>
    show Vals (if zs.length = n then ix.map fun i => zs.getD i .non else []) (if ws.length = n then ix.map fun i => ws.getD i .none else [])
    rw [← rz.length]
    by_cases c : zs.length = n
    · rw [if_pos c, if_pos c]
      induction ix with
      | nil => exact .nil
      | cons i ix ih => exact .cons (vals_get rz i) ih
    · rw [if_neg c, if_neg c]
      exact .nil
theorem permU_ne (n : Nat) (ix : List Nat) (ws : List Value) (h : ¬ ws.length = n) : permU n ix [] ws = [] := if_neg h
theorem g_iteNd {c : Prop} {i : Decidable c} {A B : Prop} (h1 : ¬ c → A) (h2 : c → B) : if (!decide c) = true then A else B := g_iteN h1 h2
section
variable {α : Type} [Ln α]
open Kd
end
end Gx

/-! How far a read reaches, for both kinds of points, as plain functions-/
namespace Gx
open PySem L2
section
variable {α : Type} [Kb α] {K : PySem.W.Frag} {H H' : Hp}
open Kd
def holdsK (ks : List α) (n : Int) : Bool := match Kb.asPt (α := α) n with | some a => decide (a ∈ ks) | none => false
def leftK (ks : List α) (lo : Int) : Option α := if holdsK ks lo = true then Kb.asPt lo else (ks.filter fun a => Ln.ahead a lo).getLast?
def rightK (ks : List α) (hi : Int) : Option α := if holdsK ks hi = true then Kb.asPt hi else (ks.filter fun a => Ln.beyond a hi).head?
def keptK (as ss : List α) : List α := as.filter fun a => !decide (a ∈ ss)
def tupK (l r : Option α) (hl hr : Bool) : PyData := .tuple [oK l, oK r, .bool hl, .bool hr]
def reachK (ks : List α) (lo hi : Int) : PyData := tupK (leftK ks lo) (rightK ks hi) (holdsK ks lo) (holdsK ks hi)
def leftOkK (l : Option α) (hl : Bool) (x : α) : Bool := match l with | none => true | some a => !(lt x a || (decide (x = a) && !hl))
def rightOkK (r : Option α) (hr : Bool) (x : α) : Bool := match r with | none => true | some b => lt x b || (decide (x = b) && hr)
def heldK (l r : Option α) (hl hr : Bool) (x : α) : Bool := leftOkK l hl x && rightOkK r hr x
/-- items that are points, or none of the kind -/
def inO (as : List α) : Option α → Bool
  | some a => decide (a ∈ as)
  | none => false
def upO : Option α → Option α → Bool
  | some a, some b => lt a b
  | _, _ => false
def okIn (as : List α) (os : List (Option α)) : Bool := os.all (inO as) && (List.zipWith upO os (os.drop 1)).all id
def ItO (K : PySem.W.Frag) (H : Hp) (x : V) : Option α → Prop
  | some a => Dp K H x (D a)
  | none => Ln.pv α K H x false
/-- a list of such items -/
def InL (K : PySem.W.Frag) (H : Hp) (a : Addr) (os : List (Option α)) : Prop := ∃ xs, SqL K H a xs ∧ xs.length = os.length ∧ ∀ (i : Nat) x o, xs[i]? = some x → os[i]? = some o → ItO K H x o
/-- no list -/
def NoL (K : PySem.W.Frag) (H : Hp) (v : V) : Prop := ∃ t, TyX K H v t ∧ PySem.W.kitOne K t (.type "list") = some false
theorem bls {acc : List V} {bs : List Bool} (l : acc.length = bs.length) (h : ∀ (i : Nat) y, acc[i]? = some y → ∃ b, bs[i]? = some b ∧ y = V.bl b) : acc = bs.map V.bl := by
  apply List.ext_getElem?
  intro i
  rw [List.getElem?_map]
  cases e : acc[i]? with
  | none =>
    rw [List.getElem?_eq_none (by rw [← l]; exact List.getElem?_eq_none_iff.mp e)]
    rfl
  | some y =>
    obtain ⟨b, hb, rfl⟩ := h i y e
    rw [hb]
    rfl
def InV (K : PySem.W.Frag) (H : Hp) (as : List α) (v : V) : Option (List α) → Prop
  | some ss => ∃ a, v = .ref a ∧ PtsL K H a ss ∧ Up ss ∧ ss.length ≤ 100000 ∧ ∀ s ∈ ss, s ∈ as
  | none => (∃ a os, v = .ref a ∧ InL K H a os ∧ os.length ≤ 100000 ∧ okIn as os = false) ∨ NoL K H v
end
end Gx

/-! Points below and above, points added and taken away; comprehensions over points -/
namespace Gx
open PySem L2
section
variable {α : Type} [Ln α] {K : PySem.W.Frag} {H H' : Hp}
open Kd
/-- the point below, the point above -/
def belowK (as : List α) (x : α) : Option α := if 0 < lessK as x then as[lessK as x - 1]? else none
def aboveK (as : List α) (x : α) : Option α := as[lessK as x + (if x ∈ as then 1 else 0)]?
/-- the value of an option of points -/
def OptP (K : PySem.W.Frag) (H : Hp) (o : Option α) (v : V) : Prop := Dp K H v (oK o)
theorem LnS.open {S : Addr → Prop} {p : Addr} {as : List α} (h : LnS K S H p as) : ∃ C dx q xs, S C ∧ H p = some (.ins C dx (lf q)) ∧ H q = some (.lst xs) ∧ DpAll K H xs (as.map D) := by
  obtain ⟨C, hC, dx, q, h1, xs, h2, h3⟩ := h
  exact ⟨C, dx, q, xs, hC, h1, h2, h3⟩
end
end Gx
namespace Gx
open PySem L2
section
variable {α : Type} [Ln α] {K : PySem.W.Frag} {H H' : Hp}
open Kd
def withK (as : List α) (a : α) : List α := as.take (lessK as a) ++ a :: as.drop (lessK as a + (if a ∈ as then 1 else 0))
def withoutK (as : List α) (a : α) : List α := as.filter fun b => !decide (b = a)
theorem cut_to (xs : List V) (n : Nat) (h : n ≤ xs.length) : cutV xs none (some (n : Int)) = xs.take n := by
  unfold cutV
  have e1 : HT.sIx xs.length 0 none = 0 := rfl
  have e2 : HT.sIx xs.length xs.length (some (n : Int)) = n := by
    unfold HT.sIx
    dsimp only
    rw [if_neg (by omega)]
    simp
    omega
  rw [e1, e2]
  rfl
end
section
variable {α : Type} [Kd α] {K : PySem.W.Frag} {H H1 : Hp} {Q : VK} {σ : L2.St} {te : TE} {tt : TT} {g : TG} {vs : List Nat}
open Kd
end
end Gx

/-! The theory of reaches and cells, for both kinds of points, no program in sight -/
namespace Gx
open PySem L2
/-- how points lie to a range -/
class Rg (α : Type) extends Kb α where
  ah_down : ∀ {a b : α} {n : Int}, lt a b = true → ahead b n = true → ahead a n = true
  ah_mono : ∀ {a : α} {m n : Int}, m ≤ n → ahead a m = true → ahead a n = true
  by_up : ∀ {a b : α} {n : Int}, lt a b = true → beyond a n = true → beyond b n = true
  by_mono : ∀ {a : α} {m n : Int}, m ≤ n → beyond a n = true → beyond a m = true
  ah_lt : ∀ {a b : α} {n : Int}, asPt n = some b → ahead a n = lt a b
  by_gt : ∀ {a b : α} {n : Int}, asPt n = some b → beyond a n = lt b a
  as_lt : ∀ {a b : α} {m n : Int}, m < n → asPt m = some a → asPt n = some b → lt a b = true
  as_all : ∀ (m n : Int), (asPt m).isSome = (asPt n).isSome
  ah_by : ∀ {a : α} {m n : Int}, m ≤ n → ahead a m = true → beyond a n = false
  gap_r : ∀ {l : Option α} {y : α} {lo hi : Int}, ahead y lo = true → gap l (some y) lo hi = false
  gap_l : ∀ {r : Option α} {x : α} {lo hi : Int}, (∀ y, r = some y → lt x y = true) → beyond x hi = true → gap (some x) r lo hi = false
  gap_at : ∀ {l : Option α} {y : α} {lo hi : Int}, asPt lo = some y → gap l (some y) lo hi = false
  gap_to : ∀ {r : Option α} {x : α} {lo hi : Int}, asPt hi = some x → gap (some x) r lo hi = false
  gap_in : ∀ {l r : Option α} {lo hi : Int}, lo ≤ hi → (∀ x, l = some x → ahead x lo = true) → (∀ y, r = some y → ahead y lo = false ∧ asPt lo ≠ some y) → gap l r lo hi = true
  gap_on : ∀ {l r : Option α} {lo hi : Int}, lo ≤ hi → (∀ x, l = some x → beyond x hi = false ∧ asPt hi ≠ some x) → (∀ y, r = some y → beyond y hi = true) → gap l r lo hi = true
theorem gapInt {l r : Option Int} {lo hi : Int} : gapIn l r lo hi = true ↔ (match l with | none => lo | some x => max lo (x + 1)) ≤ (match r with | none => hi | some y => min hi (y - 1)) := by
  unfold gapIn
  rw [decide_eq_true_iff]
  have e1 : leastOf lo l = (match l with | none => lo | some x => max lo (x + 1)) := by
    cases l with
    | none => rfl
    | some x =>
      show (if x + 1 > lo then x + 1 else lo) = max lo (x + 1)
      split <;> omega
  have e2 : mostOf hi r = (match r with | none => hi | some y => min hi (y - 1)) := by
    cases r with
    | none => rfl
    | some y =>
      show (if y - 1 < hi then y - 1 else hi) = min hi (y - 1)
      split <;> omega
  rw [e1, e2]
instance : Rg Int where
  ah_down h1 h2 := by simp [Kd.lt, Ln.ahead] at *; omega
  ah_mono h1 h2 := by simp [Ln.ahead] at *; omega
  by_up h1 h2 := by simp [Kd.lt, Ln.beyond] at *; omega
  by_mono h1 h2 := by simp [Ln.beyond] at *; omega
  ah_lt h := by cases h; rfl
  by_gt h := by cases h; rfl
  as_lt h h1 h2 := by cases h1; cases h2; simp [Kd.lt]; exact h
  as_all m n := rfl
  ah_by h1 h2 := by simp [Ln.ahead, Ln.beyond] at *; omega
  gap_r := fun {l y lo hi} h => by
    simp [Ln.ahead] at h
    refine Bool.eq_false_iff.mpr fun z => ?_
    have z := gapInt.mp z
    cases l <;> simp at z <;> omega
  gap_l := fun {r x lo hi} _ h => by
    simp [Ln.beyond] at h
    refine Bool.eq_false_iff.mpr fun z => ?_
    have z := gapInt.mp z
    cases r <;> simp at z <;> omega
  gap_at := fun {l y lo hi} h => by
    cases h
    refine Bool.eq_false_iff.mpr fun z => ?_
    have z := gapInt.mp z
    cases l <;> simp at z <;> omega
  gap_to := fun {r x lo hi} h => by
    cases h
    refine Bool.eq_false_iff.mpr fun z => ?_
    have z := gapInt.mp z
    cases r <;> simp at z <;> omega
  gap_in := fun {l r lo hi} h h1 h2 => by
    refine gapInt.mpr ?_
    cases l with
    | none =>
      cases r with
      | none => exact h
      | some y =>
        obtain ⟨a, b⟩ := h2 y rfl
        have b : lo ≠ y := fun e => b (by rw [e]; rfl)
        simp [Ln.ahead] at a ⊢
        omega
    | some x =>
      have c := h1 x rfl
      cases r with
      | none => simp [Ln.ahead] at c ⊢; omega
      | some y =>
        obtain ⟨a, b⟩ := h2 y rfl
        have b : lo ≠ y := fun e => b (by rw [e]; rfl)
        simp [Ln.ahead] at a c ⊢
        omega
  gap_on := fun {l r lo hi} h h1 h2 => by
    refine gapInt.mpr ?_
    cases r with
    | none =>
      cases l with
      | none => exact h
      | some y =>
        obtain ⟨a, b⟩ := h1 y rfl
        have b : hi ≠ y := fun e => b (by rw [e]; rfl)
        simp [Ln.beyond] at a ⊢
        omega
    | some x =>
      have c := h2 x rfl
      cases l with
      | none => simp [Ln.beyond] at c ⊢; omega
      | some y =>
        obtain ⟨a, b⟩ := h1 y rfl
        have b : hi ≠ y := fun e => b (by rw [e]; rfl)
        simp [Ln.beyond] at a c ⊢
        omega
instance : Rg Pr where
  ah_down h1 h2 := by simp [Kd.lt, prLt, Ln.ahead] at *; omega
  ah_mono h1 h2 := by simp [Ln.ahead] at *; omega
  by_up h1 h2 := by simp [Kd.lt, prLt, Ln.beyond] at *; omega
  by_mono h1 h2 := by simp [Ln.beyond] at *; omega
  ah_lt h := by cases h
  by_gt h := by cases h
  as_lt h h1 h2 := by cases h1
  as_all m n := rfl
  ah_by h1 h2 := by simp [Ln.ahead, Ln.beyond] at *; omega
  gap_r := fun {l y lo hi} h => by
    simp [Ln.ahead] at h
    cases l with
    | none => simp [Ln.gap, gapV]; omega
    | some x =>
      simp only [Ln.gap, gapV]
      split
      · rename_i e
        simp; omega
      · simp; omega
  gap_l := fun {r x lo hi} u h => by
    simp [Ln.beyond] at h
    cases r with
    | none => simp [Ln.gap, gapV]; omega
    | some y =>
      have u := u y rfl
      simp [Kd.lt, prLt] at u
      simp only [Ln.gap, gapV]
      split
      · rename_i e
        simp; omega
      · simp; omega
  gap_at h := by cases h
  gap_to h := by cases h
  gap_in := fun {l r lo hi} h h1 h2 => by
    cases l with
    | none =>
      cases r with
      | none => rfl
      | some y =>
        have a := (h2 y rfl).1
        simp [Ln.ahead] at a
        simp [Ln.gap, gapV]; omega
    | some x =>
      have c := h1 x rfl
      simp [Ln.ahead] at c
      cases r with
      | none => simp [Ln.gap, gapV]; omega
      | some y =>
        have a := (h2 y rfl).1
        simp [Ln.ahead] at a
        have ne : ¬ x.1 = y.1 := by omega
        simp only [Ln.gap, gapV, if_neg ne]
        simp; omega
  gap_on := fun {l r lo hi} h h1 h2 => by
    cases r with
    | none =>
      cases l with
      | none => rfl
      | some y =>
        have a := (h1 y rfl).1
        simp [Ln.beyond] at a
        simp [Ln.gap, gapV]; omega
    | some x =>
      have c := h2 x rfl
      simp [Ln.beyond] at c
      cases l with
      | none => simp [Ln.gap, gapV]; omega
      | some y =>
        have a := (h1 y rfl).1
        simp [Ln.beyond] at a
        have ne : ¬ y.1 = x.1 := by omega
        simp only [Ln.gap, gapV, if_neg ne]
        simp; omega
section
variable {α : Type} [Rg α]
open Kd
theorem lastK_most : ∀ {ks : List α} {z : α}, Up ks → ks.getLast? = some z → ∀ y ∈ ks, y = z ∨ lt y z = true
  | [], _, _, h, _, _ => by cases h
  | [a], z, _, h, y, hy => by
    rw [List.mem_singleton.mp hy]
    exact .inl (by simpa using h)
  | a :: b :: r, z, p, h, y, hy => by
    have h2 : (b :: r).getLast? = some z := by rw [List.getLast?_cons_cons] at h; exact h
    have ih := lastK_most (List.pairwise_cons.mp p).2 h2
    rcases List.mem_cons.mp hy with rfl | hy
    · have h3 := (List.pairwise_cons.mp p).1 b List.mem_cons_self
      rcases ih b List.mem_cons_self with e | e
      · rw [← e]; exact .inr h3
      · exact .inr (tran _ _ _ h3 e)
    · exact ih y hy
theorem lastF {ks : List α} {c : α → Bool} {z : α} (p : Up ks) (h : (ks.filter c).getLast? = some z) : z ∈ ks ∧ c z = true ∧ ∀ y ∈ ks, c y = true → y = z ∨ lt y z = true := by
  obtain ⟨m, cz⟩ := List.mem_filter.mp (List.mem_of_getLast? h)
  exact ⟨m, cz, fun y hy cy => lastK_most (List.Pairwise.sublist List.filter_sublist p) h y (List.mem_filter.mpr ⟨hy, cy⟩)⟩
/-! ### the first and the last cell that a range meets -/
def FirstOk (ks : List α) (l : Option α) (lo : Int) (c : Cell α) : Prop := (∃ b, Kb.asPt lo = some b ∧ b ∈ ks ∧ c = .pt b) ∨ (holdsK ks lo = false ∧ ∃ r, c = .gap (((ks.filter fun a => Ln.ahead a lo).getLast?).or l) r)
def LastOk (ks : List α) (hi : Int) (c : Cell α) : Prop := (∃ b, Kb.asPt hi = some b ∧ b ∈ ks ∧ c = .pt b) ∨ (holdsK ks hi = false ∧ ∃ l, c = .gap l ((ks.filter fun a => Ln.beyond a hi).head?))
/-! ### the ends of a reach -/
def LeftIs (ks : List α) (lo : Int) (l : Option α) (h : Bool) : Prop :=
  (∃ b, Kb.asPt lo = some b ∧ b ∈ ks ∧ l = some b ∧ h = true) ∨
  (h = false ∧ (∀ b, Kb.asPt lo = some b → ¬ b ∈ ks) ∧ ((l = none ∧ ∀ y ∈ ks, Ln.ahead y lo = false) ∨ ∃ z, z ∈ ks ∧ l = some z ∧ Ln.ahead z lo = true ∧ ∀ y ∈ ks, Ln.ahead y lo = true → y = z ∨ lt y z = true))
def RightIs (ks : List α) (hi : Int) (r : Option α) (h : Bool) : Prop :=
  (∃ b, Kb.asPt hi = some b ∧ b ∈ ks ∧ r = some b ∧ h = true) ∨
  (h = false ∧ (∀ b, Kb.asPt hi = some b → ¬ b ∈ ks) ∧ ((r = none ∧ ∀ y ∈ ks, Ln.beyond y hi = false) ∨ ∃ z, z ∈ ks ∧ r = some z ∧ Ln.beyond z hi = true ∧ ∀ y ∈ ks, Ln.beyond y hi = true → y = z ∨ lt z y = true))
/-- a reach is a part of another one -/
def partL (l1 : Option α) (h1 : Bool) (l2 : Option α) (h2 : Bool) : Bool := match l2 with
  | none => true
  | some z => match l1 with
    | none => false
    | some y => !(lt y z || (decide (y = z) && (h1 && !h2)))
def partR (r1 : Option α) (h1 : Bool) (r2 : Option α) (h2 : Bool) : Bool := match r2 with
  | none => true
  | some z => match r1 with
    | none => false
    | some y => !(lt z y || (decide (y = z) && (h1 && !h2)))
end
/-! ### a point more, a point less -/
section
variable {α : Type} [Ln α]
open Kd
/-- ascending lists with the same things are the same -/
theorem up_ext : ∀ {as bs : List α}, Up as → Up bs → (∀ x, x ∈ as ↔ x ∈ bs) → as = bs
  | [], [], _, _, _ => rfl
  | [], b :: bs, _, _, h => by have := (h b).mpr List.mem_cons_self; cases this
  | a :: as, [], _, _, h => by have := (h a).mp List.mem_cons_self; cases this
  | a :: as, b :: bs, ua, ub, h => by
    obtain ⟨a1, a2⟩ := List.pairwise_cons.mp ua
    obtain ⟨b1, b2⟩ := List.pairwise_cons.mp ub
    have e : a = b := by
      rcases List.mem_cons.mp ((h a).mp List.mem_cons_self) with e | m
      · exact e
      · rcases List.mem_cons.mp ((h b).mpr List.mem_cons_self) with e | m2
        · exact e.symm
        · have := tran _ _ _ (b1 a m) (a1 b m2)
          rw [irr] at this
          cases this
    subst e
    rw [up_ext a2 b2 fun x => ?_]
    constructor
    · intro m
      rcases List.mem_cons.mp ((h x).mp (List.mem_cons_of_mem _ m)) with rfl | z
      · have := a1 x m
        rw [irr] at this
        cases this
      · exact z
    · intro m
      rcases List.mem_cons.mp ((h x).mpr (List.mem_cons_of_mem _ m)) with rfl | z
      · have := b1 x m
        rw [irr] at this
        cases this
      · exact z
end
section
variable {α : Type} [Rg α]
open Kd
end
end Gx

/-! repr of any data: None, bools, ints, texts, lists, tuples -/
namespace Gx
open PySem L2 PySem.Spec PyProof.Rows
def rReprV (K : PySem.W.Frag) : List V → Hp → VK → Prop := fun xs H Q => ∃ x d, xs = [x] ∧ Dp K H x d ∧ SeqAt.shaped d = true ∧ d.showable = true ∧ d.shown.length ≤ sizeLine ∧ Q (.str d.shown) H
end Gx

/-! Joins of statements; two promises of a guarded def as one; what a reach shows -/
namespace Gx
open PySem L2
theorem g_cutS {t : TS} {D : Ends} {σ : L2.St} {H : Hp} (N : L2.St → Hp → Prop) (h : ∀ D' : Ends, D'.rt = D.rt → (∀ σ' H', N σ' H' → D'.nx σ' H') → t D' σ H) (q : ∀ σ' H', N σ' H' → D.nx σ' H') : t D σ H := h D rfl q
section
variable {P : Program} {w : World} {K : PySem.W.Frag} {mg : Str → Option Value} {base : Heap}
def spOr (s1 s2 : Sp) : Sp := fun vs H Q E => s1 vs H Q E ∨ s2 vs H Q E
end
section
variable {α : Type} [Rg α]
open Kd
end
end Gx

/-! Lists of data of any kind: compared, searched, filtered, joined, gone through -/
namespace Gx
open PySem L2 PySem.Spec PyProof.Rows
/-- a kind of data -/
class Da (β : Type) where
  dec : DecidableEq β
  D : β → PyData
  inj : ∀ a b, D a = D b → a = b
  bar : ∀ a, bare (D a) = true
  lay : ∀ a, (D a).canLay0 = true
  dep : ∀ a, (D a).depth ≤ 8
  nol : ∀ a, noLst (D a) = true
def cellDec {α : Type} [Kd α] : DecidableEq (Cell α)
  | .gap a b, .gap c d => if h : a = c ∧ b = d then .isTrue (by rw [h.1, h.2]) else .isFalse (by rintro e; cases e; exact h ⟨rfl, rfl⟩)
  | .pt a, .pt b => if h : a = b then .isTrue (by rw [h]) else .isFalse (by rintro e; cases e; exact h rfl)
  | .gap _ _, .pt _ => .isFalse nofun
  | .pt _, .gap _ _ => .isFalse nofun
instance {α : Type} [Kd α] : DecidableEq (Cell α) := cellDec
section
variable {α : Type} [Ln α]
theorem oK_injC {o o' : Option α} (h : (oK o : PyData) = oK o') : o = o' := by
  cases o with
  | none =>
    cases o' with
    | none => rfl
    | some b => exact absurd h.symm (Kd.nn b)
  | some a =>
    cases o' with
    | none => exact absurd h (Kd.nn a)
    | some b => rw [Kd.inj a b h]
theorem bare_o (o : Option α) : bare (oK o) = true := by
  cases o with
  | none => simp [oK, bare]
  | some a => exact Kd.bar a
theorem lay_o (o : Option α) : (oK o).canLay0 = true := by
  cases o with
  | none => simp [oK, PyData.canLay0]
  | some a => exact Kd.lay a
theorem dep_o (o : Option α) : (oK o).depth ≤ 1 := by
  cases o with
  | none => simp [oK, PyData.depth]
  | some a => exact Kd.dep a
instance : Da (Cell α) where
  dec := cellDec
  D := cellD
  inj a b h := by
    cases a with
    | gap l r =>
      cases b with
      | gap l' r' =>
        simp only [cellD, gapK, PyData.tuple.injEq, List.cons.injEq] at h
        rw [oK_injC h.2.1, oK_injC h.2.2.1]
      | pt b => simp [cellD, gapK, pointK] at h
    | pt a =>
      cases b with
      | gap l' r' => simp [cellD, gapK, pointK] at h
      | pt b =>
        simp only [cellD, pointK, PyData.tuple.injEq, List.cons.injEq] at h
        rw [Kd.inj a b h.2.1]
  bar a := by
    cases a with
    | gap l r => simp [cellD, gapK, bare, bareAll, bare_o]
    | pt a => simp [cellD, pointK, bare, bareAll, Kd.bar]
  lay a := by
    cases a with
    | gap l r => simp [cellD, gapK, PyData.canLay0, PyData.canLayAll0, lay_o]; decide +kernel
    | pt a => simp [cellD, pointK, PyData.canLay0, PyData.canLayAll0, Kd.lay]; decide +kernel
  dep a := by
    cases a with
    | gap l r =>
      have h1 := dep_o l
      have h2 := dep_o r
      simp only [cellD, gapK, PyData.depth, PyData.depthAll]
      omega
    | pt a =>
      have h1 := Kd.dep a
      simp only [cellD, pointK, PyData.depth, PyData.depthAll]
      omega
  nol := nol_cellD
end
section
variable {β : Type} [Da β] {K : PySem.W.Frag} {H H' : Hp} {Q : VK}
open Da
instance daDec : DecidableEq β := Da.dec
theorem da_eqv (a b : β) : PyData.eqv (D a) (D b) = decide (a = b) := by
  by_cases h : a = b
  · rw [decide_eq_true h, eqv_yes (bar a) (bar b) (by rw [h])]
  · rw [decide_eq_false h, eqv_no (bar a) (bar b) fun z => h (inj a b z)]
theorem da_shape (a : β) : SeqAt.shaped (D a) = true := by
  have h := dep a
  have h2 : (D a).depth ≤ 64 := by omega
  unfold SeqAt.shaped
  rw [lay a, decide_eq_true h2] <;> rfl
theorem da_lays (as : List β) : PyData.canLayAll0 (as.map D) = true := by
  induction as with
  | nil => simp [PyData.canLayAll0]
  | cons a as ih => simp [PyData.canLayAll0, lay a, ih]
theorem da_shapes (as : List β) : SeqAt.shaped (.list (as.map D)) = true := by
  unfold SeqAt.shaped
  have h2 : PyData.depthAll (as.map D) ≤ 8 := depthAll_le fun x hx => by
    obtain ⟨n, _, rfl⟩ := List.mem_map.mp hx
    exact dep n
  have h3 : PyData.depthAll (as.map D) + 1 ≤ 64 := by omega
  simp [PyData.canLay0, PyData.depth, da_lays as, h3]
theorem da_bares (as : List β) : bare (.list (as.map D)) = true := by
  simp only [bare]
  exact bareAll_iff.mpr fun x hx => by
    obtain ⟨n, _, rfl⟩ := List.mem_map.mp hx
    exact bar n
theorem da_injs : ∀ {as bs : List β}, as.map D = bs.map D → as = bs
  | [], [], _ => rfl
  | [], _ :: _, h => by simp at h
  | _ :: _, [], h => by simp at h
  | a :: as, b :: bs, h => by
    rw [List.map_cons, List.map_cons] at h
    injection h with h1 h2
    rw [inj a b h1, da_injs h2]
theorem da_eqvs (as bs : List β) : PyData.eqv (.list (as.map D)) (.list (bs.map D)) = decide (as = bs) := by
  by_cases h : as = bs
  · rw [decide_eq_true h, eqv_yes (da_bares _) (da_bares _) (by rw [h])]
  · rw [decide_eq_false h, eqv_no (da_bares _) (da_bares _) fun z => h (da_injs (by injection z))]
theorem da_nols (as : List β) : noLstAll (as.map D) = true := noLstAll_iff.mpr fun d hd => by
  obtain ⟨n, _, rfl⟩ := List.mem_map.mp hd
  exact nol n
theorem da_any (as : List β) (a : β) : ((as.map D).any fun z => PyData.eqv z (D a)) = decide (a ∈ as) := by
  rw [List.any_map]
  induction as with
  | nil => simp
  | cons b as ih =>
    rw [List.any_cons, ih]
    show (PyData.eqv (D b) (D a) || _) = _
    rw [da_eqv]
    by_cases h : b = a
    · subst h
      simp
    · have h2 : ¬ a = b := fun z => h z.symm
      simp [h, h2]
/-- a list of such data in the heap -/
def DtL (K : PySem.W.Frag) (H : Hp) (p : Addr) (as : List β) : Prop := ∃ xs, H p = some (.lst xs) ∧ DpAll K H xs (as.map D)
theorem DtL.same {p : Addr} {as : List β} (h : DtL K H p as) (s : Same H H') : DtL K H' p as := by
  obtain ⟨xs, e, d⟩ := h
  exact ⟨xs, s _ _ e, dp_sameAll s _ _ d⟩
theorem DtL.dp {p : Addr} {as : List β} (h : DtL K H p as) : Dp K H (.ref p) (.list (as.map D)) := by
  obtain ⟨xs, e, d⟩ := h
  exact .lst (SqL.of e) d
theorem dts_len {xs : List V} {as : List β} (d : DpAll K H xs (as.map D)) : xs.length = as.length := by rw [dpAll_len d, List.length_map]
theorem dts_at {xs : List V} {as : List β} {i : Nat} {x : V} (d : DpAll K H xs (as.map D)) (h : xs[i]? = some x) : ∃ b, as[i]? = some b ∧ Dp K H x (D b) := datas_at d h
theorem g_eqL {p q : Addr} {as bs : List β} (h1 : DtL K H p as) (h2 : DtL K H q bs) (k : Q (.bl (decide (as = bs))) H) : rEqD K (.ref p) (.ref q) H Q := by
  refine g_eqD h1.dp h2.dp (da_shapes _) (da_shapes _) ?_
  rw [da_eqvs]
  exact k
theorem g_neL {p q : Addr} {as bs : List β} (h1 : DtL K H p as) (h2 : DtL K H q bs) (k : Q (.bl (!decide (as = bs))) H) : rNeD K (.ref p) (.ref q) H Q := by
  refine g_neD h1.dp h2.dp (da_shapes _) (da_shapes _) ?_
  rw [da_eqvs]
  exact k
theorem g_neNilL {p q : Addr} {as : List β} (h1 : DtL K H p as) (e : H q = some (.lst [])) (k : Q (.bl (!decide (as = []))) H) : rNeD K (.ref p) (.ref q) H Q := g_neL h1 ⟨[], e, .nil⟩ k
theorem g_inL {x : V} {p : Addr} {a : β} {as : List β} (h1 : Dp K H x (D a)) (h2 : DtL K H p as) (k : Q (.bl (decide (a ∈ as))) H) : rInDL K false x (.ref p) H Q := by
  refine ⟨_, _, h1, h2.dp, da_shape a, da_shapes as, Nat.le_trans (dep a) (by decide), ?_⟩
  rw [if_neg (by decide), da_any]
  exact k
theorem g_notInL {x : V} {p : Addr} {a : β} {as : List β} (h1 : Dp K H x (D a)) (h2 : DtL K H p as) (k : Q (.bl (!decide (a ∈ as))) H) : rInDL K true x (.ref p) H Q := by
  refine ⟨_, _, h1, h2.dp, da_shape a, da_shapes as, Nat.le_trans (dep a) (by decide), ?_⟩
  rw [if_pos rfl, da_any]
  exact k
variable {H1 : Hp} {σ : L2.St} {te : TE} {tt : TT} {g : TG} {vs : List Nat}
/-- those of a list that pass a test -/
theorem lc_filtL {p : Addr} {as : List β} (h : DtL K H1 p as) (hn : as.length ≤ 100000) (c : β → Bool)
    (turn : ∀ (x : V) (b : β) H' (Nx : V → Hp → Prop) (No : Hp → Prop), b ∈ as → Dp K H' x (D b) → Same H1 H' → (∀ H4, Same H' H4 → c b = true → Nx x H4) → (∀ H4, Same H' H4 → c b = false → No H4) →
      g x (wipe σ vs) H' fun σ2 H2 => wipe σ2 vs = wipe σ vs ∧ tt σ2 H2 fun b H3 => if b = true then te σ2 H3 Nx else No H3)
    (done : ∀ p H', H1 p = none → Same H1 H' → DtL K H' p (as.filter c) → Q (.ref p) H') : (∃ xs, SqL K H1 p xs) ∧ LC g tt te vs (Itl K p) σ H1 Q := by
  obtain ⟨xs, e, d⟩ := h
  have ln := dts_len d
  exact ⟨⟨_, SqL.of e⟩, lc_filtD D nol (SqL.of e) d (by omega) c turn fun p acc H' h1 s e2 d2 => done p H' h1 s ⟨acc, e2, d2⟩⟩
/-- .. something of each that passes -/
theorem lc_someL {γ : Type} [Da γ] {p : Addr} {as : List β} (h : DtL K H1 p as) (hn : as.length ≤ 100000) (f : β → Option γ)
    (turn : ∀ (x : V) (b : β) H' (Nx : V → Hp → Prop) (No : Hp → Prop), b ∈ as → Dp K H' x (D b) → Same H1 H' → (∀ y c H4, Same H' H4 → f b = some c → Dp K H4 y (D c) → Nx y H4) → (∀ H4, Same H' H4 → f b = none → No H4) →
      g x (wipe σ vs) H' fun σ2 H2 => wipe σ2 vs = wipe σ vs ∧ tt σ2 H2 fun b H3 => if b = true then te σ2 H3 Nx else No H3)
    (done : ∀ p H', H1 p = none → Same H1 H' → DtL K H' p (as.filterMap f) → Q (.ref p) H') : (∃ xs, SqL K H1 p xs) ∧ LC g tt te vs (Itl K p) σ H1 Q := by
  obtain ⟨xs, e, d⟩ := h
  have ln := dts_len d
  refine ⟨⟨_, SqL.of e⟩, lc_src (n := xs.length) (src_list (SqL.of e)) (by omega) (fun i acc H' => DpAll K H' acc (((as.take i).filterMap f).map D)) (fun _ _ _ _ _ _ e _ _ b a => dp_butAll e b _ _ (da_nols _) a) (fun _ _ => .nil) (fun i x acc H' Nx No lt s it a hl k1 k2 => ?_) fun p acc H' h1 s e a _ => done p H' h1 s ⟨acc, e, by rw [ln, List.take_length] at a; exact a⟩⟩
  obtain ⟨b, hb, hx⟩ := dts_at (dp_sameAll s _ _ d) it
  have tk : as.take (i + 1) = as.take i ++ [b] := by
    rw [List.take_succ, hb]
    rfl
  refine turn x b H' Nx No (List.mem_of_getElem? hb) hx s (fun y c H4 s4 h hy => k1 y H4 s4 ?_) (fun H4 s4 h => k2 H4 s4 ?_)
  · rw [tk, List.filterMap_append, List.map_append]
    simp only [List.filterMap_cons, h, List.filterMap_nil, List.map_cons, List.map_nil]
    exact dpAll_append (dp_sameAll s4 _ _ a) (.cons hy .nil)
  · rw [tk, List.filterMap_append, List.map_append]
    simp only [List.filterMap_cons, h, List.filterMap_nil, List.map_nil, List.append_nil]
    exact dp_sameAll s4 _ _ a
theorem fw_dts {p : Addr} {as : List β} {tb : TS} {D' : Ends} (h : DtL K H p as) (Pv : Nat → L2.St → Hp → Prop) (sm : ∀ i σ H', Pv i σ H' → Same H H') (h0 : Pv 0 σ H)
    (hs : ∀ i x (a : β) σ H', as[i]? = some a → Pv i σ H' → Dp K H' x (D a) → g x σ H' fun σ2 H2 => tb { D' with nx := Pv (i + 1), ct := Pv (i + 1), bk := D'.nx } σ2 H2) (hd : ∀ σ H', Pv as.length σ H' → D'.nx σ H') : FW g tb D' (Itl K p) σ H := by
  obtain ⟨xs, e, d⟩ := h
  have ln := dts_len d
  refine fw_list (xs := xs) Pv h0 (fun i σ H' _ pv => SqL.of (sm i σ H' pv _ _ e)) (fun i x σ H' hx pv => ?_) (fun σ H' pv => hd σ H' (by rw [ln] at pv; exact pv))
  obtain ⟨a, ha, dx⟩ := dts_at (dp_sameAll (sm i σ H' pv) _ _ d) hx
  exact hs i x a σ H' ha pv dx
theorem g_lenD {q : Addr} {as : List β} (h : DtL K H q as) (k : Q (.int (as.length : Int)) H) : rLenQ K [V.ref q] H Q := by
  obtain ⟨xs, e, d⟩ := h
  refine g_len (SqL.of e) ?_
  rw [dts_len d]
  exact k
end
/-- points are data -/
instance (priority := 50) daKd {α : Type} [k : Kd α] : Da α where
  dec := k.dec
  D := k.D
  inj := k.inj
  bar := k.bar
  lay := k.lay
  dep a := Nat.le_trans (k.dep a) (by decide)
  nol := k.nol
theorem dt_of_pts {α : Type} [Kd α] {K : PySem.W.Frag} {H : Hp} {p : Addr} {as : List α} (h : PtsL K H p as) : DtL K H p as := h
end Gx
namespace Gx
open PySem L2
instance daOpt {α : Type} [Ln α] : Da (Option α) where
  dec := inferInstance
  D := oK
  inj _ _ h := oK_injC h
  bar := bare_o
  lay := lay_o
  dep a := Nat.le_trans (dep_o a) (by decide)
  nol := nol_o
end Gx
namespace Gx
open PySem L2
end Gx

/-! Things of any kind: which of them are points -/
namespace Gx
open PySem L2 PySem.Spec PyProof.Rows
def isBoolD : PyData → Bool
  | .bool _ => true
  | _ => false
def isIntD : PyData → Bool
  | .int _ => true
  | _ => false
def isTupD : PyData → Bool
  | .tuple _ => true
  | _ => false
section
variable {K : PySem.W.Frag} {H H' : Hp}
theorem sqL_ty {a : Addr} {xs : List V} (h : SqL K H a xs) : TyX K H (.ref a) (.type "list") := by
  rcases h with (e | ⟨ob, e⟩) | ⟨ob, _, _, e, c, _⟩
  · exact .base (.lst e)
  · exact .base (.frz e)
  · exact .kList e c
theorem dp_whole {x : V} {d : PyData} (h : Dp K H x d) : WholeV K H x (isIntD d) := by
  cases h with
  | non => exact .other (.base .non) (kit_ty (by decide +kernel))
  | bl c => exact .bl c
  | int i => exact .int i
  | str x => exact .other (.base (.str x)) (kit_ty (by decide +kernel))
  | lst a b => exact .other (sqL_ty a) (kit_ty (by decide +kernel))
  | tup a b => exact .other (sqT_ty a) (kit_ty (by decide +kernel))
/-- a thing, and the data that it is compared as: none for what is no point of any line -/
inductive ThK (K : PySem.W.Frag) (H : Hp) : V → Option PyData → Prop
  | other {x : V} {t : Value} (ty : TyX K H x t) (n1 : PySem.W.kitOne K t (.type "bool") = some false) (n2 : PySem.W.kitOne K t (.type "int") = some false) (n3 : PySem.W.kitOne K t (.type "tuple") = some false) : ThK K H x none
  | bl (c : Bool) : ThK K H (.bl c) none
  | int (i : Int) : ThK K H (.int i) (some (.int i))
  | tup {r : Addr} {xs : List V} {ds : List PyData} (e : SqT K H r xs) (d : DpAll K H xs ds) (few : ds.length ≤ 10) (sh : SeqAt.shaped (.tuple ds) = true) (br : ds.any isBoolD = false → bareAll ds = true) :
      ThK K H (.ref r) (if ds.any isBoolD = true then none else some (.tuple ds))
/-- is the thing one of these -/
def anyO (ds : List PyData) : Option PyData → Bool
  | none => false
  | some d => ds.any fun z => PyData.eqv z d
/-- points answer whether a thing is one of them -/
def HasTh (α : Type) [Ln α] : Prop := ∀ {K : PySem.W.Frag} {H : Hp} {x : V} {o : Option PyData} (as : List α), ThK K H x o → (∃ a : α, Dp K H x (Kd.D a) ∧ decide (a ∈ as) = anyO (as.map Kd.D) o) ∨ (Ln.pv α K H x false ∧ anyO (as.map Kd.D) o = false)
theorem two_of {ds : List PyData} (h : (decide (ds.length = 2) && (ds.map isIntD).all id) = true) : ∃ i j : Int, ds = [.int i, .int j] := by
  rw [Bool.and_eq_true, decide_eq_true_eq] at h
  obtain ⟨h1, h2⟩ := h
  match ds, h1, h2 with
  | [a, b], _, h2 =>
    simp at h2
    cases a <;> simp [isIntD] at h2
    cases b <;> simp [isIntD] at h2
    exact ⟨_, _, rfl⟩
end
end Gx

set_option maxHeartbeats 2000000
/-! Objects compared by their own ==, and != by it; their own len; constants of a class -/
namespace GxNe
open PySem PySem.Spec PyProof.Rows PySem.SeqAt
section
variable {M : Model} {prog : Program} {w : World} {A : Around} {E : Value → Shared → Prop} {s : Shared} {K : PySem.W.Frag} {x C f : Addr} {ox : Obj} {od : Option Obj} {b tb : Value}
end
end GxNe
namespace Gx
open PySem L2 PySem.Spec PyProof.Rows
open C8 (Cal Met Mak)
section
variable {X : Cx} {k j : Nat} {S : Addr → Prop} {sp : Addr → Sp}
/-- x == y (x != y), both of the same class among some -/
def rOwnE (S : Addr → Prop) (sp : Addr → Sp) (neg : Bool) : R2 := fun x y H Q => ∃ a b C dx dy fs gs, x = .ref a ∧ y = .ref b ∧ H a = some (.ins C dx fs) ∧ H b = some (.ins C dy gs) ∧ S C ∧ sp C [.ref a, .ref b] H (fun r H' => ∃ t, r = .bl t ∧ Q (.bl (if neg = true then !t else t)) H') (fun _ _ _ => False)
/-- the classes have no != of their own -/
def NoNe (K : PySem.W.Frag) (C : Addr) : Prop := PySem.W.findIn K (.ref C) "__ne__" = some (some (.builtin "object.__ne__")) ∧ PySem.W.mroIn K C (.type "object") = some true
/-- x == y, y of a class under that of x: y's own == is asked first -/
def rOwnR (C D : Addr) (sp : Sp) : R2 := fun x y H Q => ∃ a b dx dy fs gs, x = .ref a ∧ y = .ref b ∧ H a = some (.ins C dx fs) ∧ H b = some (.ins D dy gs) ∧ sp [.ref b, .ref a] H (fun r H' => ∃ t, r = .bl t ∧ Q (.bl t) H') (fun _ _ _ => False)
/-- len(x), x an object with a len of its own -/
def rLenF (S : Addr → Prop) (sp : Addr → Sp) : List V → Hp → VK → Prop := fun xs H Q => ∃ a C dx fs, xs = [.ref a] ∧ H a = some (.ins C dx fs) ∧ S C ∧ sp C [.ref a] H (fun r H' => ∃ n : Int, r = .int n ∧ 0 ≤ n ∧ n < 2 ^ 63 ∧ Q (.int n) H') (fun _ _ _ => False)
end
section
variable {σ : L2.St} {H : Hp} {Q : VK} {S : Addr → Prop} {sp : Addr → Sp} {a b C dx dy : Addr} {fs gs : List (Str × V)} {K : PySem.W.Frag}
/-- list(range(n)), list(range(m, n)) -/
def LRg (x : V) (H : Hp) (Q : VK) : Prop := ∃ n, x = .int n ∧ RgOk 0 n ∧ ∀ q, H q = none → Q (.ref q) (upd H q (.lst (rgV 0 n)))
def ConQ (K : PySem.W.Frag) (f : Str) (x : V) (H : Hp) (Q : VK) : Prop := ∃ a C dx fs v u, x = .ref a ∧ H a = some (.ins C dx fs) ∧ Cls K C ∧ Con K C f v u ∧ fs.lookup f = none ∧ Q v H
end
end Gx

set_option maxHeartbeats 4000000
/-! Membership in a dict; steps for dicts, for walks over texts as lists of signs -/
namespace Gx
open PySem L2 PySem.Spec PyProof.Rows SX TL
section
variable {X : Cx}
def rDIn (neg : Bool) : R2 := fun y x H Q => ∃ a o, x = .ref a ∧ DGet H a y o ∧ Q (.bl (if neg = true then !o.isSome else o.isSome)) H
end
section
variable {σ : L2.St} {H : Hp} {Q : VK} {K : PySem.W.Frag} {J : It} {n : Nat} {te td ty : TE}
theorem g_dget (q : td σ H fun x H1 => ty σ H1 fun y H2 => ∃ a v, x = .ref a ∧ DGet H2 a y (some v) ∧ Q v H2) : tDGet td ty σ H Q := q
end
end Gx

/-! Dicts of whole numbers by whole numbers: sorted keys, items as a list, what repr shows, == -/
namespace Gx
open PySem L2 PySem.Spec PyProof.Rows
/-- a table: keys and values, in the sequence of the dict -/
abbrev Tab := List (Int × Int)
def tabK (t : Tab) : List (Key × V) := t.map fun p => (.inl p.1, .int p.2)
def tabD (t : Tab) : PyData := .dict (t.map fun p => (.int p.1, .int p.2))
def keysT (t : Tab) : List Int := t.map (·.1)
def getT (t : Tab) (k : Int) : Option Int := (t.find? fun p => decide (p.1 = k)).map (·.2)
def putT (t : Tab) (k v : Int) : Tab := if (t.any fun p => decide (p.1 = k)) = true then t.map (fun p => if p.1 = k then (p.1, v) else p) else t ++ [(k, v)]
section
variable {X : Cx} {pins : List (Addr × Obj)} {σ : L2.St} {H : Hp} {s : Shared} {a : Addr} {t : Tab}
end
section
variable {X : Cx}
/-- sorted(d), any number of keys -/
def rSortTab : List V → Hp → VK → Prop := fun xs H Q => ∃ (a : Addr) (t : Tab), xs = [.ref a] ∧ Rd H a (.dK (tabK t)) ∧ ∀ (ys : List Int) (p : Addr), ys.Perm (keysT t) → ys.Pairwise (· ≤ ·) → H p = none → Q (.ref p) (upd H p (.lst (ys.map V.int)))
/-- d.items() -/
def rItemsK : V → List V → Hp → VK → Prop := fun x xs H Q => ∃ (a : Addr) (t : Tab), x = .ref a ∧ xs = [] ∧ H a = some (.dK (tabK t)) ∧ ∀ p, H p = none → Q (.ref p) (upd H p (L2.DX.itemsO p a))
/-- list(v), v the items of a dict: new pairs -/
def rListItems : List V → Hp → VK → Prop := fun xs H Q => ∃ (p a : Addr) (t : Tab), xs = [.ref p] ∧ H p = some (L2.DX.itemsO p a) ∧ H a = some (.dK (tabK t)) ∧
  ∀ (l : Addr) (ts : List Addr) (H' : Hp), H l = none → Same H H' → H' l = some (.lst (ts.map V.ref)) → ts.length = t.length → (∀ (i : Nat) b, ts[i]? = some b → ∃ q, t[i]? = some q ∧ H' b = some (.tup [.int q.1, .int q.2])) → Q (.ref l) H'
/-- repr(d) -/
def rReprTab : List V → Hp → VK → Prop := fun xs H Q => ∃ (a : Addr) (t : Tab), xs = [.ref a] ∧ Rd H a (.dK (tabK t)) ∧ (tabD t).showable = true ∧ (tabD t).shown.length ≤ sizeLine ∧ Q (.str (tabD t).shown) H
/-- two tables are alike -/
def likeT (t u : Tab) : Bool := t.length == u.length && t.all fun p => decide (getT u p.1 = some p.2)
def rEqTab : R2 := fun x y H Q => ∃ (a b : Addr) (t u : Tab), x = .ref a ∧ y = .ref b ∧ Rd H a (.dK (tabK t)) ∧ Rd H b (.dK (tabK u)) ∧ Q (.bl (likeT t u)) H
end
end Gx

set_option maxHeartbeats 2000000
/-! Dicts of whole numbers by whole numbers and texts; what repr shows of any thing; str of data -/
namespace Gx
open PySem L2 PySem.Spec PyProof.Rows
/-- a table with keys of both kinds -/
abbrev MTab := List (Key × Int)
def keyD : Key → PyData
  | .inl i => .int i
  | .inr x => .str x
def mtabK (t : MTab) : List (Key × V) := t.map fun p => (p.1, .int p.2)
def mtabD (t : MTab) : PyData := .dict (t.map fun p => (keyD p.1, .int p.2))
theorem mtab_len (t : MTab) : (mtabK t).length = t.length := List.length_map _
section
variable {X : Cx} {pins : List (Addr × Obj)} {σ : L2.St} {H : Hp} {s : Shared} {a : Addr} {t : MTab}
theorem mtab_at (I : Inv X pins σ H s) (h : Rd H a (.dK (mtabK t))) : t.length ≤ sizeLine ∧ (a == sysModules) = false ∧ ∃ vs : List (Key × Value), vs.length = t.length ∧ (∀ (i : Nat) q, vs[i]? = some q → ∃ p u, t[i]? = some p ∧ q = (p.1, .int p.2 u)) ∧ s.heap.DictOf (mixKind X.prog X.w) a vs := by
  obtain ⟨z, lo, vs, rel, dd⟩ := dk_rd I.hok h
  rw [mtab_len] at z
  have e : ∀ {t : MTab} {vs : List (Key × Value)}, KV (mtabK t) vs → vs.length = t.length ∧ ∀ (i : Nat) q, vs[i]? = some q → ∃ p u, t[i]? = some p ∧ q = (p.1, .int p.2 u) := by
    intro t
    induction t with
    | nil =>
      intro vs r
      cases r
      exact ⟨rfl, fun i q z => by simp at z⟩
    | cons p t ih =>
      intro vs r
      cases r with
      | @cons _ q _ qs h1 h2 =>
        obtain ⟨l, g⟩ := ih h2
        refine ⟨by rw [List.length_cons, List.length_cons, l], fun i y hy => ?_⟩
        cases i with
        | zero =>
          obtain rfl := Option.some.inj hy
          obtain ⟨k1, u, k2⟩ := h1
          exact ⟨p, u, rfl, by rw [← k2]; exact Prod.ext k1.symm rfl⟩
        | succ i => exact g i y hy
  obtain ⟨l, g⟩ := e rel
  exact ⟨z, lo, vs, l, g, dd⟩
theorem mtab_reads (I : Inv X pins σ H s) (h : Rd H a (.dK (mtabK t))) : Reads s.heap (.ref a) (mtabD t) [a] ∧ a ≠ sysModules := by
  obtain ⟨z, lo, vs, lv, ent, o, es, ep, ho, ex, da, ko, pr, _⟩ := mtab_at I h
  have all : ∀ {es : List DictEntry} {vs : List (Key × Value)} {t : MTab}, Pairs (mixKind X.prog X.w) es vs → vs.length = t.length → (∀ (i : Nat) q, vs[i]? = some q → ∃ p u, t[i]? = some p ∧ q = (p.1, .int p.2 u)) →
      ReadsAll s.heap (es.map (·.key)) (t.map fun p => keyD p.1) [] ∧ ReadsAll s.heap (es.map (·.val)) (t.map fun p => .int p.2) [] := by
    intro es vs t pr
    induction pr generalizing t with
    | nil =>
      intro l _
      cases t with
      | nil => exact ⟨.nil, .nil⟩
      | cons p t => cases l
    | @cons e kv es kvs h1 h2 _ ih =>
      intro l g
      cases t with
      | nil => cases l
      | cons p t =>
        obtain ⟨p2, u, hp, eq⟩ := g 0 kv rfl
        obtain rfl := Option.some.inj hp
        subst eq
        obtain ⟨i1, i2⟩ := ih (Nat.succ.inj l) fun i q hq => g (i + 1) q hq
        have e1 : keyIs p.1 e.key = true := h1
        refine ⟨?_, ?_⟩
        · rw [List.map_cons, List.map_cons]
          rcases keyIs_shape e1 with ⟨i, tt, ek, ev⟩ | ⟨y, tt, ek, ev⟩
          · rw [ek, ev]
            exact ReadsAll.cons (Reads.int (h := s.heap) i tt) i1
          · rw [ek, ev]
            exact ReadsAll.cons (Reads.str (h := s.heap) y tt) i1
        · have c := ReadsAll.cons (Reads.int (h := s.heap) p.2 u) i2
          rw [List.map_cons, h2]
          exact c
  obtain ⟨r1, r2⟩ := all pr lv ent
  have ne : a ≠ sysModules := fun z => by
    rw [z] at lo
    exact absurd lo (by simp)
  refine ⟨?_, ne⟩
  have m1 : (t.map fun p => ((keyD p.1, .int p.2) : PyData × PyData)).map (·.1) = t.map fun p => keyD p.1 := by simp
  have m2 : (t.map fun p => ((keyD p.1, .int p.2) : PyData × PyData)).map (·.2) = t.map fun p => .int p.2 := by simp
  exact Reads.dict ho ex.1 da (m1 ▸ r1) (m2 ▸ r2)
end
/-- what repr shows of a thing -/
inductive ShK (K : PySem.W.Frag) (H : Hp) : V → Str → Prop
  | dat {x : V} {d : PyData} (h : Dp K H x d) (sh : SeqAt.shaped d = true) (sw : d.showable = true) (sz : d.shown.length ≤ sizeLine) : ShK K H x d.shown
  | tab {a : Addr} {t : MTab} (h : Rd H a (.dK (mtabK t))) (sw : (mtabD t).showable = true) (sz : (mtabD t).shown.length ≤ sizeLine) : ShK K H (.ref a) (mtabD t).shown
def rReprS (K : PySem.W.Frag) : List V → Hp → VK → Prop := fun xs H Q => ∃ x y, xs = [x] ∧ ShK K H x y ∧ Q (.str y) H
/-- str of whole numbers and tuples, lists -/
def rStrV (K : PySem.W.Frag) : List V → Hp → VK → Prop := fun xs H Q => ∃ x d, xs = [x] ∧ Dp K H x d ∧ (∀ y, d ≠ .str y) ∧ (∀ b, d ≠ .bool b) ∧ d ≠ .none ∧ SeqAt.shaped d = true ∧ d.showable = true ∧ d.shown.length ≤ sizeLine ∧ Q (.str d.shown) H
/-- a pair of whole numbers -/
def isPairD : PyData → Bool
  | .tuple ds => decide (ds.length = 2) && (ds.map isIntD).all id
  | _ => false
theorem dp_pair {K : PySem.W.Frag} {H : Hp} {x : V} {d : PyData} (h : Dp K H x d) : PairV K H x (isPairD d) := by
  cases h with
  | non => exact .other (.base .non) (kit_ty (by decide +kernel))
  | bl c => exact .other (.base (.bl c)) (kit_ty (by decide +kernel))
  | int i => exact .other (.base (.int i)) (kit_ty (by decide +kernel))
  | str x => exact .other (.base (.str x)) (kit_ty (by decide +kernel))
  | lst a b => exact .other (sqL_ty a) (kit_ty (by decide +kernel))
  | @tup r xs ds e d =>
    have ln := dpAll_len d
    have pv : PairV K H (.ref r) (decide (xs.length = 2) && (ds.map isIntD).all id) :=
      .tup (bs := ds.map isIntD) e (by rw [List.length_map, ln]) fun i x b h1 h2 => by
        obtain ⟨d', h3, h4⟩ := dpAll_get d h1
        rw [List.getElem?_map, h3] at h2
        have h2 : some (isIntD d') = some b := h2
        injection h2 with h2
        rw [← h2]
        exact dp_whole h4
    rw [ln] at pv
    exact pv
end Gx

/-! Within an except suite: the ends of lists and tuples that are gone through, tuples taken apart, list comprehensions -/
namespace HotX
open PySem PySem.Spec PyProof.Rows Builtin
section
variable {prog : Program} {w : World} {A : Around} {E : Value → Shared → Prop} {s : Shared}
end
end HotX

set_option maxHeartbeats 4000000
/-! List comprehensions over a list, the target a tuple of names, while a fault is handled -/
namespace HotX
open PySem PySem.Spec PyProof.Rows L2 L2H
/-- a target that is given something while p is handled -/
def PGX (p : Addr × Obj) (X : Cx) (tg : Expr) (t : TG) : Prop := ∀ (pins : List (Addr × Obj)) (s : Shared) (σ : L2.St) (H : Hp) (v : V) (u : Value) (Q : L2.St → Hp → Prop), p ∈ X.pn ++ pins → Inv X pins σ H s → RelV v u → t v σ H Q →
    wpAny (model X.prog X.w) X.A (assign tg X.env u) (fun _ s' => ∃ σ' H', Inv X pins σ' H' s' ∧ Q σ' H') X.xe s
/-- [elt for target in a list if ..] -/
abbrev tLcX (K : PySem.W.Frag) (tl : TE) (g : TG) (tt : TT) (te : TE) (vs : List Nat) : TE := tLc (iList K tl) g tt te vs
section
variable {X : Cx} {p : Addr × Obj} {elt tg iter : Expr} {ifs : List Expr} {scope : Scope} {own : List (Str × Nat)} {pos pos' : Pos} {tl : TE} {g : TG} {tt : TT} {te : TE}
end
end HotX

/-! Defs that raise errors whose context is None; a def that a suite calls with the caught error: its promise, its body, isinstance there -/
namespace Gx
open PySem L2 PySem.Spec PyProof.Rows
open L2H (RoomH Hot1 PinOk HotC cxH inv_startH roomH_of)
/-! ### raising -/
theorem passLN {X : Cx} : Passes (L2N.CX X.prog X.w) X E0 := fun _ _ _ _ _ _ _ h => by
  obtain ⟨_, _, _, _, _, _, _, _, _, _, _, _, z⟩ := h
  exact z.elim
theorem passNN {X : Cx} : ∀ σ, PassesAt (L2N.CX X.prog X.w) X σ (fun _ _ _ => False) := fun σ pins H s e s' I h => passLN pins σ H s e s' I h
section
variable {P : Program} {w : World} {K : PySem.W.Frag} {mg : Str → Option Value} {base : Heap}
theorem okXN {x qual : Str} {st : Stmt} {f : Addr} {fd : FuncData} {N ps : List Str} {k : Nat} {sp : Sp} (F : Fun K x qual st f fd) (S : FnScope N ps (defScope st)) (len : ∀ vs H Q E, sp vs H Q E → vs.length = ps.length)
    (hbody : ∀ (cdv : Value) (A : Around) (outer : List Env) (s : Shared) (H : Hp) (vs : List V) (Q : VK) (E : XK), Room k (A.deeper (PyProof.Rows.envOfC qual (defScope st) s.heap.objs.size f cdv)) → sp vs H Q E →
      ∃ t, PSs (cxOf (L2N.CX P w) P w K mg base N qual (defScope st) f cdv A outer s H E) (defBody st) t ∧ t { nx := fun _ H' => Q .non H', rt := Q } (L2.start N vs) H) : FnOk P w K mg base (L2N.CX P w) (k + 1) f fd ps sp := by
  obtain ⟨oc, od, kV, doc, pm, an, cdv, ct, osl, rfl, lk, hcd⟩ := F.ex
  exact fn_of lk hcd S len fun A outer s H vs Q E hr hsp => hbody cdv A outer s H vs Q E hr hsp
end
theorem ps_ownN {X : Cx} {x : Str} {m : Str} {j : Nat} {p p2 pos pos2 : Pos} {C : Addr} {W : WX} (B : OwnE X.K X.mg x C) (hc : X.calm = true) (tk : L2N.Takes X W) (hg : Gl X x) (hdb : (x == ("__debug__" : Str)) = false := by decide) :
    PS X (.Raise (some (.Call (.Name x p) [.Constant (.str m) j p2] [] pos)) none pos2) (tOwn C W) :=
  L2N.ps_raise hc tk (L2N.pmk_own PySem.F.excBase_ValueError B.shape B.named B.kept (raises_own B.under B.typed) hg hdb)
section
variable {X : Cx} {e : Expr} {es : List Expr} {x : Str} {ta : TA} {p pos : Pos}
/-- a def that may raise, called by its name -/
structure CalXN (P : Program) (w : World) (K : PySem.W.Frag) (mg : Str → Option Value) (base : Heap) (k : Nat) (x : Str) (sp : Sp) : Prop where
  ex : ∃ (f : Addr) (fd : FuncData) (ps : List Str), FnOk P w K mg base (L2N.CX P w) k f fd ps sp ∧ mg x = some (.ref f) ∧ PySem.W.keepIn K (.ref f) = true ∧ Binds K fd ps []
theorem pe_cXN {k j : Nat} {sp : Sp} {E : L2.St → XK} (c : CalXN X.prog X.w X.K X.mg X.base k x sp) (hr : Room j X.A) (hk : k ≤ j) (hg : Gl X x) (hx : ∀ σ, PassesAt (L2N.CX X.prog X.w) X σ (E σ)) (ha : PA X (e :: es) ta)
    (hdb : (x == ("__debug__" : Str)) = false := by decide) (he : starEach (e :: es) X.env = (false, eval e X.env) :: starEach es X.env := by rfl) (hpl : (backTo pos (starEach es X.env)).any (·.1) = false := by rfl) : PE X (.Call (.Name x p) (e :: es) [] pos) (tCallS sp E ta) := by
  obtain ⟨f, fd, ps, F, named, kept, b⟩ := c.ex
  exact pe_callS F (hr.mono hk) hg named kept b hx ha hdb he hpl
/-- .. with keywords alone -/
structure CalKXN (P : Program) (w : World) (K : PySem.W.Frag) (mg : Str → Option Value) (base : Heap) (k : Nat) (x : Str) (ks : List Str) (gV : List V → List V → List V) (sp : Sp) : Prop where
  ex : ∃ (f : Addr) (fd : FuncData) (ps : List Str) (g : List Value → List Value → List Value), FnOk P w K mg base (L2N.CX P w) k f fd ps sp ∧ mg x = some (.ref f) ∧ PySem.W.keepIn K (.ref f) = true ∧ KBinds K fd ps ks g gV
theorem pe_cKXN {k j : Nat} {ks : List Str} {gV : List V → List V → List V} {sp : Sp} {kws : List Keyword} {tk : TA} {E : L2.St → XK} (c : CalKXN X.prog X.w X.K X.mg X.base k x ks gV sp) (hr : Room j X.A) (hk : k ≤ j) (hg : Gl X x) (hx : ∀ σ, PassesAt (L2N.CX X.prog X.w) X σ (E σ)) (hkw : PK X kws tk)
    (hdb : (x == ("__debug__" : Str)) = false := by decide) (hall : (backToKw pos (keywordEach kws X.env)).all (·.1.isSome) = true := by rfl) (hks : (backToKw pos (keywordEach kws X.env)).filterMap (·.1) = ks := by rfl)
    (hpl : ((backTo pos (starEach [] X.env)).any (·.1) || (backToKw pos (keywordEach kws X.env)).any (·.1.isNone)) = false := by rfl) : PE X (.Call (.Name x p) [] kws pos) (tCallKX sp gV E tk) := by
  obtain ⟨f, fd, ps, g, F, named, kept, kb⟩ := c.ex
  refine ⟨fun pins s σ H Q I h => wpAny_Call_Name_kw (ld_glob I hg named ?_ hdb)⟩
  refine PySem.W.callWith_KW0 (h₀ := X.base) I.ok.mod.kin kept hall (thn (hkw.run pos pins s σ H _ I h) fun ws s2 got => ?_) hpl
  obtain ⟨zs, H2, I2, rz, q2⟩ := got
  refine ⟨I2.kIn, ?_⟩
  rw [hks]
  exact run_fnkS (us := []) (vs := []) F (hr.mono hk) kb (hx σ) I2 .nil rz q2
end
theorem calXN_of {P : Program} {w : World} {K : PySem.W.Frag} {mg : Str → Option Value} {base : Heap} {x : Str} {st : Stmt} {ps : List Str} {f : Addr} {fd : FuncData} {k : Nat} {sp : Sp} (D : Dn K mg x st ps f fd) (F : FnOk P w K mg base (L2N.CX P w) k f fd ps sp) : CalXN P w K mg base k x sp := ⟨f, fd, ps, F, D.mgf, D.fn.kp, D.bd⟩
/-! ### a def called with the caught error -/
/-- what it promises: sp by the error's class, where the error has no dict of its own -/
structure FnO (P : Program) (w : World) (K : PySem.W.Frag) (mg : Str → Option Value) (base : Heap) (k : Nat) (f : Addr) (fd : FuncData) (y : Str) (sp : Value → Hp → VK → Prop) : Prop where
  run : ∀ (A : Around) (outer : List Env) (s : Shared) (H : Hp) (args : Args) (Q : VK) (p : Addr × Obj) (cls : Value), RoomH k A → Hot1 A p → Zc cls none p.2 → PinOk outer H s p → Env0 P w K mg base A outer s H → BindsTo s fd args [(y, .ref p.1)] → sp cls H Q →
    codeAny (model P w) A (.call (.ref f) args) (CR CX0 outer P w H s Q (fun _ _ _ => False)) s
/-- called by its name -/
structure CalO (P : Program) (w : World) (K : PySem.W.Frag) (mg : Str → Option Value) (base : Heap) (k : Nat) (x : Str) (sp : Value → Hp → VK → Prop) : Prop where
  ex : ∃ (f : Addr) (fd : FuncData) (y : Str), FnO P w K mg base k f fd y sp ∧ mg x = some (.ref f) ∧ PySem.W.keepIn K (.ref f) = true ∧ Binds K fd [y] []
def tCallO (a : Addr) (cls : Value) (d : Option Addr) (sp : Value → Hp → VK → Prop) (te : TE) : TE := fun σ H Q => te σ H fun x H1 => x = .ref a ∧ d = none ∧ sp cls H1 Q
end Gx
namespace Gx
open PySem L2 PySem.Spec PyProof.Rows
open L2H (RoomH Hot1 PinOk HotC cxH inv_startH roomH_of)
/-- isinstance(e, c) and isinstance(e, (c, ..)), e a caught error without a dict, in a def it was passed to -/
def rIsO (K : PySem.W.Frag) (a : Addr) (cls : Value) : List V → Hp → VK → Prop := fun xs H Q => ∃ (D : Addr) (c : V) (b : Bool), xs = [.ref a, c] ∧ cls = .ref D ∧ L2.ExcC K D ∧
  ((∃ u, ClsV c u ∧ PySem.W.kitOne K (.ref D) u = some b) ∨ ∃ tp cs us, c = .ref tp ∧ H tp = some (.tup cs) ∧ Paired ClsV cs us ∧ PySem.W.kitAny K (.ref D) us = some b) ∧ Q (.bl b) H
section
variable {σ : L2.St} {H : Hp} {Q : VK} {K : PySem.W.Frag} {te : TE} {a : Addr} {cls : Value}
end
end Gx

set_option maxHeartbeats 2000000
/-! Classes whose init may raise, made in a try; == and != of things of any kind; isinstance of a caught error; lists that hold a dict -/
namespace Gx
open PySem L2 PySem.Spec PyProof.Rows
open C8 (Cal Met Mak)
/-! ### making with an init that may raise -/
section
variable {X : Cx} {CX : CXT} {k j : Nat} {f C : Addr} {fd : FuncData} {ps ks : List Str} {sp : Sp} {E : L2.St → XK} {x : Str} {p pos : Pos} {e : Expr} {es : List Expr} {kws : List Keyword} {t tk : TA} {g : List Value → List Value → List Value} {gV : List V → List V → List V}
structure MakX (P : Program) (w : World) (K : PySem.W.Frag) (mg : Str → Option Value) (base : Heap) (k : Nat) (x : Str) (C : Addr) (sp : Sp) : Prop where
  ex : ∃ (f : Addr) (fd : FuncData) (ps : List Str), Mk K C f ∧ FnOk P w K mg base (L2N.CX P w) k f fd ps sp ∧ mg x = some (.ref C) ∧ Binds K fd ps []
structure MakKX (P : Program) (w : World) (K : PySem.W.Frag) (mg : Str → Option Value) (base : Heap) (k : Nat) (x : Str) (C : Addr) (ks : List Str) (gV : List V → List V → List V) (sp : Sp) : Prop where
  ex : ∃ (f : Addr) (fd : FuncData) (ps : List Str) (g : List Value → List Value → List Value), Mk K C f ∧ FnOk P w K mg base (L2N.CX P w) k f fd ps sp ∧ mg x = some (.ref C) ∧ KBinds K fd ps ks g gV
def MakeSQ (C : Addr) (sp : Sp) (vs : List V) (E : XK) (H : Hp) (Q : VK) : Prop := ∀ x dx H', H x = none → Same H H' → H' x = some (.ins C dx []) → sp (.ref x :: vs) H' (fun v H2 => v = .non ∧ Q (.ref x) H2) E
def tMakeS (C : Addr) (sp : Sp) (E : L2.St → XK) (t : TA) : TE := fun σ H Q => t σ H fun vs H1 => MakeSQ C sp vs (E σ) H1 Q
def tMakeKS (C : Addr) (sp : Sp) (E : L2.St → XK) (tk : TA) : TE := fun σ H Q => tk σ H fun zs H1 => ∃ z, zs = [z] ∧ MakeSQ C sp [z] (E σ) H1 Q
def OneSQ (C : Addr) (sp : Sp) (E : XK) (zs : List V) (H : Hp) (Q : VK) : Prop := ∃ z, zs = [z] ∧ MakeSQ C sp [z] E H Q
end
/-! ### == and != of things of any kind -/
section
variable {X : Cx} {k j : Nat} {S : Addr → Prop} {sp : Addr → Sp}
/-- x == y (x != y) by x's own == -/
def rOwnQ (K : PySem.W.Frag) (S : Addr → Prop) (sp : Addr → Sp) (neg : Bool) : R2 := fun x y H Q => ∃ a C dx fs t, x = .ref a ∧ H a = some (.ins C dx fs) ∧ S C ∧ TyX K H y t ∧ PySem.W.notFirst K C t = true ∧ sp C [.ref a, y] H (fun r H' => ∃ t, r = .bl t ∧ Q (.bl (if neg = true then !t else t)) H') (fun _ _ _ => False)
/-- y of a class under that of x: y's own == is asked first -/
def rOwnW (K : PySem.W.Frag) (S : Addr → Prop) (sp : Addr → Sp) (neg : Bool) : R2 := fun x y H Q => ∃ a b C D dx dy fs gs, x = .ref a ∧ y = .ref b ∧ H a = some (.ins C dx fs) ∧ H b = some (.ins D dy gs) ∧ S D ∧ (Value.ref C != Value.ref D) = true ∧ PySem.W.subIn K (.ref D) (.ref C) = some true ∧
  sp D [.ref b, .ref a] H (fun r H' => ∃ t, r = .bl t ∧ Q (.bl (if neg = true then !t else t)) H') (fun _ _ _ => False)
/-- x == y, data or objects -/
def rAnyE (K : PySem.W.Frag) (S : Addr → Prop) (sp : Addr → Sp) : R2 := fun x y H Q => rOwnQ K S sp false x y H Q ∨ rOwnW K S sp false x y H Q ∨ rEqD K x y H Q
def rAnyN (K : PySem.W.Frag) (S : Addr → Prop) (sp : Addr → Sp) : R2 := fun x y H Q => rOwnQ K S sp true x y H Q ∨ rOwnW K S sp true x y H Q ∨ rNeD K x y H Q
end
/-! ### isinstance of a caught error that has no dict -/
def rIsN (K : PySem.W.Frag) (a : Addr) (cls : Value) (d : Option Addr) : List V → Hp → VK → Prop := fun xs H Q => ∃ (D : Addr) (c : V) (u : Value) (b : Bool), xs = [.ref a, c] ∧ cls = .ref D ∧ d = none ∧ L2.ExcC K D ∧ ClsV c u ∧ PySem.W.kitOne K (.ref D) u = some b ∧ Q (.bl b) H
/-! ### a list with a dict in it -/
def tLstX (t : TA) : TE := fun σ H Q => t σ H fun xs H1 => xs.length ≤ sizeLine ∧ ∀ p, H1 p = none → p ≠ sysModules → Q (.ref p) (upd H1 p (.lst xs))
def MkLX (xs : List V) (H : Hp) (Q : VK) : Prop := xs.length ≤ sizeLine ∧ ∀ p, H p = none → p ≠ sysModules → Q (.ref p) (upd H p (.lst xs))
/-- what repr shows of a thing, or of a list with an empty dict -/
def ShX (K : PySem.W.Frag) (H : Hp) (x : V) (y : Str) : Prop := ShK K H x y ∨ ∃ a b, x = .ref a ∧ a ≠ sysModules ∧ H a = some (.lst [.ref b]) ∧ Rd H b (.dK (mtabK [])) ∧ y = (PyData.list [mtabD []]).shown
def rReprX (K : PySem.W.Frag) : List V → Hp → VK → Prop := fun xs H Q => ∃ x y, xs = [x] ∧ ShX K H x y ∧ Q (.str y) H
end Gx

/-! Objects that are no ascending lists of points of a line -/
namespace Gx
open PySem L2 PySem.Spec PyProof.Rows
def isLstD : PyData → Bool
  | .list _ => true
  | _ => false
/-- points whose data tell what is no point -/
class Od (α : Type) extends Kb α where
  isD : PyData → Bool
  dp_pv : ∀ {K : PySem.W.Frag} {H : Hp} {x : V} {d : PyData}, Dp K H x d → Ln.pv α K H x (isD d)
  ty_pv : ∀ {K : PySem.W.Frag} {H : Hp} {x : V} {t : Value}, TyX K H x t → PySem.W.kitOne K t (.type "int") = some false → PySem.W.kitOne K t (.type "tuple") = some false → Ln.pv α K H x false
  is_pt : ∀ a : α, isD (Kd.D a) = true
  of_pt : ∀ d, isD d = true → ∃ a : α, d = Kd.D a
  is_no : ∀ d, isIntD d = false → isPairD d = false → isD d = false
  ok_str : ∀ a : α, PyData.strOk (Kd.D a).shown = true
  is_odd : ∀ a : α, isD (if isTupD (Kd.D a) = true then .int 7 else .tuple [.int 1, .int 2]) = false
theorem strOk_app {x y : Str} (h1 : PyData.strOk x = true) (h2 : PyData.strOk y = true) : PyData.strOk (x ++ y) = true := by
  unfold PyData.strOk at *
  have e : (x ++ y).cps = x.cps ++ y.cps := rfl
  rw [e, Array.all_append, h1, h2]
  rfl
theorem strOk_int (n : Int) : PyData.strOk (PyData.int n).shown = true := by
  show PyData.strOk (numS n) = true
  unfold PyData.strOk
  have e := tl_numS n
  rw [Array.all_eq_true_iff_forall_mem]
  intro c hc
  have hc : c ∈ numI n := by rw [← e]; exact Array.mem_toList_iff.mpr hc
  have h1 : ¬ (c ≠ 45 ∧ (c < 48 ∨ 57 < c)) := fun z => numI_free z.1 z.2 n hc
  simp only [decide_eq_true_eq]
  omega
instance odInt : Od Int where
  isD := isIntD
  dp_pv h := dp_whole h
  ty_pv ty n1 _ := WholeV.other ty n1
  is_pt _ := rfl
  of_pt d h := by
    cases d with
    | int i => exact ⟨i, rfl⟩
    | _ => cases h
  is_no _ h _ := h
  ok_str a := strOk_int a
  is_odd a := rfl
instance odPr : Od Pr where
  isD := isPairD
  dp_pv h := dp_pair h
  ty_pv ty _ n2 := PairV.other ty n2
  is_pt p := by
    show isPairD (.tuple [.int p.1, .int p.2]) = true
    simp [isPairD, isIntD]
  of_pt d h := by
    cases d with
    | tuple ds =>
      obtain ⟨i, j, rfl⟩ := two_of h
      exact ⟨(i, j), rfl⟩
    | _ => cases h
  is_no _ _ h := h
  is_odd p := rfl
  ok_str p := by
    show PyData.strOk (tupleText (PyData.shownAll [.int p.1, .int p.2])) = true
    have e : PyData.shownAll [.int p.1, .int p.2] = [(PyData.int p.1).shown, (PyData.int p.2).shown] := by simp only [PyData.shownAll]
    rw [e]
    unfold tupleText
    refine strOk_app (strOk_app (by decide +kernel) ?_) (show PyData.strOk ((")" : String) : Str) = true by decide +kernel)
    show PyData.strOk ((PyData.int p.1).shown ++ ", " ++ (PyData.int p.2).shown) = true
    exact strOk_app (strOk_app (strOk_int _) (by decide +kernel)) (strOk_int _)
section
variable {α : Type} [Od α] {K : PySem.W.Frag} {H : Hp}
open Kd
/-- no ascending list of points of the line, and what repr shows of it -/
def BadI (K : PySem.W.Frag) (H : Hp) (as : List α) (x : V) : Prop := InV K H as x none ∧ ∃ y, ShK K H x y
/-- rows[::-1] -/
def RevQ (K : PySem.W.Frag) (Q : VK) : VK := fun x H1 => ∃ a xs, x = .ref a ∧ SqL K H1 a xs ∧ ∀ p, H1 p = none → Q (.ref p) (upd H1 p (.lst xs.reverse))
end
end Gx

/-! Things of any kind, and what a line made of them would be -/
namespace Gx
open PySem L2 PySem.Spec PyProof.Rows
/-- data that may be shown: nested at most n deep, its text of at most m signs -/
structure Okd (n m : Nat) (d : PyData) : Prop where
  ly : d.canLay0 = true
  dp : d.depth ≤ n
  sw : d.showable = true
  sz : d.shown.length ≤ m
theorem Okd.mono {n m n' m' : Nat} {d : PyData} (h : Okd n m d) (hn : n ≤ n') (hm : m ≤ m') : Okd n' m' d := ⟨h.ly, Nat.le_trans h.dp hn, h.sw, Nat.le_trans h.sz hm⟩
theorem Okd.shaped {n m : Nat} {d : PyData} (h : Okd n m d) (hn : n ≤ 64) : SeqAt.shaped d = true := by
  unfold SeqAt.shaped
  rw [h.ly, decide_eq_true (Nat.le_trans h.dp hn)]
  rfl
theorem Okd.sh {K : PySem.W.Frag} {H : Hp} {x : V} {n m : Nat} {d : PyData} (o : Okd n m d) (hn : n ≤ 64) (hm : m ≤ 10000000) (h : Dp K H x d) : ShK K H x d.shown := .dat h (o.shaped hn) o.sw (by have := o.sz; rw [sizeLine_eq]; omega)
/-- the built-in types of the things -/
def Kin : List Value := [.type "NoneType", .type "bool", .type "int", .type "str", .type "tuple", .type "dict", .type "list"]
/-- a thing: data, a dict, a list with an empty dict -/
inductive Tg (K : PySem.W.Frag) (H : Hp) : V → Prop
  | dat {x : V} {d : PyData} (h : Dp K H x d) (n : isLstD d = false) (o : Okd 4 1000000 d) : Tg K H x
  | lst {a : Addr} {xs : List V} {ds : List PyData} (e : H a = some (.lst xs)) (h : DpAll K H xs ds) (l : ds.length ≤ 1000) (o : Okd 4 2500000 (.list ds)) : Tg K H (.ref a)
  | tab {a : Addr} {t : MTab} (h : Rd H a (.dK (mtabK t))) (m : t = [] ∨ t = [(.inl 1, 2)]) : Tg K H (.ref a)
  | tabs {a b : Addr} (n : a ≠ sysModules) (e : H a = some (.lst [.ref b])) (r : Rd H b (.dK (mtabK []))) : Tg K H (.ref a)
section
variable {K : PySem.W.Frag} {H H' : Hp} {x : V}
/-- no list, of a built-in type -/
def NoL2 (K : PySem.W.Frag) (H : Hp) (x : V) : Prop := ∃ t, TyX K H x t ∧ t ∈ Kin ∧ PySem.W.kitOne K t (.type "list") = some false
end
section
variable {α : Type} [Od α] {K : PySem.W.Frag} {H H' : Hp} {x : V}
open Kd
noncomputable def getA (α : Type) [Od α] (d : PyData) : Option α := if h : Od.isD α d = true then some (Classical.choose (Od.of_pt d h)) else none
/-- a line may be made of these -/
def okLn (os : List (Option α)) : Bool := decide (os.length ≤ 500) && (os.all Option.isSome && (List.zipWith upO os (os.drop 1)).all id)
/-- a list of these -/
def InE (K : PySem.W.Frag) (H : Hp) (a : Addr) (os : List (Option α)) : Prop := ∃ xs, H a = some (.lst xs) ∧ xs.length = os.length ∧ ∀ (i : Nat) x o, xs[i]? = some x → os[i]? = some o → ItO K H x o
/-- what a line made of a thing would hold -/
def JudV (α : Type) [Od α] (K : PySem.W.Frag) (H : Hp) (x : V) : Option (List α) → Prop
  | some as => ∃ a, x = .ref a ∧ PtsL K H a as ∧ Up as ∧ as.length ≤ 500
  | none => (∃ (a : Addr) (os : List (Option α)), x = .ref a ∧ InE K H a os ∧ os.length ≤ 100000 ∧ okLn os = false) ∨ NoL2 K H x
end
end Gx

set_option maxHeartbeats 4000000
namespace Gk
open PySem L2 Gx
open C8 (Cal Met Mak pe_c pe_mt pe_mt0 pe_mk pe_gc)
local macro_rules | `(tactic| walk_at "g") => `(tactic| (first
  | with_reducible refine g_seq ?_ | with_reducible refine g_asg ?_ | ((with_reducible show tVar _ _ _ _); refine g_var rfl ?_) | with_reducible refine g_c ?_ | with_reducible refine g_name ?_ | with_reducible refine g_op ?_ | with_reducible refine g_I0 ?_
  | with_reducible refine g_cons ?_ | with_reducible refine g_nil ?_ | with_reducible refine g_exbl ?_ | with_reducible refine g_exint ?_ | with_reducible refine g_test ?_ | with_reducible refine g_B ?_ | with_reducible refine g_ifS ?_ | with_reducible refine g_ret ?_ | with_reducible refine g_retN ?_ | with_reducible refine g_next ?_
  | with_reducible refine g_CB ?_ | with_reducible refine g_sub ?_ | with_reducible refine g_drop ?_ | with_reducible refine g_not ?_ | with_reducible refine g_and ?_ | with_reducible refine g_or ?_ | with_reducible refine g_andV ?_ | with_reducible refine g_orV ?_ | with_reducible refine g_notV ?_ | with_reducible refine g_ifE ?_ | with_reducible refine g_isN ?_
  | with_reducible refine g_par ?_ | with_reducible refine g_expar ?_ | with_reducible refine g_chain ?_ | with_reducible refine g_un ?_ | with_reducible refine g_U ?_ | with_reducible refine g_bits ?_ | ((with_reducible show rEq _ _ _ _); refine g_eq rfl ?_) | ((with_reducible show rNe _ _ _ _); refine g_ne rfl ?_)
  | with_reducible refine g_for ?_ | with_reducible refine g_iRng1 ?_ | with_reducible refine g_iRng2 ?_ | with_reducible refine g_iList ?_ | with_reducible refine g_iTup ?_
  | ((with_reducible refine g_Imul ?hc ?_); (case hc => (first | (refine Or.inl ⟨?_, ?_⟩ <;> first | decide | omega) | (refine Or.inr ⟨?_, ?_⟩ <;> first | decide | omega))))
  | ((with_reducible refine g_Idiv ?hc ?_); (case hc => (first | (exact ⟨by decide, by decide⟩) | assumption)))
  | ((with_reducible refine g_Imod ?hc ?_); (case hc => (first | assumption | omega | decide)))
  | ((with_reducible refine g_exR1 ?hlo ?hhi ?_); (case hlo => omega); (case hhi => omega))
  | ((with_reducible refine g_exR2 ?hb ?_); (case hb => omega))
  | with_reducible refine g_lst ?_ | with_reducible refine g_tup ?_ | with_reducible refine g_call ?_ | with_reducible refine g_BM ?_ | with_reducible refine g_BM0 ?_
  | with_reducible refine g_intB ?_ | with_reducible refine g_lc ?_ | with_reducible refine g_yes ?_ | with_reducible refine g_iZip ?_ | with_reducible refine g_sl ?_ | with_reducible refine g_noP ?_ | with_reducible refine g_part ?_ | with_reducible refine g_gcons ?_ | with_reducible refine g_gnil ?_
  | with_reducible refine g_tfld ?_ | with_reducible refine g_tmeth ?_ | with_reducible refine g_tmake ?_ | with_reducible refine g_sfld ?_ | with_reducible refine g_tprop ?_ | with_reducible refine g_tstar ?_ | with_reducible refine g_tmethK ?_ | with_reducible refine g_isN1 ?_ | with_reducible refine g_notN1 ?_))
local macro_rules | `(tactic| walk_at "gs1") => `(tactic| (first
  | with_reducible refine g_seq ?_ | with_reducible refine g_asg ?_ | ((with_reducible show tVar _ _ _ _); refine g_var rfl ?_) | with_reducible refine g_c ?_ | with_reducible refine g_name ?_ | with_reducible refine g_op ?_ | with_reducible refine g_I0 ?_
  | with_reducible refine g_cons ?_ | with_reducible refine g_nil ?_ | with_reducible refine g_exbl ?_ | with_reducible refine g_exint ?_ | with_reducible refine g_test ?_ | with_reducible refine g_B ?_ | with_reducible refine g_ifS ?_ | with_reducible refine g_retN ?_ | with_reducible refine g_next ?_
  | with_reducible refine g_CB ?_ | with_reducible refine g_sub ?_ | with_reducible refine g_drop ?_ | with_reducible refine g_not ?_ | with_reducible refine g_and ?_ | with_reducible refine g_or ?_ | with_reducible refine g_andV ?_ | with_reducible refine g_orV ?_ | with_reducible refine g_notV ?_ | with_reducible refine g_ifE ?_ | with_reducible refine g_isN ?_
  | with_reducible refine g_par ?_ | with_reducible refine g_expar ?_ | with_reducible refine g_chain ?_ | with_reducible refine g_un ?_ | with_reducible refine g_U ?_ | with_reducible refine g_bits ?_ | ((with_reducible show rEq _ _ _ _); refine g_eq rfl ?_) | ((with_reducible show rNe _ _ _ _); refine g_ne rfl ?_)
  | with_reducible refine g_for ?_ | with_reducible refine g_iRng1 ?_ | with_reducible refine g_iRng2 ?_ | with_reducible refine g_iList ?_ | with_reducible refine g_iTup ?_
  | ((with_reducible refine g_Imul ?hc ?_); (case hc => (first | (refine Or.inl ⟨?_, ?_⟩ <;> first | decide | omega) | (refine Or.inr ⟨?_, ?_⟩ <;> first | decide | omega))))
  | ((with_reducible refine g_Idiv ?hc ?_); (case hc => (first | (exact ⟨by decide, by decide⟩) | assumption)))
  | ((with_reducible refine g_Imod ?hc ?_); (case hc => (first | assumption | omega | decide)))
  | ((with_reducible refine g_exR1 ?hlo ?hhi ?_); (case hlo => omega); (case hhi => omega))
  | ((with_reducible refine g_exR2 ?hb ?_); (case hb => omega))
  | with_reducible refine g_lst ?_ | with_reducible refine g_tup ?_ | with_reducible refine g_call ?_ | with_reducible refine g_BM ?_ | with_reducible refine g_BM0 ?_
  | with_reducible refine g_intB ?_ | with_reducible refine g_lc ?_ | with_reducible refine g_yes ?_ | with_reducible refine g_iZip ?_ | with_reducible refine g_sl ?_ | with_reducible refine g_noP ?_ | with_reducible refine g_part ?_ | with_reducible refine g_gcons ?_ | with_reducible refine g_gnil ?_
  | with_reducible refine g_tfld ?_ | with_reducible refine g_tmeth ?_ | with_reducible refine g_tmake ?_ | with_reducible refine g_sfld ?_ | with_reducible refine g_tprop ?_ | with_reducible refine g_tstar ?_ | with_reducible refine g_tmethK ?_ | with_reducible refine g_isN1 ?_ | with_reducible refine g_notN1 ?_))
local macro_rules | `(tactic| walk_at "gx1") => `(tactic| (first
  | with_reducible refine g_seq ?_ | with_reducible refine g_asg ?_ | ((with_reducible show tVar _ _ _ _); refine g_var rfl ?_) | with_reducible refine g_c ?_ | with_reducible refine g_name ?_ | with_reducible refine g_op ?_ | with_reducible refine g_I0 ?_
  | with_reducible refine g_cons ?_ | with_reducible refine g_nil ?_ | with_reducible refine g_exbl ?_ | with_reducible refine g_exint ?_ | with_reducible refine g_test ?_ | with_reducible refine g_B ?_ | with_reducible refine g_ifS ?_ | with_reducible refine g_retN ?_ | with_reducible refine g_next ?_
  | with_reducible refine g_CB ?_ | with_reducible refine g_sub ?_ | with_reducible refine g_drop ?_ | with_reducible refine g_not ?_ | with_reducible refine g_and ?_ | with_reducible refine g_or ?_ | with_reducible refine g_andV ?_ | with_reducible refine g_orV ?_ | with_reducible refine g_notV ?_ | with_reducible refine g_ret ?_ | with_reducible refine g_isN ?_
  | with_reducible refine g_par ?_ | with_reducible refine g_expar ?_ | with_reducible refine g_chain ?_ | with_reducible refine g_un ?_ | with_reducible refine g_U ?_ | with_reducible refine g_bits ?_ | ((with_reducible show rEq _ _ _ _); refine g_eq rfl ?_) | ((with_reducible show rNe _ _ _ _); refine g_ne rfl ?_)
  | with_reducible refine g_for ?_ | with_reducible refine g_iRng1 ?_ | with_reducible refine g_iRng2 ?_ | with_reducible refine g_iList ?_ | with_reducible refine g_iTup ?_
  | ((with_reducible refine g_Imul ?hc ?_); (case hc => (first | (refine Or.inl ⟨?_, ?_⟩ <;> first | decide | omega) | (refine Or.inr ⟨?_, ?_⟩ <;> first | decide | omega))))
  | ((with_reducible refine g_Idiv ?hc ?_); (case hc => (first | (exact ⟨by decide, by decide⟩) | assumption)))
  | ((with_reducible refine g_Imod ?hc ?_); (case hc => (first | assumption | omega | decide)))
  | ((with_reducible refine g_exR1 ?hlo ?hhi ?_); (case hlo => omega); (case hhi => omega))
  | ((with_reducible refine g_exR2 ?hb ?_); (case hb => omega))
  | with_reducible refine g_lst ?_ | with_reducible refine g_tup ?_ | with_reducible refine g_call ?_ | with_reducible refine g_BM ?_ | with_reducible refine g_BM0 ?_
  | with_reducible refine g_intB ?_ | with_reducible refine g_lc ?_ | with_reducible refine g_yes ?_ | with_reducible refine g_iZip ?_ | with_reducible refine g_sl ?_ | with_reducible refine g_noP ?_ | with_reducible refine g_part ?_ | with_reducible refine g_gcons ?_ | with_reducible refine g_gnil ?_
  | with_reducible refine g_tfld ?_ | with_reducible refine g_tmeth ?_ | with_reducible refine g_tmake ?_ | with_reducible refine g_sfld ?_ | with_reducible refine g_tprop ?_ | with_reducible refine g_tstar ?_ | with_reducible refine g_tmethK ?_ | with_reducible refine g_isN1 ?_ | with_reducible refine g_notN1 ?_))
local macro_rules | `(tactic| walk_at "hp") => `(tactic| (first | assumption | exact upd_same | (refine same_get (by assumption) ?_; walk_at "hp")))
local macro_rules | `(tactic| walk_at "sm") => `(tactic| (first | assumption | exact Same.refl _ | (refine Same.trans ?ha (by assumption); walk_at "sm")))
local macro_rules | `(tactic| walk_at "nn") => `(tactic| (first | assumption | (refine same_free (by assumption) ?_; walk_at "nn")))
local macro_rules | `(tactic| walk_at "sb") => `(tactic| (first | decide | (refine small_bits ?_ ?_ <;> omega)))
local macro_rules | `(tactic| walk_at "ln") => `(tactic| (simp only [List.length_cons, List.length_nil]; omega))
local macro_rules | `(tactic| walk_at "gg") => `(tactic| (repeat walk_at "g"))
local macro_rules | `(tactic| walk_at "gs") => `(tactic| (repeat walk_at "gs1"))
local macro_rules | `(tactic| walk_at "gx") => `(tactic| (repeat walk_at "gx1"))

def top (i : Nat) : Stmt := PySem.Challenge.pw_gapreach_k47_spacers_and_separate_waits.main.body.getD i (.Pass ⟨0, 0, 0, 0⟩)
section
variable {P : Program} {w : World} {K : PySem.W.Frag} {mg : Str → Option Value} {base : Heap} {X : Cx}
end
end Gk

/-! module gapreach.spacers: what is asked of arguments -/
namespace Gk
open PySem L2 Gx
open C8 (Cal Met Mak pe_c pe_mt pe_mt0 pe_mk pe_gc)
local macro_rules | `(tactic| walk_at "g") => `(tactic| (first
  | with_reducible refine g_seq ?_ | with_reducible refine g_asg ?_ | ((with_reducible show tVar _ _ _ _); refine g_var rfl ?_) | with_reducible refine g_c ?_ | with_reducible refine g_name ?_ | with_reducible refine g_op ?_ | with_reducible refine g_I0 ?_
  | with_reducible refine g_cons ?_ | with_reducible refine g_nil ?_ | with_reducible refine g_exbl ?_ | with_reducible refine g_exint ?_ | with_reducible refine g_test ?_ | with_reducible refine g_B ?_ | with_reducible refine g_ifS ?_ | with_reducible refine g_ret ?_ | with_reducible refine g_retN ?_ | with_reducible refine g_next ?_
  | with_reducible refine g_CB ?_ | with_reducible refine g_sub ?_ | with_reducible refine g_drop ?_ | with_reducible refine g_not ?_ | with_reducible refine g_and ?_ | with_reducible refine g_or ?_ | with_reducible refine g_andV ?_ | with_reducible refine g_orV ?_ | with_reducible refine g_notV ?_ | with_reducible refine g_ifE ?_ | with_reducible refine g_isN ?_
  | with_reducible refine g_par ?_ | with_reducible refine g_expar ?_ | with_reducible refine g_chain ?_ | with_reducible refine g_un ?_ | with_reducible refine g_U ?_ | with_reducible refine g_bits ?_ | ((with_reducible show rEq _ _ _ _); refine g_eq rfl ?_) | ((with_reducible show rNe _ _ _ _); refine g_ne rfl ?_)
  | with_reducible refine g_for ?_ | with_reducible refine g_iRng1 ?_ | with_reducible refine g_iRng2 ?_ | with_reducible refine g_iList ?_ | with_reducible refine g_iTup ?_
  | ((with_reducible refine g_Imul ?hc ?_); (case hc => (first | (refine Or.inl ⟨?_, ?_⟩ <;> first | decide | omega) | (refine Or.inr ⟨?_, ?_⟩ <;> first | decide | omega))))
  | ((with_reducible refine g_Idiv ?hc ?_); (case hc => (first | (exact ⟨by decide, by decide⟩) | assumption)))
  | ((with_reducible refine g_Imod ?hc ?_); (case hc => (first | assumption | omega | decide)))
  | ((with_reducible refine g_exR1 ?hlo ?hhi ?_); (case hlo => omega); (case hhi => omega))
  | ((with_reducible refine g_exR2 ?hb ?_); (case hb => omega))
  | with_reducible refine g_lst ?_ | with_reducible refine g_tup ?_ | with_reducible refine g_call ?_ | with_reducible refine g_BM ?_ | with_reducible refine g_BM0 ?_
  | with_reducible refine g_intB ?_ | with_reducible refine g_lc ?_ | with_reducible refine g_yes ?_ | with_reducible refine g_iZip ?_ | with_reducible refine g_sl ?_ | with_reducible refine g_noP ?_ | with_reducible refine g_part ?_ | with_reducible refine g_gcons ?_ | with_reducible refine g_gnil ?_
  | with_reducible refine g_tfld ?_ | with_reducible refine g_tmeth ?_ | with_reducible refine g_tmake ?_ | with_reducible refine g_sfld ?_ | with_reducible refine g_tprop ?_ | with_reducible refine g_tstar ?_ | with_reducible refine g_tmethK ?_ | with_reducible refine g_isN1 ?_ | with_reducible refine g_notN1 ?_))
local macro_rules | `(tactic| walk_at "gs1") => `(tactic| (first
  | with_reducible refine g_seq ?_ | with_reducible refine g_asg ?_ | ((with_reducible show tVar _ _ _ _); refine g_var rfl ?_) | with_reducible refine g_c ?_ | with_reducible refine g_name ?_ | with_reducible refine g_op ?_ | with_reducible refine g_I0 ?_
  | with_reducible refine g_cons ?_ | with_reducible refine g_nil ?_ | with_reducible refine g_exbl ?_ | with_reducible refine g_exint ?_ | with_reducible refine g_test ?_ | with_reducible refine g_B ?_ | with_reducible refine g_ifS ?_ | with_reducible refine g_retN ?_ | with_reducible refine g_next ?_
  | with_reducible refine g_CB ?_ | with_reducible refine g_sub ?_ | with_reducible refine g_drop ?_ | with_reducible refine g_not ?_ | with_reducible refine g_and ?_ | with_reducible refine g_or ?_ | with_reducible refine g_andV ?_ | with_reducible refine g_orV ?_ | with_reducible refine g_notV ?_ | with_reducible refine g_ifE ?_ | with_reducible refine g_isN ?_
  | with_reducible refine g_par ?_ | with_reducible refine g_expar ?_ | with_reducible refine g_chain ?_ | with_reducible refine g_un ?_ | with_reducible refine g_U ?_ | with_reducible refine g_bits ?_ | ((with_reducible show rEq _ _ _ _); refine g_eq rfl ?_) | ((with_reducible show rNe _ _ _ _); refine g_ne rfl ?_)
  | with_reducible refine g_for ?_ | with_reducible refine g_iRng1 ?_ | with_reducible refine g_iRng2 ?_ | with_reducible refine g_iList ?_ | with_reducible refine g_iTup ?_
  | ((with_reducible refine g_Imul ?hc ?_); (case hc => (first | (refine Or.inl ⟨?_, ?_⟩ <;> first | decide | omega) | (refine Or.inr ⟨?_, ?_⟩ <;> first | decide | omega))))
  | ((with_reducible refine g_Idiv ?hc ?_); (case hc => (first | (exact ⟨by decide, by decide⟩) | assumption)))
  | ((with_reducible refine g_Imod ?hc ?_); (case hc => (first | assumption | omega | decide)))
  | ((with_reducible refine g_exR1 ?hlo ?hhi ?_); (case hlo => omega); (case hhi => omega))
  | ((with_reducible refine g_exR2 ?hb ?_); (case hb => omega))
  | with_reducible refine g_lst ?_ | with_reducible refine g_tup ?_ | with_reducible refine g_call ?_ | with_reducible refine g_BM ?_ | with_reducible refine g_BM0 ?_
  | with_reducible refine g_intB ?_ | with_reducible refine g_lc ?_ | with_reducible refine g_yes ?_ | with_reducible refine g_iZip ?_ | with_reducible refine g_sl ?_ | with_reducible refine g_noP ?_ | with_reducible refine g_part ?_ | with_reducible refine g_gcons ?_ | with_reducible refine g_gnil ?_
  | with_reducible refine g_tfld ?_ | with_reducible refine g_tmeth ?_ | with_reducible refine g_tmake ?_ | with_reducible refine g_sfld ?_ | with_reducible refine g_tprop ?_ | with_reducible refine g_tstar ?_ | with_reducible refine g_tmethK ?_ | with_reducible refine g_isN1 ?_ | with_reducible refine g_notN1 ?_))
local macro_rules | `(tactic| walk_at "gx1") => `(tactic| (first
  | with_reducible refine g_seq ?_ | with_reducible refine g_asg ?_ | ((with_reducible show tVar _ _ _ _); refine g_var rfl ?_) | with_reducible refine g_c ?_ | with_reducible refine g_name ?_ | with_reducible refine g_op ?_ | with_reducible refine g_I0 ?_
  | with_reducible refine g_cons ?_ | with_reducible refine g_nil ?_ | with_reducible refine g_exbl ?_ | with_reducible refine g_exint ?_ | with_reducible refine g_test ?_ | with_reducible refine g_B ?_ | with_reducible refine g_ifS ?_ | with_reducible refine g_retN ?_ | with_reducible refine g_next ?_
  | with_reducible refine g_CB ?_ | with_reducible refine g_sub ?_ | with_reducible refine g_drop ?_ | with_reducible refine g_not ?_ | with_reducible refine g_and ?_ | with_reducible refine g_or ?_ | with_reducible refine g_andV ?_ | with_reducible refine g_orV ?_ | with_reducible refine g_notV ?_ | with_reducible refine g_ret ?_ | with_reducible refine g_isN ?_
  | with_reducible refine g_par ?_ | with_reducible refine g_expar ?_ | with_reducible refine g_chain ?_ | with_reducible refine g_un ?_ | with_reducible refine g_U ?_ | with_reducible refine g_bits ?_ | ((with_reducible show rEq _ _ _ _); refine g_eq rfl ?_) | ((with_reducible show rNe _ _ _ _); refine g_ne rfl ?_)
  | with_reducible refine g_for ?_ | with_reducible refine g_iRng1 ?_ | with_reducible refine g_iRng2 ?_ | with_reducible refine g_iList ?_ | with_reducible refine g_iTup ?_
  | ((with_reducible refine g_Imul ?hc ?_); (case hc => (first | (refine Or.inl ⟨?_, ?_⟩ <;> first | decide | omega) | (refine Or.inr ⟨?_, ?_⟩ <;> first | decide | omega))))
  | ((with_reducible refine g_Idiv ?hc ?_); (case hc => (first | (exact ⟨by decide, by decide⟩) | assumption)))
  | ((with_reducible refine g_Imod ?hc ?_); (case hc => (first | assumption | omega | decide)))
  | ((with_reducible refine g_exR1 ?hlo ?hhi ?_); (case hlo => omega); (case hhi => omega))
  | ((with_reducible refine g_exR2 ?hb ?_); (case hb => omega))
  | with_reducible refine g_lst ?_ | with_reducible refine g_tup ?_ | with_reducible refine g_call ?_ | with_reducible refine g_BM ?_ | with_reducible refine g_BM0 ?_
  | with_reducible refine g_intB ?_ | with_reducible refine g_lc ?_ | with_reducible refine g_yes ?_ | with_reducible refine g_iZip ?_ | with_reducible refine g_sl ?_ | with_reducible refine g_noP ?_ | with_reducible refine g_part ?_ | with_reducible refine g_gcons ?_ | with_reducible refine g_gnil ?_
  | with_reducible refine g_tfld ?_ | with_reducible refine g_tmeth ?_ | with_reducible refine g_tmake ?_ | with_reducible refine g_sfld ?_ | with_reducible refine g_tprop ?_ | with_reducible refine g_tstar ?_ | with_reducible refine g_tmethK ?_ | with_reducible refine g_isN1 ?_ | with_reducible refine g_notN1 ?_))
local macro_rules | `(tactic| walk_at "hp") => `(tactic| (first | assumption | exact upd_same | (refine same_get (by assumption) ?_; walk_at "hp")))
local macro_rules | `(tactic| walk_at "sm") => `(tactic| (first | assumption | exact Same.refl _ | (refine Same.trans ?ha (by assumption); walk_at "sm")))
local macro_rules | `(tactic| walk_at "nn") => `(tactic| (first | assumption | (refine same_free (by assumption) ?_; walk_at "nn")))
local macro_rules | `(tactic| walk_at "sb") => `(tactic| (first | decide | (refine small_bits ?_ ?_ <;> omega)))
local macro_rules | `(tactic| walk_at "ln") => `(tactic| (simp only [List.length_cons, List.length_nil]; omega))
local macro_rules | `(tactic| walk_at "gg") => `(tactic| (repeat walk_at "g"))
local macro_rules | `(tactic| walk_at "gs") => `(tactic| (repeat walk_at "gs1"))
local macro_rules | `(tactic| walk_at "gx") => `(tactic| (repeat walk_at "gx1"))

def isIntD : PyData → Bool
  | .int _ => true
  | _ => false
def intD : PyData → Int
  | .int n => n
  | _ => 0
theorem isIntD_some {d : PyData} (h : isIntD d = true) : d = .int (intD d) := by
  cases d <;> first | rfl | cases h
theorem ints_of : ∀ {ds : List PyData}, ds.all isIntD = true → ds = (ds.map intD).map PyData.int
  | [], _ => rfl
  | d :: ds, h => by
    rw [List.all_cons, Bool.and_eq_true] at h
    rw [List.map_cons, List.map_cons, ← isIntD_some h.1, ← ints_of h.2]
/-- a span, as data -/
def isSpanD : PyData → Bool
  | .tuple [.int a, .int b] => decide (a ≤ b)
  | _ => false
theorem isSpanD_two (d1 d2 : PyData) : isSpanD (.tuple [d1, d2]) = (isIntD d1 && (isIntD d2 && decide (intD d1 ≤ intD d2))) := by
  cases d1 <;> cases d2 <;> rfl
/-- a thing: a list of data, or no list -/
inductive Th (K : PySem.W.Frag) (H : Hp) : V → Option (List PyData) → Prop
  | lst {a : Addr} {xs : List V} {ds : List PyData} (e : H a = some (.lst xs)) (h : DpAll K H xs ds) (l : ds.length ≤ 1000) : Th K H (.ref a) (some ds)
  | no {x : V} (h : NoL2 K H x) : Th K H x none
theorem th_same {K : PySem.W.Frag} {H H' : Hp} {x : V} {o : Option (List PyData)} (S : Same H H') (h : Th K H x o) : Th K H' x o := by
  cases h with
  | lst e h l => exact .lst (S _ _ e) (dp_sameAll S _ _ h) l
  | no h =>
    obtain ⟨t, a, b, c⟩ := h
    exact .no ⟨t, tyX_same S a, b, c⟩
theorem whole_dp {K : PySem.W.Frag} {H : Hp} {x : V} {d : PyData} (h : Dp K H x d) : WholeV K H x (isIntD d) := by
  cases h with
  | non => exact .other (.base .non) (kit_ty (by decide +kernel))
  | bl c => exact .bl c
  | int i => exact .int i
  | str x => exact .other (.base (.str x)) (kit_ty (by decide +kernel))
  | lst a b => exact .other (sqL_ty a) (kit_ty (by decide +kernel))
  | tup a b => exact .other (sqT_ty a) (kit_ty (by decide +kernel))
theorem thAll_get {K : PySem.W.Frag} {H : Hp} : ∀ {xs : List V} {ds : List PyData} {i : Nat} {x : V}, DpAll K H xs ds → xs[i]? = some x → ∃ d, ds[i]? = some d ∧ Dp K H x d
  | _, _, 0, _, .cons h _, e => by
    obtain rfl := Option.some.inj e
    exact ⟨_, rfl, h⟩
  | _, _, i + 1, _, .cons _ t, e => thAll_get (i := i) t e
section
variable {P : Program} {w : World} {K : PySem.W.Frag} {mg : Str → Option Value} {base : Heap} {X : Cx}
abbrev s_is_whole : Stmt := top 8
abbrev N_is_whole : List Str := ["value"]
theorem sc_is_whole : FnScope N_is_whole ["value"] (defScope s_is_whole) := ⟨rfl, rfl, rfl, by decide +kernel, rfl, by decide +kernel, by decide +kernel⟩

theorem ok_isw {f : Addr} {fd : FuncData} (D : Dn K mg "is_whole" s_is_whole ["value"] f fd) (T : Bt mg) : Cal P w K mg base 1 "is_whole" (spWhole K) [] := by
  refine cal_of D (D.fn.ok sc_is_whole (fun vs H Q E h => ?_) (fun cdv A outer s H vs Q E hr h => ?_))
  · obtain ⟨x, b, rfl, _⟩ := h
    rfl
  · obtain ⟨x, b, rfl, hv, k⟩ := h
    refine ⟨_, (pss_one (ps_ret (pe_and (pe_callB call_isi (by rfl) T.n_isinstance bt_isinstance (pa_cons (pv 0) (pa_cons (pe_bltn (v := .ty "int") (by rfl) T.n_int bt_int rfl) pa_nil))) (pe_one (pe_not (pe_callB call_isi (by rfl) T.n_isinstance bt_isinstance (pa_cons (pv 0) (pa_cons (pe_bltn (v := .ty "bool") (by rfl) T.n_bool bt_bool rfl) pa_nil)))))))), ?_⟩
    walk_at "gg"
    cases hv with
    | int i =>
      refine g_isi (.ty "int") (.base (.int i)) (b := true) (kit_ty (by decide +kernel)) ?_
      walk_at "gg"
      refine g_ifT rfl ?_
      walk_at "gg"
      refine g_isi (.ty "bool") (.base (.int i)) (b := false) (kit_ty (by decide +kernel)) ?_
      walk_at "gg"
      exact k
    | bl c =>
      refine g_isi (.ty "int") (.base (.bl c)) (b := true) (kit_ty (by decide +kernel)) ?_
      walk_at "gg"
      refine g_ifT rfl ?_
      walk_at "gg"
      refine g_isi (.ty "bool") (.base (.bl c)) (b := true) (kit_ty (by decide +kernel)) ?_
      walk_at "gg"
      exact k
    | other ty no =>
      refine g_isi (.ty "int") ty no ?_
      walk_at "gg"
      refine g_ifF rfl ?_
      exact k
/-- a list of at most m whole numbers? -/
def liOk (m : Nat) : Option (List PyData) → Bool
  | none => false
  | some ds => decide (ds.length ≤ m) && ds.all isIntD
def spIsLI (K : PySem.W.Frag) : Sp := fun vs H Q _ => ∃ (x : V) (m : Nat) (o : Option (List PyData)), vs = [x, .int (m : Nat)] ∧ Th K H x o ∧ ∀ H', Same H H' → Q (.bl (liOk m o)) H'
abbrev s_is_list_of_integers : Stmt := top 9
abbrev N_is_list_of_integers : List Str := ["value", "most", "one"]
theorem sc_is_list_of_integers : FnScope N_is_list_of_integers ["value", "most"] (defScope s_is_list_of_integers) := ⟨rfl, rfl, rfl, by decide +kernel, rfl, by decide +kernel, by decide +kernel⟩

theorem ok_isli {f : Addr} {fd : FuncData} (D : Dn K mg "is_list_of_integers" s_is_list_of_integers ["value", "most"] f fd) (T : Bt mg) (c_is_whole : Cal P w K mg base 1 "is_whole" (spWhole K) []) : Cal P w K mg base 2 "is_list_of_integers" (spIsLI K) [] := by
  refine cal_of D (D.fn.ok sc_is_list_of_integers (fun vs H Q E h => ?_) (fun cdv A outer s H vs Q E hr h => ?_))
  · obtain ⟨x, m, o, rfl, _⟩ := h
    rfl
  · obtain ⟨x, m, o, rfl, hx, k⟩ := h
    refine ⟨_, (pss_one (ps_ret (pe_and (pe_callB call_isi (by rfl) T.n_isinstance bt_isinstance (pa_cons (pv 0) (pa_cons (pe_bltn (v := .ty "list") (by rfl) T.n_list bt_list rfl) pa_nil))) (pe_and (pe_cmpR op_le (pe_callB cr_lenQ (by rfl) T.n_len bt_len (pa_cons (pv 0) pa_nil)) (pv 1) (nomark _)) (pe_one (pe_callB (cr_all rfl) (by rfl) T.n_all bt_all (pa_cons (pe_lc (own := [("one", 2)]) (g := gName 2) (tt := tYes) rfl sc_is_list_of_integers.nd (pi_list (pv 0)) (blkOk_by (own := [("one", 2)]) (N := N_is_list_of_integers) (sc := defScope s_is_list_of_integers) (by decide +kernel)) (fun _ _ _ _ _ => pg_name (i := 2) sc_is_list_of_integers.nd rfl (Or.inl rfl)) (fun _ _ _ _ _ => pts_nil) (fun _ _ _ _ _ => (pe_c c_is_whole hr (by decide) (by rfl) (pa_cons (pv 2) pa_nil)))) pa_nil))))))), ?_⟩
    walk_at "gg"
    cases hx with
    | no hn =>
      obtain ⟨t, ty, _, no⟩ := hn
      refine g_isi (.ty "list") ty no ?_
      walk_at "gg"
      refine g_ifF rfl ?_
      exact k _ (Same.refl _)
    | @lst a xs ds e h l =>
      have ln := dpAll_len h
      refine g_isi (.ty "list") (.base (.lst e)) (b := true) (kit_ty (by decide +kernel)) ?_
      walk_at "gg"
      refine g_ifT rfl ?_
      walk_at "gg"
      refine g_len (SqL.of e) ?_
      rw [ln]
      walk_at "gg"
      by_cases c : ds.length ≤ m
      · refine g_ifT (decide_eq_true (by omega)) ?_
        walk_at "gg"
        refine g_exL (SqL.of e) ?_
        refine lc_map (src_list (SqL.of e)) (by omega) (fun i y => ∃ b, (ds.map isIntD)[i]? = some b ∧ y = V.bl b) (fun i x H' Nx hi S it kx => ?_) fun D1 acc H1 n1 S1 e1 hl1 hacc => ?_
        · obtain ⟨d, hd, hx⟩ := thAll_get h it
          walk_at "gg"
          refine ⟨rfl, ?_⟩
          walk_at "gg"
          exact ⟨x, _, rfl, whole_same S (whole_dp hx), kx _ _ (Same.refl _) ⟨_, by rw [List.getElem?_map, hd]; rfl, rfl⟩⟩
        have ea := bls (by rw [List.length_map]; omega) hacc
        rw [ea] at e1
        walk_at "gg"
        refine g_all (SqL.of e1) ?_
        rw [List.all_map]
        have k := k _ S1
        dsimp only [liOk] at k
        rw [decide_eq_true c, Bool.true_and] at k
        exact k
      · refine g_ifF (decide_eq_false (by omega)) ?_
        have k := k _ (Same.refl _)
        dsimp only [liOk] at k
        rw [decide_eq_false c, Bool.false_and] at k
        exact k
/-- are the points ascending? -/
def spRising (α : Type) [Od α] (K : PySem.W.Frag) : Sp := fun vs H Q _ => ∃ (a : Addr) (as : List α), vs = [.ref a] ∧ PtsL K H a as ∧ as.length ≤ 1000 ∧ ∀ H', Same H H' → Q (.bl ((List.zipWith Kd.lt as (as.drop 1)).all id)) H'
abbrev s_is_rising : Stmt := top 10
abbrev N_is_rising : List Str := ["value", "one", "other"]
theorem sc_is_rising : FnScope N_is_rising ["value"] (defScope s_is_rising) := ⟨rfl, rfl, rfl, by decide +kernel, rfl, by decide +kernel, by decide +kernel⟩

theorem ok_rising (α : Type) [Od α] {f : Addr} {fd : FuncData} (D : Dn K mg "is_rising" s_is_rising ["value"] f fd) (T : Bt mg) : Cal P w K mg base 1 "is_rising" (spRising α K) [] := by
  refine cal_of D (D.fn.ok sc_is_rising (fun vs H Q E h => ?_) (fun cdv A outer s H vs Q E hr h => ?_))
  · obtain ⟨a, as, rfl, _⟩ := h
    rfl
  · obtain ⟨a, as, rfl, ⟨xs, e, h⟩, few, k⟩ := h
    refine ⟨_, (pss_one (ps_ret (pe_callB (cr_all rfl) (by rfl) T.n_all bt_all (pa_cons (pe_lc (own := [("one", 1), ("other", 2)]) (g := gTup K 2 (gCons (gName 1) (gCons (gName 2) gNil))) (tt := tYes) rfl sc_is_rising.nd (pi_zip (by rfl) T.n_zip (pa_cons (pv 0) (pa_cons (pe_slice sl_list (pv 0) (po_some pe_int) po_none) pa_nil))) (blkOk_by (own := [("one", 1), ("other", 2)]) (N := N_is_rising) (sc := defScope s_is_rising) (by decide +kernel)) (fun _ _ _ _ _ => (pg_tup (by rfl) (pgs_cons (pg_name (i := 1) sc_is_rising.nd rfl (Or.inl rfl)) (pgs_cons (pg_name (i := 2) sc_is_rising.nd rfl (Or.inl rfl)) pgs_nil)))) (fun _ _ _ _ _ => pts_nil) (fun _ _ _ _ _ => (pe_cmpR (show OpR _ (compareOp .Lt) (rLt2 K) from op_lt2 hr.units0) (pv 1) (pv 2) (nomark _)))) pa_nil)))), ?_⟩
    have ln := dpAll_len h
    rw [List.length_map] at ln
    walk_at "gg"
    refine g_slL (SqL.of e) fun q2 H2 n2 S2 e2 => ?_
    rw [cut_one] at e2
    walk_at "gg"
    refine g_exZ (SqL.of (S2 _ _ e)) (SqL.of e2) ?_
    refine lc_map (src_zip (SqL.of (S2 _ _ e)) (SqL.of e2)) (by rw [List.length_drop]; omega) (fun i y => ∃ b, (List.zipWith Kd.lt as (as.drop 1))[i]? = some b ∧ y = V.bl b) (fun i x H' Nx hi Sx ix kx => ?_) fun D3 acc3 H3 n3 S3 e3 hl3 hacc3 => ?_
    · obtain ⟨t, v1, v2, rfl, ht, x1, x2⟩ := ix
      refine g_gtup (SqT.of ht) rfl ?_
      rw [List.getElem?_drop] at x2
      have l1 : i < as.length := by have := (List.getElem?_eq_some_iff.mp x1).1; omega
      have l2 : 1 + i < as.length := by have := (List.getElem?_eq_some_iff.mp x2).1; omega
      obtain ⟨d1, g1, o1⟩ := thAll_get h x1
      obtain ⟨d2, g2, o2⟩ := thAll_get h x2
      rw [List.getElem?_map, List.getElem?_eq_getElem l1] at g1
      rw [List.getElem?_map, List.getElem?_eq_getElem l2] at g2
      obtain rfl := Option.some.inj g1
      obtain rfl := Option.some.inj g2
      have S03 := S2.trans Sx
      walk_at "gg"
      refine ⟨rfl, ?_⟩
      walk_at "gg"
      refine Kd.less (dp_same S03 _ _ o1) (dp_same S03 _ _ o2) ?_
      refine kx _ _ (Same.refl _) ⟨_, ?_, rfl⟩
      rw [List.getElem?_zipWith, List.getElem?_drop, List.getElem?_eq_getElem l1, List.getElem?_eq_getElem l2]
    have e3' := bls (by rw [List.length_zipWith, List.length_drop]; rw [List.length_drop, ln] at hl3; exact hl3) hacc3
    rw [e3'] at e3
    walk_at "gg"
    refine g_all (SqL.of e3) ?_
    exact k _ (S2.trans S3)
/-- a span? -/
def spIsSpan (K : PySem.W.Frag) : Sp := fun vs H Q _ => ∃ (x : V) (d : PyData), vs = [x] ∧ Dp K H x d ∧ ∀ H', Same H H' → Q (.bl (isSpanD d)) H'
abbrev s_is_span : Stmt := top 11
abbrev N_is_span : List Str := ["value"]
theorem sc_is_span : FnScope N_is_span ["value"] (defScope s_is_span) := ⟨rfl, rfl, rfl, by decide +kernel, rfl, by decide +kernel, by decide +kernel⟩

theorem ok_span {f : Addr} {fd : FuncData} (D : Dn K mg "is_span" s_is_span ["value"] f fd) (T : Bt mg) (c_is_whole : Cal P w K mg base 1 "is_whole" (spWhole K) []) : Cal P w K mg base 2 "is_span" (spIsSpan K) [] := by
  refine cal_of D (D.fn.ok sc_is_span (fun vs H Q E h => ?_) (fun cdv A outer s H vs Q E hr h => ?_))
  · obtain ⟨x, d, rfl, _⟩ := h
    rfl
  · obtain ⟨x, d, rfl, hx, k⟩ := h
    refine ⟨_, (pss_cons (ps_if (PW.pt (pw_or (pt_not (pt_val (pe_callB call_isi (by rfl) T.n_isinstance bt_isinstance (pa_cons (pv 0) (pa_cons (pe_bltn (v := .ty "tuple") (by rfl) T.n_tuple bt_tuple rfl) pa_nil))))) (pw_or1 (pt_cmpR op_ne (pe_callB cr_lenQ (by rfl) T.n_len bt_len (pa_cons (pv 0) pa_nil)) pe_int (nomark _))))) (pss_one (ps_ret pe_bl)) pss_nil)
    (pss_one (ps_ret (pe_and (pe_c c_is_whole hr (by decide) (by rfl) (pa_cons (pe_ix ix_tup (pv 0) pe_int (fun _ _ => rfl)) pa_nil)) (pe_and (pe_c c_is_whole hr (by decide) (by rfl) (pa_cons (pe_ix ix_tup (pv 0) pe_int (fun _ _ => rfl)) pa_nil)) (pe_one (pe_cmpR op_le (pe_ix ix_tup (pv 0) pe_int (fun _ _ => rfl)) (pe_ix ix_tup (pv 0) pe_int (fun _ _ => rfl)) (nomark _)))))))), ?_⟩
    walk_at "gg"
    have nt : (∀ ds, d ≠ .tuple ds) → isSpanD d = false ∧ ∃ t, TyX K H x t ∧ PySem.W.kitOne K t (.type "tuple") = some false := fun z => by
      cases hx with
      | non => exact ⟨rfl, _, .base .non, kit_ty (by decide +kernel)⟩
      | bl c => exact ⟨rfl, _, .base (.bl c), kit_ty (by decide +kernel)⟩
      | int i => exact ⟨rfl, _, .base (.int i), kit_ty (by decide +kernel)⟩
      | str x => exact ⟨rfl, _, .base (.str x), kit_ty (by decide +kernel)⟩
      | lst a b => exact ⟨rfl, _, sqL_ty a, kit_ty (by decide +kernel)⟩
      | tup a b => exact absurd rfl (z _)
    by_cases c : ∃ ds, d = .tuple ds
    rotate_left
    · obtain ⟨e, t, ty, no⟩ := nt fun ds z => c ⟨ds, z⟩
      refine g_isi (.ty "tuple") ty no ?_
      walk_at "gg"
      refine g_ifT rfl ?_
      walk_at "gg"
      rw [e] at k
      exact k _ (Same.refl _)
    obtain ⟨ds, rfl⟩ := c
    cases hx with
    | @tup a xs _ ht hd =>
      have ln := dpAll_len hd
      refine g_isi (.ty "tuple") (sqT_ty ht) (b := true) (kit_ty (by decide +kernel)) ?_
      walk_at "gg"
      refine g_ifF rfl ?_
      walk_at "gg"
      refine g_lenT ht ?_
      rw [ln]
      walk_at "gg"
      by_cases c2 : ds.length = 2
      rotate_left
      · have e0 : isSpanD (.tuple ds) = false := by
          rcases ds with _ | ⟨d1, _ | ⟨d2, _ | ⟨d3, r⟩⟩⟩
          · rfl
          · unfold isSpanD
            split
            · rename_i h
              injection h with h
              cases h
            · rfl
          · exact absurd rfl c2
          · unfold isSpanD
            split
            · rename_i h
              injection h with h
              cases h
            · rfl
        rw [e0] at k
        refine g_iteNT (fun z => c2 (by injection z with z; omega)) ?_
        walk_at "gg"
        exact k _ (Same.refl _)
      · obtain ⟨d1, d2, rfl⟩ : ∃ d1 d2, ds = [d1, d2] := by
          rcases ds with _ | ⟨d1, _ | ⟨d2, _ | ⟨d3, r⟩⟩⟩
          · cases c2
          · cases c2
          · exact ⟨_, _, rfl⟩
          · cases c2
        obtain ⟨x1, x2, rfl, h1, h2⟩ : ∃ x1 x2, xs = [x1, x2] ∧ Dp K H x1 d1 ∧ Dp K H x2 d2 := by
          cases hd with
          | cons h1 t =>
            cases t with
            | cons h2 t =>
              cases t
              exact ⟨_, _, rfl, h1, h2⟩
        rw [isSpanD_two] at k
        refine g_iteNF (show V.int (([d1, d2].length : Nat) : Int) = V.int 2 from rfl) ?_
        walk_at "gg"
        refine g_ix2 ht rfl ?_
        walk_at "gg"
        refine ⟨x1, _, rfl, whole_dp h1, _, rfl, ?_⟩
        cases c3 : isIntD d1 with
        | false =>
          refine g_ifF rfl ?_
          rw [c3] at k
          exact k _ (Same.refl _)
        | true =>
          refine g_ifT rfl ?_
          walk_at "gg"
          refine g_ix2 ht rfl ?_
          walk_at "gg"
          refine ⟨x2, _, rfl, whole_dp h2, _, rfl, ?_⟩
          cases c4 : isIntD d2 with
          | false =>
            refine g_ifF rfl ?_
            rw [c3, c4] at k
            exact k _ (Same.refl _)
          | true =>
            refine g_ifT rfl ?_
            rw [c3, c4] at k
            have h1 := h1
            rw [isIntD_some c3] at h1
            rw [isIntD_some c4] at h2
            generalize intD d1 = n1 at h1 k
            generalize intD d2 = n2 at h2 k
            cases h1
            cases h2
            walk_at "gg"
            refine g_ix2 ht rfl ?_
            walk_at "gg"
            refine g_ix2 ht rfl ?_
            walk_at "gg"
            exact k _ (Same.refl _)
end
end Gk

/-! module gapreach.spacers: check_all -/
namespace Gk
open PySem L2 Gx
open C8 (Cal Met Mak pe_c pe_mt pe_mt0 pe_mk pe_gc)
local macro_rules | `(tactic| walk_at "g") => `(tactic| (first
  | with_reducible refine g_seq ?_ | with_reducible refine g_asg ?_ | ((with_reducible show tVar _ _ _ _); refine g_var rfl ?_) | with_reducible refine g_c ?_ | with_reducible refine g_name ?_ | with_reducible refine g_op ?_ | with_reducible refine g_I0 ?_
  | with_reducible refine g_cons ?_ | with_reducible refine g_nil ?_ | with_reducible refine g_exbl ?_ | with_reducible refine g_exint ?_ | with_reducible refine g_test ?_ | with_reducible refine g_B ?_ | with_reducible refine g_ifS ?_ | with_reducible refine g_ret ?_ | with_reducible refine g_retN ?_ | with_reducible refine g_next ?_
  | with_reducible refine g_CB ?_ | with_reducible refine g_sub ?_ | with_reducible refine g_drop ?_ | with_reducible refine g_not ?_ | with_reducible refine g_and ?_ | with_reducible refine g_or ?_ | with_reducible refine g_andV ?_ | with_reducible refine g_orV ?_ | with_reducible refine g_notV ?_ | with_reducible refine g_ifE ?_ | with_reducible refine g_isN ?_
  | with_reducible refine g_par ?_ | with_reducible refine g_expar ?_ | with_reducible refine g_chain ?_ | with_reducible refine g_un ?_ | with_reducible refine g_U ?_ | with_reducible refine g_bits ?_ | ((with_reducible show rEq _ _ _ _); refine g_eq rfl ?_) | ((with_reducible show rNe _ _ _ _); refine g_ne rfl ?_)
  | with_reducible refine g_for ?_ | with_reducible refine g_iRng1 ?_ | with_reducible refine g_iRng2 ?_ | with_reducible refine g_iList ?_ | with_reducible refine g_iTup ?_
  | ((with_reducible refine g_Imul ?hc ?_); (case hc => (first | (refine Or.inl ⟨?_, ?_⟩ <;> first | decide | omega) | (refine Or.inr ⟨?_, ?_⟩ <;> first | decide | omega))))
  | ((with_reducible refine g_Idiv ?hc ?_); (case hc => (first | (exact ⟨by decide, by decide⟩) | assumption)))
  | ((with_reducible refine g_Imod ?hc ?_); (case hc => (first | assumption | omega | decide)))
  | ((with_reducible refine g_exR1 ?hlo ?hhi ?_); (case hlo => omega); (case hhi => omega))
  | ((with_reducible refine g_exR2 ?hb ?_); (case hb => omega))
  | with_reducible refine g_lst ?_ | with_reducible refine g_tup ?_ | with_reducible refine g_call ?_ | with_reducible refine g_BM ?_ | with_reducible refine g_BM0 ?_
  | with_reducible refine g_intB ?_ | with_reducible refine g_lc ?_ | with_reducible refine g_yes ?_ | with_reducible refine g_iZip ?_ | with_reducible refine g_sl ?_ | with_reducible refine g_noP ?_ | with_reducible refine g_part ?_ | with_reducible refine g_gcons ?_ | with_reducible refine g_gnil ?_
  | with_reducible refine g_tfld ?_ | with_reducible refine g_tmeth ?_ | with_reducible refine g_tmake ?_ | with_reducible refine g_sfld ?_ | with_reducible refine g_tprop ?_ | with_reducible refine g_tstar ?_ | with_reducible refine g_tmethK ?_ | with_reducible refine g_isN1 ?_ | with_reducible refine g_notN1 ?_))
local macro_rules | `(tactic| walk_at "gs1") => `(tactic| (first
  | with_reducible refine g_seq ?_ | with_reducible refine g_asg ?_ | ((with_reducible show tVar _ _ _ _); refine g_var rfl ?_) | with_reducible refine g_c ?_ | with_reducible refine g_name ?_ | with_reducible refine g_op ?_ | with_reducible refine g_I0 ?_
  | with_reducible refine g_cons ?_ | with_reducible refine g_nil ?_ | with_reducible refine g_exbl ?_ | with_reducible refine g_exint ?_ | with_reducible refine g_test ?_ | with_reducible refine g_B ?_ | with_reducible refine g_ifS ?_ | with_reducible refine g_retN ?_ | with_reducible refine g_next ?_
  | with_reducible refine g_CB ?_ | with_reducible refine g_sub ?_ | with_reducible refine g_drop ?_ | with_reducible refine g_not ?_ | with_reducible refine g_and ?_ | with_reducible refine g_or ?_ | with_reducible refine g_andV ?_ | with_reducible refine g_orV ?_ | with_reducible refine g_notV ?_ | with_reducible refine g_ifE ?_ | with_reducible refine g_isN ?_
  | with_reducible refine g_par ?_ | with_reducible refine g_expar ?_ | with_reducible refine g_chain ?_ | with_reducible refine g_un ?_ | with_reducible refine g_U ?_ | with_reducible refine g_bits ?_ | ((with_reducible show rEq _ _ _ _); refine g_eq rfl ?_) | ((with_reducible show rNe _ _ _ _); refine g_ne rfl ?_)
  | with_reducible refine g_for ?_ | with_reducible refine g_iRng1 ?_ | with_reducible refine g_iRng2 ?_ | with_reducible refine g_iList ?_ | with_reducible refine g_iTup ?_
  | ((with_reducible refine g_Imul ?hc ?_); (case hc => (first | (refine Or.inl ⟨?_, ?_⟩ <;> first | decide | omega) | (refine Or.inr ⟨?_, ?_⟩ <;> first | decide | omega))))
  | ((with_reducible refine g_Idiv ?hc ?_); (case hc => (first | (exact ⟨by decide, by decide⟩) | assumption)))
  | ((with_reducible refine g_Imod ?hc ?_); (case hc => (first | assumption | omega | decide)))
  | ((with_reducible refine g_exR1 ?hlo ?hhi ?_); (case hlo => omega); (case hhi => omega))
  | ((with_reducible refine g_exR2 ?hb ?_); (case hb => omega))
  | with_reducible refine g_lst ?_ | with_reducible refine g_tup ?_ | with_reducible refine g_call ?_ | with_reducible refine g_BM ?_ | with_reducible refine g_BM0 ?_
  | with_reducible refine g_intB ?_ | with_reducible refine g_lc ?_ | with_reducible refine g_yes ?_ | with_reducible refine g_iZip ?_ | with_reducible refine g_sl ?_ | with_reducible refine g_noP ?_ | with_reducible refine g_part ?_ | with_reducible refine g_gcons ?_ | with_reducible refine g_gnil ?_
  | with_reducible refine g_tfld ?_ | with_reducible refine g_tmeth ?_ | with_reducible refine g_tmake ?_ | with_reducible refine g_sfld ?_ | with_reducible refine g_tprop ?_ | with_reducible refine g_tstar ?_ | with_reducible refine g_tmethK ?_ | with_reducible refine g_isN1 ?_ | with_reducible refine g_notN1 ?_))
local macro_rules | `(tactic| walk_at "gx1") => `(tactic| (first
  | with_reducible refine g_seq ?_ | with_reducible refine g_asg ?_ | ((with_reducible show tVar _ _ _ _); refine g_var rfl ?_) | with_reducible refine g_c ?_ | with_reducible refine g_name ?_ | with_reducible refine g_op ?_ | with_reducible refine g_I0 ?_
  | with_reducible refine g_cons ?_ | with_reducible refine g_nil ?_ | with_reducible refine g_exbl ?_ | with_reducible refine g_exint ?_ | with_reducible refine g_test ?_ | with_reducible refine g_B ?_ | with_reducible refine g_ifS ?_ | with_reducible refine g_retN ?_ | with_reducible refine g_next ?_
  | with_reducible refine g_CB ?_ | with_reducible refine g_sub ?_ | with_reducible refine g_drop ?_ | with_reducible refine g_not ?_ | with_reducible refine g_and ?_ | with_reducible refine g_or ?_ | with_reducible refine g_andV ?_ | with_reducible refine g_orV ?_ | with_reducible refine g_notV ?_ | with_reducible refine g_ret ?_ | with_reducible refine g_isN ?_
  | with_reducible refine g_par ?_ | with_reducible refine g_expar ?_ | with_reducible refine g_chain ?_ | with_reducible refine g_un ?_ | with_reducible refine g_U ?_ | with_reducible refine g_bits ?_ | ((with_reducible show rEq _ _ _ _); refine g_eq rfl ?_) | ((with_reducible show rNe _ _ _ _); refine g_ne rfl ?_)
  | with_reducible refine g_for ?_ | with_reducible refine g_iRng1 ?_ | with_reducible refine g_iRng2 ?_ | with_reducible refine g_iList ?_ | with_reducible refine g_iTup ?_
  | ((with_reducible refine g_Imul ?hc ?_); (case hc => (first | (refine Or.inl ⟨?_, ?_⟩ <;> first | decide | omega) | (refine Or.inr ⟨?_, ?_⟩ <;> first | decide | omega))))
  | ((with_reducible refine g_Idiv ?hc ?_); (case hc => (first | (exact ⟨by decide, by decide⟩) | assumption)))
  | ((with_reducible refine g_Imod ?hc ?_); (case hc => (first | assumption | omega | decide)))
  | ((with_reducible refine g_exR1 ?hlo ?hhi ?_); (case hlo => omega); (case hhi => omega))
  | ((with_reducible refine g_exR2 ?hb ?_); (case hb => omega))
  | with_reducible refine g_lst ?_ | with_reducible refine g_tup ?_ | with_reducible refine g_call ?_ | with_reducible refine g_BM ?_ | with_reducible refine g_BM0 ?_
  | with_reducible refine g_intB ?_ | with_reducible refine g_lc ?_ | with_reducible refine g_yes ?_ | with_reducible refine g_iZip ?_ | with_reducible refine g_sl ?_ | with_reducible refine g_noP ?_ | with_reducible refine g_part ?_ | with_reducible refine g_gcons ?_ | with_reducible refine g_gnil ?_
  | with_reducible refine g_tfld ?_ | with_reducible refine g_tmeth ?_ | with_reducible refine g_tmake ?_ | with_reducible refine g_sfld ?_ | with_reducible refine g_tprop ?_ | with_reducible refine g_tstar ?_ | with_reducible refine g_tmethK ?_ | with_reducible refine g_isN1 ?_ | with_reducible refine g_notN1 ?_))
local macro_rules | `(tactic| walk_at "hp") => `(tactic| (first | assumption | exact upd_same | (refine same_get (by assumption) ?_; walk_at "hp")))
local macro_rules | `(tactic| walk_at "sm") => `(tactic| (first | assumption | exact Same.refl _ | (refine Same.trans ?ha (by assumption); walk_at "sm")))
local macro_rules | `(tactic| walk_at "nn") => `(tactic| (first | assumption | (refine same_free (by assumption) ?_; walk_at "nn")))
local macro_rules | `(tactic| walk_at "sb") => `(tactic| (first | decide | (refine small_bits ?_ ?_ <;> omega)))
local macro_rules | `(tactic| walk_at "ln") => `(tactic| (simp only [List.length_cons, List.length_nil]; omega))
local macro_rules | `(tactic| walk_at "gg") => `(tactic| (repeat walk_at "g"))
local macro_rules | `(tactic| walk_at "gs") => `(tactic| (repeat walk_at "gs1"))
local macro_rules | `(tactic| walk_at "gx") => `(tactic| (repeat walk_at "gx1"))

local macro_rules | `(tactic| walk_at "g") => `(tactic| (first | with_reducible refine g_ownE ?_))
def upI (ns : List Int) : Bool := (List.zipWith (Kd.lt (α := Int)) ns (ns.drop 1)).all id
def keysOk : Option (List PyData) → Bool
  | some ds => liOk 200 (some ds) && upI (ds.map intD)
  | none => false
def spansOk : Option (List PyData) → Bool
  | some ds => decide (ds.length ≤ 30) && ds.all isSpanD
  | none => false
def putsOk (k : Option (List PyData)) : Option (List PyData) → Bool
  | some ds => liOk 30 (some ds) && !((ds.map intD).any fun n => decide (n ∈ (k.getD []).map intD))
  | none => false
/-- 0 good, 1 points, 2 range -/
def chk (k r p : Option (List PyData)) : Nat := if keysOk k = false then 1 else if spansOk r = false then 2 else if putsOk k p = false then 1 else 0
def spCheck (K : PySem.W.Frag) (CE CR : Addr) : Sp := fun vs H Q E => ∃ (x y z : V) (k r p : Option (List PyData)), vs = [x, y, z] ∧ Th K H x k ∧ Th K H y r ∧ Th K H z p ∧
  (chk k r p = 0 → ∀ H', Same H H' → Q .non H') ∧ (chk k r p = 1 → ∀ H', Same H H' → E (.ref CE) none H') ∧ (chk k r p = 2 → ∀ H', Same H H' → E (.ref CR) none H')
theorem th_ints {K : PySem.W.Frag} {H : Hp} {xs : List V} : ∀ {ds : List PyData}, DpAll K H xs ds → ds.all isIntD = true → DpAll K H xs ((ds.map intD).map Kd.D) := fun {ds} h a => by
  have e := ints_of a
  have e2 : (ds.map intD).map PyData.int = (ds.map intD).map Kd.D := rfl
  rw [← e2, ← e]
  exact h
section
variable {P : Program} {w : World} {K : PySem.W.Frag} {mg : Str → Option Value} {base : Heap} {X : Cx}
abbrev s_check_all : Stmt := top 12
abbrev N_check_all : List Str := ["keys", "ranges", "puts", "span", "put"]
theorem sc_check_all : FnScope N_check_all ["keys", "ranges", "puts"] (defScope s_check_all) := ⟨rfl, rfl, rfl, by decide +kernel, rfl, by decide +kernel, by decide +kernel⟩

theorem ok_check {f CE CR : Addr} {fd : FuncData} (D : Dn K mg "check_all" s_check_all ["keys", "ranges", "puts"] f fd) (T : Bt mg) (x_InvalidPoints : OwnE K mg "InvalidPoints" CE) (x_InvalidRange : OwnE K mg "InvalidRange" CR)
    (g_MOST_KEYS : ∃ u, mg "MOST_KEYS" = some u ∧ RelV (.int 200) u) (g_MOST_ROWS : ∃ u, mg "MOST_ROWS" = some u ∧ RelV (.int 30) u)
    (c_is_list_of_integers : Cal P w K mg base 2 "is_list_of_integers" (spIsLI K) []) (c_is_rising : Cal P w K mg base 1 "is_rising" (spRising Int K) []) (c_is_span : Cal P w K mg base 2 "is_span" (spIsSpan K) []) :
    CalXN P w K mg base 3 "check_all" (spCheck K CE CR) := by
  refine calXN_of D (okXN D.fn sc_check_all (fun vs H Q E h => ?_) (fun cdv A outer s H vs Q E hr h => ?_))
  · obtain ⟨x, y, z, k, r, p, rfl, _⟩ := h
    rfl
  · obtain ⟨x, y, z, k, r, p, rfl, hx, hy, hz, k0, k1, k2⟩ := h
    refine ⟨_, (pss_cons (ps_if (PW.pt (pw_or (pt_not (pt_val (pe_c c_is_list_of_integers hr (by decide) (by rfl) (pa_cons (pv 0) (pa_cons (pe_gc (by rfl) g_MOST_KEYS) pa_nil))))) (pw_or1 (pt_not (pt_val (pe_c c_is_rising hr (by decide) (by rfl) (pa_cons (pv 0) pa_nil))))))) (pss_one (ps_ownN x_InvalidPoints rfl (L2N.takes_of rfl rfl rfl rfl) (by rfl))) pss_nil)
    (pss_cons (ps_if (PW.pt (pw_or (pt_not (pt_val (pe_callB call_isi (by rfl) T.n_isinstance bt_isinstance (pa_cons (pv 1) (pa_cons (pe_bltn (v := .ty "list") (by rfl) T.n_list bt_list rfl) pa_nil))))) (pw_or (pt_cmpR op_gt (pe_callB cr_lenQ (by rfl) T.n_len bt_len (pa_cons (pv 1) pa_nil)) (pe_gc (by rfl) g_MOST_ROWS) (nomark _)) (pw_or1 (pt_not (pt_val (pe_callB (cr_all rfl) (by rfl) T.n_all bt_all (pa_cons (pe_lc (own := [("span", 3)]) (g := gName 3) (tt := tYes) rfl sc_check_all.nd (pi_list (pv 1)) (blkOk_by (own := [("span", 3)]) (N := N_check_all) (sc := defScope s_check_all) (by decide +kernel)) (fun _ _ _ _ _ => pg_name (i := 3) sc_check_all.nd rfl (Or.inl rfl)) (fun _ _ _ _ _ => pts_nil) (fun _ _ _ _ _ => (pe_c c_is_span hr (by decide) (by rfl) (pa_cons (pv 3) pa_nil)))) pa_nil)))))))) (pss_one (ps_ownN x_InvalidRange rfl (L2N.takes_of rfl rfl rfl rfl) (by rfl))) pss_nil)
    (pss_one (ps_if (PW.pt (pw_or (pt_not (pt_val (pe_c c_is_list_of_integers hr (by decide) (by rfl) (pa_cons (pv 2) (pa_cons (pe_gc (by rfl) g_MOST_ROWS) pa_nil))))) (pw_or1 (pt_val (pe_callB (cr_any rfl) (by rfl) T.n_any bt_any (pa_cons (pe_lc (own := [("put", 4)]) (g := gName 4) (tt := tYes) rfl sc_check_all.nd (pi_list (pv 2)) (blkOk_by (own := [("put", 4)]) (N := N_check_all) (sc := defScope s_check_all) (by decide +kernel)) (fun _ _ _ _ _ => pg_name (i := 4) sc_check_all.nd rfl (Or.inl rfl)) (fun _ _ _ _ _ => pts_nil) (fun _ _ _ _ _ => (pe_cmpR (show OpR _ (compareOp .In) (rIn K false) from op_in_seq) (pv 4) (pv 0) (by rfl)))) pa_nil)))))) (pss_one (ps_ownN x_InvalidPoints rfl (L2N.takes_of rfl rfl rfl rfl) (by rfl))) pss_nil)))), ?_⟩
    walk_at "gg"
    refine ⟨x, 200, k, rfl, hx, fun H1 S1 => ⟨_, rfl, ?_⟩⟩
    -- the keys
    cases a1 : liOk 200 k with
    | false =>
      have e0 : keysOk k = false := by
        unfold keysOk
        split
        · rw [a1]
          rfl
        · rfl
      refine g_ifT rfl ?_
      walk_at "gg"
      exact k1 (by unfold chk; rw [if_pos e0]) _ S1
    | true =>
      refine g_ifF rfl ?_
      cases hx with
      | no hn => cases a1
      | @lst ak xs ks ek hk lk =>
        have a1' := a1
        unfold liOk at a1'
        rw [Bool.and_eq_true, decide_eq_true_eq] at a1'
        have pk : PtsL K H ak (ks.map intD) := ⟨xs, ek, th_ints hk a1'.2⟩
        walk_at "gg"
        refine ⟨ak, ks.map intD, rfl, pk.same S1, by rw [List.length_map]; omega, fun H2 S2 => ⟨_, rfl, ?_⟩⟩
        have S02 := S1.trans S2
        cases a2 : (List.zipWith (Kd.lt (α := Int)) (ks.map intD) ((ks.map intD).drop 1)).all id with
        | false =>
          refine g_ifT rfl ?_
          walk_at "gg"
          exact k1 (by
            unfold chk
            rw [if_pos (by unfold keysOk upI; dsimp only; rw [a2, Bool.and_false])]) _ S02
        | true =>
          refine g_ifF rfl ?_
          walk_at "gg"
          have ok1 : keysOk (some ks) = true := by
            unfold keysOk upI
            dsimp only
            rw [a2, a1]
            rfl
          have bad2 : spansOk r = false → ∀ H', Same H H' → E (.ref CR) none H' := fun e => k2 (by unfold chk; rw [ok1, if_neg (by decide), if_pos e])
          cases hy with
          | no hn =>
            obtain ⟨t, ty, _, no⟩ := hn
            refine g_isi (.ty "list") (tyX_same S02 ty) no ⟨_, rfl, ?_⟩
            refine g_ifT rfl ?_
            refine g_ifT rfl ?_
            exact bad2 rfl _ S02
          | @lst ar ys rs er hrd lr =>
            refine g_isi (.ty "list") (.base (.lst (S02 _ _ er))) (b := true) (kit_ty (by decide +kernel)) ⟨_, rfl, ?_⟩
            refine g_ifF rfl ?_
            have lnr := dpAll_len hrd
            walk_at "gg"
            refine g_len (SqL.of (S02 _ _ er)) ?_
            rw [lnr]
            walk_at "gg"
            by_cases b1 : rs.length ≤ 30
            rotate_left
            · refine g_ifT (decide_eq_true (by omega)) ?_
              walk_at "gg"
              exact bad2 (by unfold spansOk; dsimp only; rw [decide_eq_false b1]; rfl) _ S02
            refine g_ifF (decide_eq_false (by omega)) ?_
            walk_at "gg"
            refine g_exL (SqL.of (S02 _ _ er)) ?_
            refine lc_map (src_list (SqL.of (S02 _ _ er))) (by omega) (fun i y => ∃ b, (rs.map isSpanD)[i]? = some b ∧ y = V.bl b) (fun i x H' Nx hi S it kx => ?_) fun D1 acc H3 n3 S3 e3 hl3 hacc => ?_
            · obtain ⟨d, hd, hx⟩ := thAll_get hrd it
              walk_at "gg"
              refine ⟨rfl, ?_⟩
              walk_at "gg"
              exact ⟨x, d, rfl, dp_same (S02.trans S) _ _ hx, fun H4 S4 => kx _ _ S4 ⟨_, by rw [List.getElem?_map, hd]; rfl, rfl⟩⟩
            have ea := bls (by rw [List.length_map]; omega) hacc
            rw [ea] at e3
            walk_at "gg"
            refine g_all (SqL.of e3) ?_
            have S03 := S02.trans S3
            rw [List.all_map]
            walk_at "gg"
            cases b2 : rs.all (id ∘ isSpanD) with
            | false =>
              refine g_ifT rfl ?_
              walk_at "gg"
              exact bad2 (by
                unfold spansOk
                dsimp only
                rw [show rs.all isSpanD = false from b2, Bool.and_false]) _ S03
            | true =>
              refine g_ifF rfl ?_
              have ok2 : spansOk (some rs) = true := by
                unfold spansOk
                dsimp only
                rw [show rs.all isSpanD = true from b2, decide_eq_true b1]
                rfl
              have bad3 : putsOk (some ks) p = false → ∀ H', Same H H' → E (.ref CE) none H' := fun e => k1 (by unfold chk; rw [ok1, ok2, if_neg (by decide), if_neg (by decide), if_pos e])
              have good : putsOk (some ks) p = true → ∀ H', Same H H' → Q .non H' := fun e => k0 (by unfold chk; rw [ok1, ok2, e, if_neg (by decide), if_neg (by decide), if_neg (by decide)])
              walk_at "gg"
              refine ⟨z, 30, p, rfl, th_same S03 hz, fun H4 S4 => ⟨_, rfl, ?_⟩⟩
              have S04 := S03.trans S4
              cases c1 : liOk 30 p with
              | false =>
                refine g_ifT rfl ?_
                walk_at "gg"
                refine bad3 ?_ _ S04
                cases p with
                | none => rfl
                | some ps =>
                  unfold putsOk
                  dsimp only
                  rw [c1]
                  rfl
              | true =>
                refine g_ifF rfl ?_
                cases hz with
                | no hn => cases c1
                | @lst ap zs ps ep hpd lp =>
                  have c1' := c1
                  unfold liOk at c1'
                  rw [Bool.and_eq_true, decide_eq_true_eq] at c1'
                  have pp := th_ints hpd c1'.2
                  have ik := ptsI_of (pk.same S04)
                  have ip := ptsI_of (show PtsL K H4 ap (ps.map intD) from ⟨zs, S04 _ _ ep, dp_sameAll S04 _ _ pp⟩)
                  walk_at "gg"
                  refine g_exL (SqL.of ip) ?_
                  refine lc_map (src_list (SqL.of ip)) (by rw [List.length_map, List.length_map]; omega) (fun i y => ∃ b, ((ps.map intD).map fun n => decide (n ∈ ks.map intD))[i]? = some b ∧ y = V.bl b) (fun i x H' Nx hi S it kx => ?_) fun D1 acc H5 n5 S5 e5 hl5 hacc => ?_
                  · obtain ⟨n, hn, rfl⟩ := int_at it
                    walk_at "gg"
                    refine ⟨rfl, ?_⟩
                    walk_at "gg"
                    refine g_inI (SqL.of (S _ _ ik)) ?_
                    exact kx _ _ (Same.refl _) ⟨_, by rw [List.getElem?_map, hn]; rfl, rfl⟩
                  have ea := bls (by rw [List.length_map]; rw [List.length_map] at hl5; exact hl5) hacc
                  rw [ea] at e5
                  walk_at "gg"
                  refine g_any (SqL.of e5) ?_
                  have S05 := S04.trans S5
                  rw [List.any_map]
                  have pe : putsOk (some ks) (some ps) = !((ps.map intD).any fun n => decide (n ∈ ks.map intD)) := by
                    unfold putsOk
                    dsimp only
                    rw [c1]
                    rfl
                  walk_at "gg"
                  cases c2 : (ps.map intD).any (id ∘ fun n => decide (n ∈ ks.map intD)) with
                  | true =>
                    refine g_ifT rfl ?_
                    walk_at "gg"
                    exact bad3 (by rw [pe, show (ps.map intD).any (fun n => decide (n ∈ ks.map intD)) = true from c2]; rfl) _ S05
                  | false =>
                    refine g_ifF rfl ?_
                    walk_at "gg"
                    exact good (by rw [pe, show (ps.map intD).any (fun n => decide (n ∈ ks.map intD)) = false from c2]; rfl) _ S05
end
end Gk

/-! module gapreach.spacers: what is wished -/
namespace Gk
open PySem L2 Gx
open C8 (Cal Met Mak pe_c pe_mt pe_mt0 pe_mk pe_gc)
local macro_rules | `(tactic| walk_at "g") => `(tactic| (first
  | with_reducible refine g_seq ?_ | with_reducible refine g_asg ?_ | ((with_reducible show tVar _ _ _ _); refine g_var rfl ?_) | with_reducible refine g_c ?_ | with_reducible refine g_name ?_ | with_reducible refine g_op ?_ | with_reducible refine g_I0 ?_
  | with_reducible refine g_cons ?_ | with_reducible refine g_nil ?_ | with_reducible refine g_exbl ?_ | with_reducible refine g_exint ?_ | with_reducible refine g_test ?_ | with_reducible refine g_B ?_ | with_reducible refine g_ifS ?_ | with_reducible refine g_ret ?_ | with_reducible refine g_retN ?_ | with_reducible refine g_next ?_
  | with_reducible refine g_CB ?_ | with_reducible refine g_sub ?_ | with_reducible refine g_drop ?_ | with_reducible refine g_not ?_ | with_reducible refine g_and ?_ | with_reducible refine g_or ?_ | with_reducible refine g_andV ?_ | with_reducible refine g_orV ?_ | with_reducible refine g_notV ?_ | with_reducible refine g_ifE ?_ | with_reducible refine g_isN ?_
  | with_reducible refine g_par ?_ | with_reducible refine g_expar ?_ | with_reducible refine g_chain ?_ | with_reducible refine g_un ?_ | with_reducible refine g_U ?_ | with_reducible refine g_bits ?_ | ((with_reducible show rEq _ _ _ _); refine g_eq rfl ?_) | ((with_reducible show rNe _ _ _ _); refine g_ne rfl ?_)
  | with_reducible refine g_for ?_ | with_reducible refine g_iRng1 ?_ | with_reducible refine g_iRng2 ?_ | with_reducible refine g_iList ?_ | with_reducible refine g_iTup ?_
  | ((with_reducible refine g_Imul ?hc ?_); (case hc => (first | (refine Or.inl ⟨?_, ?_⟩ <;> first | decide | omega) | (refine Or.inr ⟨?_, ?_⟩ <;> first | decide | omega))))
  | ((with_reducible refine g_Idiv ?hc ?_); (case hc => (first | (exact ⟨by decide, by decide⟩) | assumption)))
  | ((with_reducible refine g_Imod ?hc ?_); (case hc => (first | assumption | omega | decide)))
  | ((with_reducible refine g_exR1 ?hlo ?hhi ?_); (case hlo => omega); (case hhi => omega))
  | ((with_reducible refine g_exR2 ?hb ?_); (case hb => omega))
  | with_reducible refine g_lst ?_ | with_reducible refine g_tup ?_ | with_reducible refine g_call ?_ | with_reducible refine g_BM ?_ | with_reducible refine g_BM0 ?_
  | with_reducible refine g_intB ?_ | with_reducible refine g_lc ?_ | with_reducible refine g_yes ?_ | with_reducible refine g_iZip ?_ | with_reducible refine g_sl ?_ | with_reducible refine g_noP ?_ | with_reducible refine g_part ?_ | with_reducible refine g_gcons ?_ | with_reducible refine g_gnil ?_
  | with_reducible refine g_tfld ?_ | with_reducible refine g_tmeth ?_ | with_reducible refine g_tmake ?_ | with_reducible refine g_sfld ?_ | with_reducible refine g_tprop ?_ | with_reducible refine g_tstar ?_ | with_reducible refine g_tmethK ?_ | with_reducible refine g_isN1 ?_ | with_reducible refine g_notN1 ?_ | with_reducible refine g_callK0 ?_ | with_reducible refine g_m1 ?_ | with_reducible refine g_isstr ?_ | with_reducible refine g_iStr ?_ | with_reducible refine g_exS ?_ | with_reducible refine g_iEnum ?_))
local macro_rules | `(tactic| walk_at "gs1") => `(tactic| (first
  | with_reducible refine g_seq ?_ | with_reducible refine g_asg ?_ | ((with_reducible show tVar _ _ _ _); refine g_var rfl ?_) | with_reducible refine g_c ?_ | with_reducible refine g_name ?_ | with_reducible refine g_op ?_ | with_reducible refine g_I0 ?_
  | with_reducible refine g_cons ?_ | with_reducible refine g_nil ?_ | with_reducible refine g_exbl ?_ | with_reducible refine g_exint ?_ | with_reducible refine g_test ?_ | with_reducible refine g_B ?_ | with_reducible refine g_ifS ?_ | with_reducible refine g_retN ?_ | with_reducible refine g_next ?_
  | with_reducible refine g_CB ?_ | with_reducible refine g_sub ?_ | with_reducible refine g_drop ?_ | with_reducible refine g_not ?_ | with_reducible refine g_and ?_ | with_reducible refine g_or ?_ | with_reducible refine g_andV ?_ | with_reducible refine g_orV ?_ | with_reducible refine g_notV ?_ | with_reducible refine g_ifE ?_ | with_reducible refine g_isN ?_
  | with_reducible refine g_par ?_ | with_reducible refine g_expar ?_ | with_reducible refine g_chain ?_ | with_reducible refine g_un ?_ | with_reducible refine g_U ?_ | with_reducible refine g_bits ?_ | ((with_reducible show rEq _ _ _ _); refine g_eq rfl ?_) | ((with_reducible show rNe _ _ _ _); refine g_ne rfl ?_)
  | with_reducible refine g_for ?_ | with_reducible refine g_iRng1 ?_ | with_reducible refine g_iRng2 ?_ | with_reducible refine g_iList ?_ | with_reducible refine g_iTup ?_
  | ((with_reducible refine g_Imul ?hc ?_); (case hc => (first | (refine Or.inl ⟨?_, ?_⟩ <;> first | decide | omega) | (refine Or.inr ⟨?_, ?_⟩ <;> first | decide | omega))))
  | ((with_reducible refine g_Idiv ?hc ?_); (case hc => (first | (exact ⟨by decide, by decide⟩) | assumption)))
  | ((with_reducible refine g_Imod ?hc ?_); (case hc => (first | assumption | omega | decide)))
  | ((with_reducible refine g_exR1 ?hlo ?hhi ?_); (case hlo => omega); (case hhi => omega))
  | ((with_reducible refine g_exR2 ?hb ?_); (case hb => omega))
  | with_reducible refine g_lst ?_ | with_reducible refine g_tup ?_ | with_reducible refine g_call ?_ | with_reducible refine g_BM ?_ | with_reducible refine g_BM0 ?_
  | with_reducible refine g_intB ?_ | with_reducible refine g_lc ?_ | with_reducible refine g_yes ?_ | with_reducible refine g_iZip ?_ | with_reducible refine g_sl ?_ | with_reducible refine g_noP ?_ | with_reducible refine g_part ?_ | with_reducible refine g_gcons ?_ | with_reducible refine g_gnil ?_
  | with_reducible refine g_tfld ?_ | with_reducible refine g_tmeth ?_ | with_reducible refine g_tmake ?_ | with_reducible refine g_sfld ?_ | with_reducible refine g_tprop ?_ | with_reducible refine g_tstar ?_ | with_reducible refine g_tmethK ?_ | with_reducible refine g_isN1 ?_ | with_reducible refine g_notN1 ?_ | with_reducible refine g_callK0 ?_ | with_reducible refine g_m1 ?_ | with_reducible refine g_isstr ?_ | with_reducible refine g_iStr ?_ | with_reducible refine g_exS ?_ | with_reducible refine g_iEnum ?_))
local macro_rules | `(tactic| walk_at "gx1") => `(tactic| (first
  | with_reducible refine g_seq ?_ | with_reducible refine g_asg ?_ | ((with_reducible show tVar _ _ _ _); refine g_var rfl ?_) | with_reducible refine g_c ?_ | with_reducible refine g_name ?_ | with_reducible refine g_op ?_ | with_reducible refine g_I0 ?_
  | with_reducible refine g_cons ?_ | with_reducible refine g_nil ?_ | with_reducible refine g_exbl ?_ | with_reducible refine g_exint ?_ | with_reducible refine g_test ?_ | with_reducible refine g_B ?_ | with_reducible refine g_ifS ?_ | with_reducible refine g_retN ?_ | with_reducible refine g_next ?_
  | with_reducible refine g_CB ?_ | with_reducible refine g_sub ?_ | with_reducible refine g_drop ?_ | with_reducible refine g_not ?_ | with_reducible refine g_and ?_ | with_reducible refine g_or ?_ | with_reducible refine g_andV ?_ | with_reducible refine g_orV ?_ | with_reducible refine g_notV ?_ | with_reducible refine g_ret ?_ | with_reducible refine g_isN ?_
  | with_reducible refine g_par ?_ | with_reducible refine g_expar ?_ | with_reducible refine g_chain ?_ | with_reducible refine g_un ?_ | with_reducible refine g_U ?_ | with_reducible refine g_bits ?_ | ((with_reducible show rEq _ _ _ _); refine g_eq rfl ?_) | ((with_reducible show rNe _ _ _ _); refine g_ne rfl ?_)
  | with_reducible refine g_for ?_ | with_reducible refine g_iRng1 ?_ | with_reducible refine g_iRng2 ?_ | with_reducible refine g_iList ?_ | with_reducible refine g_iTup ?_
  | ((with_reducible refine g_Imul ?hc ?_); (case hc => (first | (refine Or.inl ⟨?_, ?_⟩ <;> first | decide | omega) | (refine Or.inr ⟨?_, ?_⟩ <;> first | decide | omega))))
  | ((with_reducible refine g_Idiv ?hc ?_); (case hc => (first | (exact ⟨by decide, by decide⟩) | assumption)))
  | ((with_reducible refine g_Imod ?hc ?_); (case hc => (first | assumption | omega | decide)))
  | ((with_reducible refine g_exR1 ?hlo ?hhi ?_); (case hlo => omega); (case hhi => omega))
  | ((with_reducible refine g_exR2 ?hb ?_); (case hb => omega))
  | with_reducible refine g_lst ?_ | with_reducible refine g_tup ?_ | with_reducible refine g_call ?_ | with_reducible refine g_BM ?_ | with_reducible refine g_BM0 ?_
  | with_reducible refine g_intB ?_ | with_reducible refine g_lc ?_ | with_reducible refine g_yes ?_ | with_reducible refine g_iZip ?_ | with_reducible refine g_sl ?_ | with_reducible refine g_noP ?_ | with_reducible refine g_part ?_ | with_reducible refine g_gcons ?_ | with_reducible refine g_gnil ?_
  | with_reducible refine g_tfld ?_ | with_reducible refine g_tmeth ?_ | with_reducible refine g_tmake ?_ | with_reducible refine g_sfld ?_ | with_reducible refine g_tprop ?_ | with_reducible refine g_tstar ?_ | with_reducible refine g_tmethK ?_ | with_reducible refine g_isN1 ?_ | with_reducible refine g_notN1 ?_ | with_reducible refine g_callK0 ?_ | with_reducible refine g_m1 ?_ | with_reducible refine g_isstr ?_ | with_reducible refine g_iStr ?_ | with_reducible refine g_exS ?_ | with_reducible refine g_iEnum ?_))
local macro_rules | `(tactic| walk_at "hp") => `(tactic| (first | assumption | exact upd_same | (refine same_get (by assumption) ?_; walk_at "hp")))
local macro_rules | `(tactic| walk_at "sm") => `(tactic| (first | assumption | exact Same.refl _ | (refine Same.trans ?ha (by assumption); walk_at "sm")))
local macro_rules | `(tactic| walk_at "nn") => `(tactic| (first | assumption | (refine same_free (by assumption) ?_; walk_at "nn")))
local macro_rules | `(tactic| walk_at "sb") => `(tactic| (first | decide | (refine small_bits ?_ ?_ <;> omega)))
local macro_rules | `(tactic| walk_at "ln") => `(tactic| (simp only [List.length_cons, List.length_nil]; omega))
local macro_rules | `(tactic| walk_at "gg") => `(tactic| (repeat walk_at "g"))
local macro_rules | `(tactic| walk_at "gs") => `(tactic| (repeat walk_at "gs1"))
local macro_rules | `(tactic| walk_at "gx") => `(tactic| (repeat walk_at "gx1"))

/-- the wished interval -/
def wishE (lo hi p : Int) : Pr := if p > hi then (hi, p - 1) else (p + 1, lo)
def wishI (ks : List Int) (lo hi p : Int) : Option Pr := if lo ≤ p ∧ p ≤ hi then none else if ks.any (fun k => decide ((wishE lo hi p).1 ≤ k ∧ k ≤ (wishE lo hi p).2)) = true then none else some (wishE lo hi p)
def oPr : Option Pr → PyData
  | none => .none
  | some q => Gx.prD q
def spWishI (K : PySem.W.Frag) : Sp := fun vs H Q _ => ∃ (a t : Addr) (ks : List Int) (lo hi p : Int), vs = [.ref a, .ref t, .int p] ∧ H a = some (.lst (ks.map V.int)) ∧ ks.length ≤ 1000 ∧ SqT K H t [.int lo, .int hi] ∧
  ∀ v H', Same H H' → Dp K H' v (oPr (wishI ks lo hi p)) → Q v H'
section
variable {P : Program} {w : World} {K : PySem.W.Frag} {mg : Str → Option Value} {base : Heap} {X : Cx}
abbrev s_wished_interval : Stmt := top 13
abbrev N_wished_interval : List Str := ["keys", "span", "put", "low", "high", "first", "last", "key"]
theorem sc_wished_interval : FnScope N_wished_interval ["keys", "span", "put"] (defScope s_wished_interval) := ⟨rfl, rfl, rfl, by decide +kernel, rfl, by decide +kernel, by decide +kernel⟩

theorem ok_wishI {f : Addr} {fd : FuncData} (D : Dn K mg "wished_interval" s_wished_interval ["keys", "span", "put"] f fd) (T : Bt mg) : Cal P w K mg base 1 "wished_interval" (spWishI K) [] := by
  refine cal_of D (D.fn.ok sc_wished_interval (fun vs H Q E h => ?_) (fun cdv A outer s H vs Q E hr h => ?_))
  · obtain ⟨a, t, ks, lo, hi, p, rfl, _⟩ := h
    rfl
  · obtain ⟨a, t, ks, lo, hi, p, rfl, ha, few, ht, k⟩ := h
    refine ⟨_, (pss_cons (ps_asg (pv 1) (pg_tup (by rfl) (pgs_cons (pg_name (i := 3) sc_wished_interval.nd rfl (Or.inl rfl)) (pgs_cons (pg_name (i := 4) sc_wished_interval.nd rfl (Or.inl rfl)) pgs_nil))))
    (pss_cons (ps_if (pt_chain op_le op_le (pv 3) (pv 2) (pv 4)) (pss_one (ps_ret pe_non)) pss_nil)
    (pss_cons (ps_asg (pe_ifExp (pt_cmpR op_gt (pv 2) (pv 4) (nomark _)) (pe_tup (pa_cons (pv 4) (pa_cons (pe_op op_sub (pv 2) pe_int) pa_nil))) (pe_tup (pa_cons (pe_op op_add (pv 2) pe_int) (pa_cons (pv 3) pa_nil)))) (pg_tup (by rfl) (pgs_cons (pg_name (i := 5) sc_wished_interval.nd rfl (Or.inr rfl)) (pgs_cons (pg_name (i := 6) sc_wished_interval.nd rfl (Or.inr rfl)) pgs_nil))))
    (pss_one (ps_ret (pe_ifExp (pt_val (pe_callB (cr_any rfl) (by rfl) T.n_any bt_any (pa_cons (pe_lc (own := [("key", 7)]) (g := gName 7) (tt := tYes) rfl sc_wished_interval.nd (pi_list (pv 0)) (blkOk_by (own := [("key", 7)]) (N := N_wished_interval) (sc := defScope s_wished_interval) (by decide +kernel)) (fun _ _ _ _ _ => pg_name (i := 7) sc_wished_interval.nd rfl (Or.inl rfl)) (fun _ _ _ _ _ => pts_nil) (fun _ _ _ _ _ => (pe_chain op_le op_le (pv 5) (pv 7) (pv 6)))) pa_nil))) pe_non (pe_tup (pa_cons (pv 5) (pa_cons (pv 6) pa_nil))))))))), ?_⟩
    walk_at "gg"
    refine g_gtup ht rfl ?_
    with_reducible refine g_gcons ?_
    with_reducible refine g_name ?_
    with_reducible refine g_gcons ?_
    with_reducible refine g_name ?_
    with_reducible refine g_gnil ?_
    with_reducible refine g_seq ?_
    refine g_cutS (t := tIfS _ _ _) (fun σ' H' => ¬ (lo ≤ p ∧ p ≤ hi) ∧ H' = H ∧ σ' = [some (V.ref a), some (V.ref t), some (V.int p), some (V.int lo), some (V.int hi), none, none, none]) (fun D' er kn => ?_) ?_
    · walk_at "gg"
      by_cases h1 : lo ≤ p
      · refine g_ifT (decide_eq_true h1) ?_
        walk_at "gg"
        by_cases h2 : p ≤ hi
        · refine g_ifT (decide_eq_true h2) ?_
          walk_at "gg"
          rw [er]
          refine k _ _ (Same.refl _) ?_
          unfold wishI
          rw [if_pos ⟨h1, h2⟩]
          exact .non
        · refine g_ifF (decide_eq_false h2) ?_
          exact kn _ _ ⟨fun z => h2 z.2, rfl, rfl⟩
      · refine g_ifF (decide_eq_false h1) ?_
        refine ⟨_, rfl, g_ifF rfl ?_⟩
        exact kn _ _ ⟨fun z => h1 z.1, rfl, rfl⟩
    · rintro σ' H' ⟨nb, rfl, rfl⟩
      with_reducible refine g_seq ?_
      walk_at "gx"
      refine g_cutE (fun v H1 => ∃ t1, v = .ref t1 ∧ Same H' H1 ∧ H1 t1 = some (.tup [.int (wishE lo hi p).1, .int (wishE lo hi p).2])) (fun Q' kq => ?_) ?_
      · walk_at "gg"
        unfold wishE at kq
        by_cases h3 : hi < p
        · refine g_ifT (decide_eq_true h3) ?_
          walk_at "gg"
          refine g_mkT (by walk_at "ln") fun t1 H1 n1 S1 e1 => ?_
          refine kq _ _ ⟨t1, rfl, S1, ?_⟩
          rw [if_pos h3]
          exact e1
        · refine g_ifF (decide_eq_false h3) ?_
          walk_at "gg"
          refine g_mkT (by walk_at "ln") fun t1 H1 n1 S1 e1 => ?_
          refine kq _ _ ⟨t1, rfl, S1, ?_⟩
          rw [if_neg h3]
          exact e1
      · rintro _ H1 ⟨t1, rfl, S1, e1⟩
        have wi : wishI ks lo hi p = if ks.any (fun k => decide ((wishE lo hi p).1 ≤ k ∧ k ≤ (wishE lo hi p).2)) = true then none else some (wishE lo hi p) := by
          unfold wishI
          rw [if_neg nb]
        generalize wishE lo hi p = q at e1 wi
        refine g_gtup (SqT.of e1) rfl ?_
        walk_at "gg"
        refine g_exL (SqL.of (S1 _ _ ha)) ?_
        refine lc_map (src_list (SqL.of (S1 _ _ ha))) (by rw [List.length_map]; omega) (fun i y => ∃ b, (ks.map fun k => decide (q.1 ≤ k ∧ k ≤ q.2))[i]? = some b ∧ y = V.bl b) (fun i x H2 Nx hi S it kx => ?_) fun D1 acc H5 n5 S5 e5 hl5 hacc => ?_
        · obtain ⟨n, hn, rfl⟩ := int_at it
          walk_at "gg"
          refine ⟨rfl, ?_⟩
          walk_at "gg"
          have get : (ks.map fun k => decide (q.1 ≤ k ∧ k ≤ q.2))[i]? = some (decide (q.1 ≤ n ∧ n ≤ q.2)) := by rw [List.getElem?_map, hn]; rfl
          by_cases c1 : q.1 ≤ n
          · refine g_ifT (decide_eq_true c1) ?_
            walk_at "gg"
            refine kx _ _ (Same.refl _) ⟨_, get, ?_⟩
            simp [c1]
          · refine g_ifF (decide_eq_false c1) ?_
            refine kx _ _ (Same.refl _) ⟨_, get, ?_⟩
            simp [c1]
        have ea := bls (by rw [List.length_map]; rw [List.length_map] at hl5; exact hl5) hacc
        rw [ea] at e5
        walk_at "gg"
        refine g_any (SqL.of e5) ?_
        rw [List.any_map]
        walk_at "gg"
        cases c2 : ks.any (id ∘ fun k => decide (q.1 ≤ k ∧ k ≤ q.2)) with
        | true =>
          refine g_ifT rfl ?_
          walk_at "gg"
          refine k _ _ (S1.trans S5) ?_
          rw [wi, if_pos (show ks.any (fun k => decide (q.1 ≤ k ∧ k ≤ q.2)) = true from c2)]
          exact .non
        | false =>
          refine g_ifF rfl ?_
          walk_at "gg"
          refine g_mkT (by walk_at "ln") fun t2 H6 n6 S6 e6 => ?_
          walk_at "gg"
          refine k _ _ ((S1.trans S5).trans S6) ?_
          have c2' : ¬ ks.any (fun k => decide (q.1 ≤ k ∧ k ≤ q.2)) = true := by
            intro z
            have c2 : ks.any (fun k => decide (q.1 ≤ k ∧ k ≤ q.2)) = false := c2
            rw [c2] at z
            cases z
          rw [wi, if_neg c2']
          exact .tup (SqT.of e6) (.cons (.int _) (.cons (.int _) .nil))
/-- a wished row: its put's number, its span's number, the interval -/
structure Wr where
  i : Int
  j : Int
  q : Pr
deriving DecidableEq
def wrD (r : Wr) : PyData := .tuple [.int r.i, .int r.j, Gx.prD r.q]
instance : Da Wr where
  dec := inferInstance
  D := wrD
  inj a b h := by
    cases a
    cases b
    unfold wrD Gx.prD at h
    simp only [PyData.tuple.injEq, List.cons.injEq, PyData.int.injEq] at h
    obtain ⟨h1, h2, ⟨h3, h4, _⟩, _⟩ := h
    simp only [Wr.mk.injEq]
    exact ⟨h1, h2, Prod.ext h3 h4⟩
  bar a := by simp [wrD, Gx.prD, bare, bareAll]
  lay a := by simp [wrD, Gx.prD, PyData.canLay0, PyData.canLayAll0]
  dep a := by simp [wrD, Gx.prD, PyData.depth, PyData.depthAll]
  nol a := by simp [wrD, Gx.prD, noLst, noLstAll]
/-- the wished rows of one put -/
def rowsOf (ks : List Int) (rs : List Pr) (i : Nat) (p : Int) : List Wr := (rs.zipIdx).filterMap fun r => (wishI ks r.1.1 r.1.2 p).map fun q => ⟨i, r.2, q⟩
def wishRows (ks : List Int) (rs : List Pr) (ps : List Int) : List Wr := (ps.zipIdx).flatMap fun p => rowsOf ks rs p.2 p.1
theorem rows_next {ks : List Int} {rs : List Pr} {i j : Nat} {p : Int} {r : Pr} (h : rs[j]? = some r) : rowsOf ks (rs.take (j + 1)) i p = rowsOf ks (rs.take j) i p ++ ((wishI ks r.1 r.2 p).map fun q => (⟨i, j, q⟩ : Wr)).toList := by
  have tk : rs.take (j + 1) = rs.take j ++ [r] := by
    rw [List.take_succ, h]
    rfl
  have lt : j < rs.length := (List.getElem?_eq_some_iff.mp h).1
  unfold rowsOf
  rw [tk, List.zipIdx_append, List.filterMap_append]
  congr 1
  have lj : (rs.take j).length = j := by rw [List.length_take]; omega
  rw [lj]
  simp only [List.zipIdx_cons, List.zipIdx_nil, List.filterMap_cons, List.filterMap_nil, Nat.zero_add]
  cases wishI ks r.1 r.2 p <;> rfl
theorem wish_next {ks : List Int} {rs : List Pr} {ps : List Int} {i : Nat} {p : Int} (h : ps[i]? = some p) : wishRows ks rs (ps.take (i + 1)) = wishRows ks rs (ps.take i) ++ rowsOf ks rs i p := by
  have tk : ps.take (i + 1) = ps.take i ++ [p] := by
    rw [List.take_succ, h]
    rfl
  have lt : i < ps.length := (List.getElem?_eq_some_iff.mp h).1
  unfold wishRows
  rw [tk, List.zipIdx_append, List.flatMap_append]
  congr 1
  have li : (ps.take i).length = i := by rw [List.length_take]; omega
  rw [li]
  simp only [List.zipIdx_cons, List.zipIdx_nil, List.flatMap_cons, List.flatMap_nil, Nat.zero_add, List.append_nil]
def spWishRows (K : PySem.W.Frag) : Sp := fun vs H Q _ => ∃ (a b c : Addr) (ks : List Int) (rs : List Pr) (ps : List Int), vs = [.ref a, .ref b, .ref c] ∧ H a = some (.lst (ks.map V.int)) ∧ PtsL K H b rs ∧ H c = some (.lst (ps.map V.int)) ∧ ks.length ≤ 1000 ∧ rs.length ≤ 30 ∧ ps.length ≤ 30 ∧
  ∀ l H', H l = none → Same H H' → DtL K H' l (wishRows ks rs ps) → Q (.ref l) H'
abbrev s_wished_rows : Stmt := top 14
abbrev N_wished_rows : List Str := ["keys", "ranges", "puts", "found", "index", "put", "place", "span", "interval"]
theorem sc_wished_rows : FnScope N_wished_rows ["keys", "ranges", "puts"] (defScope s_wished_rows) := ⟨rfl, rfl, rfl, by decide +kernel, rfl, by decide +kernel, by decide +kernel⟩

theorem ok_wishRows {f : Addr} {fd : FuncData} (D : Dn K mg "wished_rows" s_wished_rows ["keys", "ranges", "puts"] f fd) (T : Bt mg) (c_wished_interval : Cal P w K mg base 1 "wished_interval" (spWishI K) []) : Cal P w K mg base 2 "wished_rows" (spWishRows K) [] := by
  refine cal_of D (D.fn.ok sc_wished_rows (fun vs H Q E h => ?_) (fun cdv A outer s H vs Q E hr h => ?_))
  · obtain ⟨a, b, c, ks, rs, ps, rfl, _⟩ := h
    rfl
  · obtain ⟨a, b, c, ks, rs, ps, rfl, ha, hb, hc, lk, lr, lp, k⟩ := h
    refine ⟨_, (pss_cons (ps_set (i := 3) sc_wished_rows.nd rfl (Or.inl rfl) (pe_lst pa_nil))
    (pss_cons (ps_for PassesOwn.never rfl (pi_enum (by rfl) T.n_enumerate (pa_cons (pv 2) pa_nil)) (pg_tup (by rfl) (pgs_cons (pg_name (i := 4) sc_wished_rows.nd rfl (Or.inl rfl)) (pgs_cons (pg_name (i := 5) sc_wished_rows.nd rfl (Or.inl rfl)) pgs_nil))) (pss_one (ps_for PassesOwn.never rfl (pi_enum (by rfl) T.n_enumerate (pa_cons (pv 1) pa_nil)) (pg_tup (by rfl) (pgs_cons (pg_name (i := 6) sc_wished_rows.nd rfl (Or.inl rfl)) (pgs_cons (pg_name (i := 7) sc_wished_rows.nd rfl (Or.inl rfl)) pgs_nil))) (pss_cons (ps_set (i := 8) sc_wished_rows.nd rfl (Or.inl rfl) (pe_c c_wished_interval hr (by decide) (by rfl) (pa_cons (pv 0) (pa_cons (pv 7) (pa_cons (pv 5) pa_nil)))))
    (pss_one (ps_if (pt_cmpR op_notN1 (pv 8) pe_non (nomark _)) (pss_one (ps_expr (pe_bm PySem.F.plainAttrs_list PySem.F.slot_list_append PySem.F.type_list_append mt_append (pv 3) (pa_cons (pe_tup (pa_cons (pv 4) (pa_cons (pv 6) (pa_cons (pv 8) pa_nil)))) pa_nil)))) pss_nil))))))
    (pss_one (ps_ret (pv 3))))), ?_⟩
    walk_at "gg"
    refine g_mkL (by walk_at "ln") fun l H1 n1 S1 e1 => ?_
    obtain ⟨ys, hbe, hbd⟩ := hb
    have lny : ys.length = rs.length := by rw [dpAll_len hbd, List.length_map]
    walk_at "gg"
    refine g_exEn (SqL.of (S1 _ _ hc)) ?_
    refine fw_enum (xs := ps.map V.int) (fun i σ H' => ∃ (acc : List V) (v4 v5 v6 v7 v8 : Option V), σ = [some (.ref a), some (.ref b), some (.ref c), some (.ref l), v4, v5, v6, v7, v8] ∧ Same H H' ∧ H' l = some (.lst acc) ∧ DpAll K H' acc ((wishRows ks rs (ps.take i)).map Da.D) ∧ acc.length ≤ 30 * i)
      ⟨[], _, _, _, _, _, rfl, S1, e1, .nil, Nat.zero_le _⟩ (fun i σ H' _ ⟨_, _, _, _, _, _, _, S, _⟩ => SqL.of (S _ _ hc)) ?_ ?_
    · rintro i x t σ H2 H3 hx ⟨acc, v4, v5, v6, v7, v8, rfl, S2, e2, d2, l2⟩ S3 e3
      obtain ⟨p, hp, rfl⟩ := int_at hx
      have ip : i < ps.length := (List.getElem?_eq_some_iff.mp hp).1
      refine g_gtup (SqT.of e3) rfl ?_
      walk_at "gg"
      refine g_exEn (SqL.of ((S2.trans S3) _ _ hbe)) ?_
      refine fw_enum (xs := ys) (fun j σ H' => ∃ (acc : List V) (v6 v7 v8 : Option V), σ = [some (.ref a), some (.ref b), some (.ref c), some (.ref l), some (.int (i : Nat)), some (.int p), v6, v7, v8] ∧ Same H H' ∧ H' l = some (.lst acc) ∧ DpAll K H' acc ((wishRows ks rs (ps.take i) ++ rowsOf ks (rs.take j) i p).map Da.D) ∧ acc.length ≤ 30 * i + j)
        ⟨acc, _, _, _, rfl, S2.trans S3, S3 _ _ e2, ?_, by omega⟩ (fun j σ H' _ ⟨_, _, _, _, _, S, _⟩ => SqL.of (S _ _ hbe)) ?_ ?_
      · have z : rowsOf ks (rs.take 0) i p = [] := rfl
        rw [z, List.append_nil]
        exact dp_sameAll S3 _ _ d2
      · rintro j y u σ H4 H5 hy ⟨acc, v6, v7, v8, rfl, S4, e4, d4, l4⟩ S5 e5
        have jl : j < ys.length := (List.getElem?_eq_some_iff.mp hy).1
        obtain ⟨r, hr, dy⟩ := datas_at (dp_sameAll (S4.trans S5) _ _ hbd) hy
        obtain ⟨t2, rfl, ht2⟩ := pr_at dy
        have S05 := S4.trans S5
        refine g_gtup (SqT.of e5) rfl ?_
        walk_at "gg"
        refine ⟨a, t2, ks, r.1, r.2, p, rfl, S05 _ _ ha, lk, ht2, fun v H6 S6 dv => ?_⟩
        have nx : rowsOf ks (rs.take (j + 1)) i p = rowsOf ks (rs.take j) i p ++ ((wishI ks r.1 r.2 p).map fun q => (⟨i, j, q⟩ : Wr)).toList := rows_next hr
        have S06 := S05.trans S6
        show gName 8 v _ _ _
        cases wi : wishI ks r.1 r.2 p with
        | none =>
          rw [wi] at dv nx
          cases dv
          walk_at "gg"
          refine ⟨acc, _, _, _, rfl, S06, (S5.trans S6) _ _ e4, ?_, by omega⟩
          rw [nx]
          have z : rowsOf ks (rs.take j) i p ++ (Option.map (fun q => (⟨i, j, q⟩ : Wr)) none).toList = rowsOf ks (rs.take j) i p := List.append_nil _
          rw [z]
          exact dp_sameAll (S5.trans S6) _ _ d4
        | some q =>
          rw [wi] at dv nx
          have dv : Dp K H6 v (Gx.prD q) := dv
          obtain ⟨t3, rfl, ht3⟩ := pr_at dv
          walk_at "gg"
          refine g_ifT rfl ?_
          walk_at "gg"
          refine g_tyL ((S5.trans S6) _ _ e4) ?_
          walk_at "gg"
          refine g_mkT (by walk_at "ln") fun t4 H7 n7 S7 e7 => ?_
          walk_at "gg"
          have S57 := (S5.trans S6).trans S7
          refine g_appB (S57 _ _ e4) (by omega) fun H8 B8 e8 => ?_
          walk_at "gg"
          have n1' : H l = none := n1
          refine ⟨_, _, _, _, rfl, same_but (S06.trans S7) n1' B8, e8, ?_, by rw [List.length_append]; simp only [List.length_cons, List.length_nil]; omega⟩
          rw [nx]
          have z : ((wishRows ks rs (ps.take i) ++ (rowsOf ks (rs.take j) i p ++ (Option.map (fun q => (⟨i, j, q⟩ : Wr)) (some q)).toList)).map Da.D) = ((wishRows ks rs (ps.take i) ++ rowsOf ks (rs.take j) i p).map Da.D) ++ [Da.D (⟨i, j, q⟩ : Wr)] := by
            rw [List.map_append, List.map_append, List.map_append, List.append_assoc]
            rfl
          rw [z]
          have nt4 : t4 ≠ l := fun z => by
            rw [z, (S5.trans S6) _ _ e4] at n7
            cases n7
          exact dpAll_append (dp_butAll (S57 _ _ e4) B8 _ _ (da_nols _) (dp_sameAll S57 _ _ d4)) (.cons (.tup (SqT.of (B8 _ _ nt4 e7)) (.cons (.int _) (.cons (.int _) (.cons (dp_but (S57 _ _ e4) B8 _ _ (by simp [Gx.prD, noLst, noLstAll]) (dp_same S7 _ _ dv)) .nil)))) .nil)
      · rintro σ H4 ⟨acc, v6, v7, v8, rfl, S4, e4, d4, l4⟩
        refine ⟨acc, _, _, _, _, _, rfl, S4, e4, ?_, by rw [lny] at l4; omega⟩
        have z : wishRows ks rs (ps.take (i + 1)) = wishRows ks rs (ps.take i) ++ rowsOf ks rs i p := wish_next hp
        rw [z]
        rw [lny, List.take_length] at d4
        exact d4
    · rintro σ H2 ⟨acc, v4, v5, v6, v7, v8, rfl, S2, e2, d2, l2⟩
      rw [List.length_map, List.take_length] at d2
      walk_at "gg"
      exact k l H2 n1 S2 ⟨acc, e2, d2⟩
end
end Gk

set_option maxHeartbeats 1000000
/-! the length of a set of whole numbers; which lists ascend -/
namespace Gx
open PySem L2 PySem.Spec PyProof.Rows
def rLenSet (w : World) : List V → Hp → VK → Prop := fun xs H Q => ∃ (a : Addr) (M : Int → Bool) (n : Nat), xs = [V.ref a] ∧ H a = some (SetO w a M n) ∧ ∀ ns : List Int, ns.Nodup → (∀ k, k ∈ ns ↔ M k = true) → Q (.int ns.length) H
theorem cr_lenSet {X : Cx} : CallR X (.builtin "len") (rLenSet X.w) := by
  intro pins s σ H xs us Q I r h
  obtain ⟨a, M, n, rfl, e, q⟩ := h
  obtain ⟨u, rfl, rx⟩ := vals1 r
  cases (show u = Value.ref a from rx)
  obtain ⟨o, es, ep, t, ho, hex, hd, _, nd, mem, _, hf, hn, _⟩ := setO_get I e
  exact call_len_set ho hex hd hf (by have := (show es.size < scanBound by assumption); unfold scanBound at this; omega) ⟨.int (es.toList.map keyOf).length, H, I.tok _, ⟨_, by rw [List.length_map, Array.length_toList]⟩, q _ nd fun k => (mem k).symm⟩
/-! decisions by any instance -/
theorem dcT {p : Prop} {i : Decidable p} (h : p) : decide p = true := @decide_eq_true p i h
theorem dcF {p : Prop} {i : Decidable p} (h : ¬ p) : decide p = false := @decide_eq_false p i h
theorem ncT {p : Prop} {i : Decidable p} (h : p) : (!decide p) = false := congrArg not (@decide_eq_true p i h)
theorem ncF {p : Prop} {i : Decidable p} (h : ¬ p) : (!decide p) = true := congrArg not (@decide_eq_false p i h)
/-- each number once -/
def dd : List Int → List Int
  | [] => []
  | x :: xs => if x ∈ xs then dd xs else x :: dd xs
theorem dd_mem {x : Int} : ∀ {xs : List Int}, x ∈ dd xs ↔ x ∈ xs
  | [] => Iff.rfl
  | y :: ys => by
    unfold dd
    by_cases h : y ∈ ys
    · rw [if_pos h, dd_mem, List.mem_cons]
      exact ⟨.inr, fun z => z.elim (fun e => e ▸ h) id⟩
    · rw [if_neg h, List.mem_cons, List.mem_cons, dd_mem]
theorem dd_nodup : ∀ xs : List Int, (dd xs).Nodup
  | [] => List.nodup_nil
  | y :: ys => by
    unfold dd
    by_cases h : y ∈ ys
    · rw [if_pos h]
      exact dd_nodup ys
    · rw [if_neg h]
      exact List.nodup_cons.mpr ⟨fun z => h (dd_mem.mp z), dd_nodup ys⟩
theorem g_lenSet {w : World} {P : Program} {K : PySem.W.Frag} {a : Addr} {xs : List Int} {H : Hp} {Q : VK} (h : Sk.setP K P w H a xs) (q : Q (.int ((dd xs).length : Nat)) H) : rLenSet w [V.ref a] H Q := by
  obtain ⟨M, n, e, m, ln⟩ := h
  refine ⟨a, M, n, rfl, e, fun ns nd mem => ?_⟩
  have : ns.length = (dd xs).length := ((List.perm_ext_iff_of_nodup nd (dd_nodup xs)).mpr fun k => (mem k).trans ((m k).trans dd_mem.symm)).length_eq
  rw [this]
  exact q
section
variable {α : Type} [Ln α]
open Kd
theorem zip_iff : ∀ {as : List α}, (List.zipWith lt as (as.drop 1)).all id = true ↔ Up as
  | [] => ⟨fun _ => .nil, fun _ => rfl⟩
  | [a] => ⟨fun _ => List.pairwise_singleton _ _, fun _ => rfl⟩
  | a :: b :: as => by
    have ih := zip_iff (as := b :: as)
    rw [show (List.zipWith lt (a :: b :: as) ((a :: b :: as).drop 1)).all id = (lt a b && (List.zipWith lt (b :: as) ((b :: as).drop 1)).all id) from rfl, Bool.and_eq_true, ih]
    constructor
    · rintro ⟨h1, h2⟩
      refine List.pairwise_cons.mpr ⟨fun c hc => ?_, h2⟩
      rcases List.mem_cons.mp hc with rfl | hc
      · exact h1
      · exact tran _ _ _ h1 ((List.pairwise_cons.mp h2).1 c hc)
    · intro h
      obtain ⟨h1, h2⟩ := List.pairwise_cons.mp h
      exact ⟨h1 b List.mem_cons_self, h2⟩
/-- a list is that of its points, ascending, exactly if it ascends -/
theorem eq_srt {as bs : List α} (u : Up bs) (m : ∀ x, x ∈ bs ↔ x ∈ as) : as = bs ↔ (List.zipWith lt as (as.drop 1)).all id = true := by
  rw [zip_iff]
  exact ⟨fun e => e ▸ u, fun h => up_ext h u fun x => (m x).symm⟩
end
end Gx

set_option maxHeartbeats 4000000
/-! the laws of spacers: _law_free_in, _law_hits -/
namespace Gk
open PySem L2 Gx
open C8 (Cal Met Mak pe_c pe_mt pe_mt0 pe_mk pe_gc)
local macro_rules | `(tactic| walk_at "g") => `(tactic| (first
  | with_reducible refine g_seq ?_ | with_reducible refine g_asg ?_ | ((with_reducible show tVar _ _ _ _); refine g_var rfl ?_) | with_reducible refine g_c ?_ | with_reducible refine g_name ?_ | with_reducible refine g_op ?_ | with_reducible refine g_I0 ?_
  | with_reducible refine g_cons ?_ | with_reducible refine g_nil ?_ | with_reducible refine g_exbl ?_ | with_reducible refine g_exint ?_ | with_reducible refine g_test ?_ | with_reducible refine g_B ?_ | with_reducible refine g_ifS ?_ | with_reducible refine g_ret ?_ | with_reducible refine g_retN ?_ | with_reducible refine g_next ?_
  | with_reducible refine g_CB ?_ | with_reducible refine g_sub ?_ | with_reducible refine g_drop ?_ | with_reducible refine g_not ?_ | with_reducible refine g_and ?_ | with_reducible refine g_or ?_ | with_reducible refine g_andV ?_ | with_reducible refine g_orV ?_ | with_reducible refine g_notV ?_ | with_reducible refine g_ifE ?_ | with_reducible refine g_isN ?_
  | with_reducible refine g_par ?_ | with_reducible refine g_expar ?_ | with_reducible refine g_chain ?_ | with_reducible refine g_un ?_ | with_reducible refine g_U ?_ | with_reducible refine g_bits ?_ | ((with_reducible show rEq _ _ _ _); refine g_eq rfl ?_) | ((with_reducible show rNe _ _ _ _); refine g_ne rfl ?_)
  | with_reducible refine g_for ?_ | with_reducible refine g_iRng1 ?_ | with_reducible refine g_iRng2 ?_ | with_reducible refine g_iList ?_ | with_reducible refine g_iTup ?_
  | ((with_reducible refine g_Imul ?hc ?_); (case hc => (first | (refine Or.inl ⟨?_, ?_⟩ <;> first | decide | omega) | (refine Or.inr ⟨?_, ?_⟩ <;> first | decide | omega))))
  | ((with_reducible refine g_Idiv ?hc ?_); (case hc => (first | (exact ⟨by decide, by decide⟩) | assumption)))
  | ((with_reducible refine g_Imod ?hc ?_); (case hc => (first | assumption | omega | decide)))
  | ((with_reducible refine g_exR1 ?hlo ?hhi ?_); (case hlo => omega); (case hhi => omega))
  | ((with_reducible refine g_exR2 ?hb ?_); (case hb => omega))
  | with_reducible refine g_lst ?_ | with_reducible refine g_tup ?_ | with_reducible refine g_call ?_ | with_reducible refine g_BM ?_ | with_reducible refine g_BM0 ?_
  | with_reducible refine g_intB ?_ | with_reducible refine g_lc ?_ | with_reducible refine g_yes ?_ | with_reducible refine g_iZip ?_ | with_reducible refine g_sl ?_ | with_reducible refine g_noP ?_ | with_reducible refine g_part ?_ | with_reducible refine g_gcons ?_ | with_reducible refine g_gnil ?_
  | with_reducible refine g_tfld ?_ | with_reducible refine g_tmeth ?_ | with_reducible refine g_tmake ?_ | with_reducible refine g_sfld ?_ | with_reducible refine g_tprop ?_ | with_reducible refine g_tstar ?_ | with_reducible refine g_tmethK ?_ | with_reducible refine g_isN1 ?_ | with_reducible refine g_notN1 ?_ | with_reducible refine g_callK0 ?_ | with_reducible refine g_m1 ?_ | with_reducible refine g_isstr ?_ | with_reducible refine g_iStr ?_ | with_reducible refine g_exS ?_ | with_reducible refine g_iEnum ?_))
local macro_rules | `(tactic| walk_at "gs1") => `(tactic| (first
  | with_reducible refine g_seq ?_ | with_reducible refine g_asg ?_ | ((with_reducible show tVar _ _ _ _); refine g_var rfl ?_) | with_reducible refine g_c ?_ | with_reducible refine g_name ?_ | with_reducible refine g_op ?_ | with_reducible refine g_I0 ?_
  | with_reducible refine g_cons ?_ | with_reducible refine g_nil ?_ | with_reducible refine g_exbl ?_ | with_reducible refine g_exint ?_ | with_reducible refine g_test ?_ | with_reducible refine g_B ?_ | with_reducible refine g_ifS ?_ | with_reducible refine g_retN ?_ | with_reducible refine g_next ?_
  | with_reducible refine g_CB ?_ | with_reducible refine g_sub ?_ | with_reducible refine g_drop ?_ | with_reducible refine g_not ?_ | with_reducible refine g_and ?_ | with_reducible refine g_or ?_ | with_reducible refine g_andV ?_ | with_reducible refine g_orV ?_ | with_reducible refine g_notV ?_ | with_reducible refine g_ifE ?_ | with_reducible refine g_isN ?_
  | with_reducible refine g_par ?_ | with_reducible refine g_expar ?_ | with_reducible refine g_chain ?_ | with_reducible refine g_un ?_ | with_reducible refine g_U ?_ | with_reducible refine g_bits ?_ | ((with_reducible show rEq _ _ _ _); refine g_eq rfl ?_) | ((with_reducible show rNe _ _ _ _); refine g_ne rfl ?_)
  | with_reducible refine g_for ?_ | with_reducible refine g_iRng1 ?_ | with_reducible refine g_iRng2 ?_ | with_reducible refine g_iList ?_ | with_reducible refine g_iTup ?_
  | ((with_reducible refine g_Imul ?hc ?_); (case hc => (first | (refine Or.inl ⟨?_, ?_⟩ <;> first | decide | omega) | (refine Or.inr ⟨?_, ?_⟩ <;> first | decide | omega))))
  | ((with_reducible refine g_Idiv ?hc ?_); (case hc => (first | (exact ⟨by decide, by decide⟩) | assumption)))
  | ((with_reducible refine g_Imod ?hc ?_); (case hc => (first | assumption | omega | decide)))
  | ((with_reducible refine g_exR1 ?hlo ?hhi ?_); (case hlo => omega); (case hhi => omega))
  | ((with_reducible refine g_exR2 ?hb ?_); (case hb => omega))
  | with_reducible refine g_lst ?_ | with_reducible refine g_tup ?_ | with_reducible refine g_call ?_ | with_reducible refine g_BM ?_ | with_reducible refine g_BM0 ?_
  | with_reducible refine g_intB ?_ | with_reducible refine g_lc ?_ | with_reducible refine g_yes ?_ | with_reducible refine g_iZip ?_ | with_reducible refine g_sl ?_ | with_reducible refine g_noP ?_ | with_reducible refine g_part ?_ | with_reducible refine g_gcons ?_ | with_reducible refine g_gnil ?_
  | with_reducible refine g_tfld ?_ | with_reducible refine g_tmeth ?_ | with_reducible refine g_tmake ?_ | with_reducible refine g_sfld ?_ | with_reducible refine g_tprop ?_ | with_reducible refine g_tstar ?_ | with_reducible refine g_tmethK ?_ | with_reducible refine g_isN1 ?_ | with_reducible refine g_notN1 ?_ | with_reducible refine g_callK0 ?_ | with_reducible refine g_m1 ?_ | with_reducible refine g_isstr ?_ | with_reducible refine g_iStr ?_ | with_reducible refine g_exS ?_ | with_reducible refine g_iEnum ?_))
local macro_rules | `(tactic| walk_at "gx1") => `(tactic| (first
  | with_reducible refine g_seq ?_ | with_reducible refine g_asg ?_ | ((with_reducible show tVar _ _ _ _); refine g_var rfl ?_) | with_reducible refine g_c ?_ | with_reducible refine g_name ?_ | with_reducible refine g_op ?_ | with_reducible refine g_I0 ?_
  | with_reducible refine g_cons ?_ | with_reducible refine g_nil ?_ | with_reducible refine g_exbl ?_ | with_reducible refine g_exint ?_ | with_reducible refine g_test ?_ | with_reducible refine g_B ?_ | with_reducible refine g_ifS ?_ | with_reducible refine g_retN ?_ | with_reducible refine g_next ?_
  | with_reducible refine g_CB ?_ | with_reducible refine g_sub ?_ | with_reducible refine g_drop ?_ | with_reducible refine g_not ?_ | with_reducible refine g_and ?_ | with_reducible refine g_or ?_ | with_reducible refine g_andV ?_ | with_reducible refine g_orV ?_ | with_reducible refine g_notV ?_ | with_reducible refine g_ret ?_ | with_reducible refine g_isN ?_
  | with_reducible refine g_par ?_ | with_reducible refine g_expar ?_ | with_reducible refine g_chain ?_ | with_reducible refine g_un ?_ | with_reducible refine g_U ?_ | with_reducible refine g_bits ?_ | ((with_reducible show rEq _ _ _ _); refine g_eq rfl ?_) | ((with_reducible show rNe _ _ _ _); refine g_ne rfl ?_)
  | with_reducible refine g_for ?_ | with_reducible refine g_iRng1 ?_ | with_reducible refine g_iRng2 ?_ | with_reducible refine g_iList ?_ | with_reducible refine g_iTup ?_
  | ((with_reducible refine g_Imul ?hc ?_); (case hc => (first | (refine Or.inl ⟨?_, ?_⟩ <;> first | decide | omega) | (refine Or.inr ⟨?_, ?_⟩ <;> first | decide | omega))))
  | ((with_reducible refine g_Idiv ?hc ?_); (case hc => (first | (exact ⟨by decide, by decide⟩) | assumption)))
  | ((with_reducible refine g_Imod ?hc ?_); (case hc => (first | assumption | omega | decide)))
  | ((with_reducible refine g_exR1 ?hlo ?hhi ?_); (case hlo => omega); (case hhi => omega))
  | ((with_reducible refine g_exR2 ?hb ?_); (case hb => omega))
  | with_reducible refine g_lst ?_ | with_reducible refine g_tup ?_ | with_reducible refine g_call ?_ | with_reducible refine g_BM ?_ | with_reducible refine g_BM0 ?_
  | with_reducible refine g_intB ?_ | with_reducible refine g_lc ?_ | with_reducible refine g_yes ?_ | with_reducible refine g_iZip ?_ | with_reducible refine g_sl ?_ | with_reducible refine g_noP ?_ | with_reducible refine g_part ?_ | with_reducible refine g_gcons ?_ | with_reducible refine g_gnil ?_
  | with_reducible refine g_tfld ?_ | with_reducible refine g_tmeth ?_ | with_reducible refine g_tmake ?_ | with_reducible refine g_sfld ?_ | with_reducible refine g_tprop ?_ | with_reducible refine g_tstar ?_ | with_reducible refine g_tmethK ?_ | with_reducible refine g_isN1 ?_ | with_reducible refine g_notN1 ?_ | with_reducible refine g_callK0 ?_ | with_reducible refine g_m1 ?_ | with_reducible refine g_isstr ?_ | with_reducible refine g_iStr ?_ | with_reducible refine g_exS ?_ | with_reducible refine g_iEnum ?_))
local macro_rules | `(tactic| walk_at "hp") => `(tactic| (first | assumption | exact upd_same | (refine same_get (by assumption) ?_; walk_at "hp")))
local macro_rules | `(tactic| walk_at "sm") => `(tactic| (first | assumption | exact Same.refl _ | (refine Same.trans ?ha (by assumption); walk_at "sm")))
local macro_rules | `(tactic| walk_at "nn") => `(tactic| (first | assumption | (refine same_free (by assumption) ?_; walk_at "nn")))
local macro_rules | `(tactic| walk_at "sb") => `(tactic| (first | decide | (refine small_bits ?_ ?_ <;> omega)))
local macro_rules | `(tactic| walk_at "ln") => `(tactic| (simp only [List.length_cons, List.length_nil]; omega))
local macro_rules | `(tactic| walk_at "gg") => `(tactic| (repeat walk_at "g"))
local macro_rules | `(tactic| walk_at "gs") => `(tactic| (repeat walk_at "gs1"))
local macro_rules | `(tactic| walk_at "gx") => `(tactic| (repeat walk_at "gx1"))

/-- has the interval a number that is not put? -/
def freeI (ps : List Int) (a b : Int) : Bool := decide (((dd (ps.filter fun x => decide (a ≤ x ∧ x ≤ b))).length : Int) < b - a + 1)
def spFree (K : PySem.W.Frag) : Sp := fun vs H Q _ => ∃ (t c : Addr) (a b : Int) (ps : List Int), vs = [.ref t, .ref c] ∧ SqT K H t [.int a, .int b] ∧ H c = some (.lst (ps.map V.int)) ∧ ps.length ≤ 1000 ∧ ∀ H', Same H H' → Q (.bl (freeI ps a b)) H'
section
variable {P : Program} {w : World} {K : PySem.W.Frag} {mg : Str → Option Value} {base : Heap} {X : Cx} {H : Hp}
abbrev s_free_in : Stmt := top 28
abbrev N_free_in : List Str := ["_law_wish_here", "_law_some_puts", "_law_first", "_law_last", "_law_some", "_law_x"]
theorem sc_free_in : FnScope N_free_in ["_law_wish_here", "_law_some_puts"] (defScope s_free_in) := ⟨rfl, rfl, rfl, by decide +kernel, rfl, by decide +kernel, by decide +kernel⟩

theorem ok_free {f : Addr} {fd : FuncData} (D : Dn K mg "_law_free_in" s_free_in ["_law_wish_here", "_law_some_puts"] f fd) (T : Bt mg) : Cal P w K mg base 1 "_law_free_in" (spFree K) [] := by
  refine cal_of D (D.fn.ok sc_free_in (fun vs H Q E h => ?_) (fun cdv A outer s H vs Q E hr h => ?_))
  · obtain ⟨t, c, a, b, ps, rfl, _⟩ := h
    rfl
  · obtain ⟨t, c, a, b, ps, rfl, ht, hc, lp, k⟩ := h
    refine ⟨_, (pss_cons (ps_asg (pv 0) (pg_tup (by rfl) (pgs_cons (pg_name (i := 2) sc_free_in.nd rfl (Or.inr rfl)) (pgs_cons (pg_name (i := 3) sc_free_in.nd rfl (Or.inr rfl)) pgs_nil))))
    (pss_cons (ps_setLc (i := 4) (own := [("_law_x", 5)]) (g := gName 5) rfl sc_free_in.nd rfl rfl (sw_true rfl rfl rfl (by decide +kernel)) (pi_list (pv 1)) (blkOk_by (own := [("_law_x", 5)]) (N := N_free_in) (sc := defScope s_free_in) (by decide +kernel)) (fun _ _ _ _ _ => pg_name (i := 5) sc_free_in.nd rfl (Or.inl rfl)) (fun _ _ _ _ _ => (pts_one (pt_chain op_le op_le (pv 2) (pv 5) (pv 3)))) (fun _ _ _ _ _ => (pv 5)))
    (pss_one (ps_ret (pe_cmpR op_gt (pe_op op_add (pe_op op_sub (pv 3) (pv 2)) pe_int) (pe_callB cr_lenSet (by rfl) T.n_len bt_len (pa_cons (pe_callTy (cr_setAny rfl hr) (by rfl) T.n_set bt_set (pa_cons (pv 4) pa_nil)) pa_nil)) (nomark _)))))), ?_⟩
    walk_at "gg"
    refine g_gtup ht rfl ?_
    walk_at "gg"
    refine g_exL (SqL.of hc) ?_
    refine lc_filtI (SqL.of hc) (by omega) (fun x => decide (a ≤ x ∧ x ≤ b)) (fun m H' Nx No hm S ky kn => ?_) fun D1 H1 n1 S1 e1 => ?_
    · walk_at "gg"
      refine ⟨rfl, ?_⟩
      walk_at "gg"
      by_cases c1 : a ≤ m
      · refine g_ifT (decide_eq_true c1) ?_
        walk_at "gg"
        by_cases c2 : m ≤ b
        · refine g_ifT (decide_eq_true c2) ?_
          walk_at "gg"
          exact ky _ (Same.refl _) (decide_eq_true ⟨c1, c2⟩)
        · refine g_ifF (decide_eq_false c2) ?_
          exact kn _ (Same.refl _) (decide_eq_false fun z => c2 z.2)
      · refine g_ifF (decide_eq_false c1) ?_
        exact ⟨_, rfl, g_ifF rfl (kn _ (Same.refl _) (decide_eq_false fun z => c1 z.1))⟩
    have lf := List.length_filter_le (fun x => decide (a ≤ x ∧ x ≤ b)) ps
    walk_at "gg"
    refine Sk.mkS (α := Int) (ptsI e1) (by omega) fun q H2 n2 S2 e2 => ?_
    walk_at "gg"
    refine g_lenSet e2 ?_
    walk_at "gg"
    exact k _ (S1.trans S2)
/-- do the numbers end all of the wished rows? -/
def hitsL (rows : List Wr) (ps ns : List Int) : Bool := (List.zipWith (Kd.lt (α := Int)) ns (ns.drop 1)).all id && (!(ns.any fun n => decide (n ∈ ps)) && rows.all fun r => ns.any fun n => decide (r.q.1 ≤ n ∧ n ≤ r.q.2))
def Wl := Wr
instance : DecidableEq Wl := inferInstanceAs (DecidableEq Wr)
def wlD' (r : Wl) : PyData := .tuple [.tuple [.int r.i, .int r.j], Gx.prD r.q]
instance daWl : Da Wl where
  dec := inferInstance
  D := wlD'
  inj a b h := by
    cases a
    cases b
    unfold wlD' Gx.prD at h
    simp only [PyData.tuple.injEq, List.cons.injEq, PyData.int.injEq] at h
    obtain ⟨⟨h1, h2, _⟩, ⟨h3, h4, _⟩, _⟩ := h
    cases h1
    cases h2
    exact congrArg (Wr.mk _ _) (Prod.ext h3 h4)
  bar a := by simp [wlD', Gx.prD, bare, bareAll]
  lay a := by simp [wlD', Gx.prD, PyData.canLay0, PyData.canLayAll0]
  dep a := by simp [wlD', Gx.prD, PyData.depth, PyData.depthAll]
  nol a := by simp [wlD', Gx.prD, noLst, noLstAll]
theorem wl_at {K : PySem.W.Frag} {H : Hp} {x : V} {r : Wl} (h : Dp K H x (wlD' r)) : ∃ t t1 t2, x = .ref t ∧ SqT K H t [.ref t1, .ref t2] ∧ SqT K H t1 [.int r.i, .int r.j] ∧ SqT K H t2 [.int r.q.1, .int r.q.2] := by
  unfold wlD' at h
  cases h with
  | tup e hd =>
    cases hd with
    | cons h1 hd =>
      cases hd with
      | cons h2 hd =>
        cases hd
        obtain ⟨t1, rfl, e1⟩ := pr_at (p := (r.i, r.j)) h1
        obtain ⟨t2, rfl, e2⟩ := pr_at h2
        exact ⟨_, t1, t2, rfl, e, e1, e2⟩
def spHits (K : PySem.W.Frag) : Sp := fun vs H Q _ => ∃ (t l c : Addr) (ns : List Int) (rows : List Wl) (ps : List Int), vs = [.ref t, .ref l, .ref c] ∧ H t = some (.lst (ns.map V.int)) ∧ DtL K H l rows ∧ H c = some (.lst (ps.map V.int)) ∧ ns.length ≤ 1000 ∧ ∀ H', Same H H' → Q (.bl (hitsL rows ps ns)) H'
abbrev s_hits : Stmt := top 29
abbrev N_hits : List Str := ["_law_told_here", "_law_wishes_here", "_law_some_puts", "_law_pair", "_law_wish_here", "_law_x"]
theorem sc_hits : FnScope N_hits ["_law_told_here", "_law_wishes_here", "_law_some_puts"] (defScope s_hits) := ⟨rfl, rfl, rfl, by decide +kernel, rfl, by decide +kernel, by decide +kernel⟩

theorem ok_hits {f : Addr} {fd : FuncData} (D : Dn K mg "_law_hits" s_hits ["_law_told_here", "_law_wishes_here", "_law_some_puts"] f fd) (T : Bt mg) : Cal P w K mg base 1 "_law_hits" (spHits K) [] := by
  refine cal_of D (D.fn.ok sc_hits (fun vs H Q E h => ?_) (fun cdv A outer s H vs Q E hr h => ?_))
  · obtain ⟨t, l, c, ns, rows, ps, rfl, _⟩ := h
    rfl
  · obtain ⟨t, l, c, ns, rows, ps, rfl, ht, hl, hc, ln, k⟩ := h
    refine ⟨_, (pss_cons (ps_if (PW.pt (pw_or (pt_cmpR (op_neD hr.units) (pv 0) (pe_callB (cr_sortAny rfl) (by rfl) T.n_sorted bt_sorted (pa_cons (pe_callTy (cr_setAny rfl hr) (by rfl) T.n_set bt_set (pa_cons (pv 0) pa_nil)) pa_nil)) (nomark _)) (pw_or1 (pt_cmpR (op_neD hr.units) (pe_lc (own := [("_law_x", 5)]) (g := gName 5) rfl sc_hits.nd (pi_list (pv 0)) (blkOk_by (own := [("_law_x", 5)]) (N := N_hits) (sc := defScope s_hits) (by decide +kernel)) (fun _ _ _ _ _ => pg_name (i := 5) sc_hits.nd rfl (Or.inl rfl)) (fun _ _ _ _ _ => (pts_one (pt_cmpR (show OpR _ (compareOp .In) (rIn K false) from op_in_seq) (pv 5) (pv 2) (by rfl)))) (fun _ _ _ _ _ => (pv 5))) (pe_lst pa_nil) (nomark _))))) (pss_one (ps_ret pe_bl)) pss_nil)
    (pss_cons (ps_for PassesOwn.never rfl (pi_list (pv 1)) (pg_tup (by rfl) (pgs_cons (pg_name (i := 3) sc_hits.nd rfl (Or.inl rfl)) (pgs_cons (pg_name (i := 4) sc_hits.nd rfl (Or.inr rfl)) pgs_nil))) (pss_one (ps_if (pt_cmpR (op_eqD hr.units) (pe_lc (own := [("_law_x", 5)]) (g := gName 5) rfl sc_hits.nd (pi_list (pv 0)) (blkOk_by (own := [("_law_x", 5)]) (N := N_hits) (sc := defScope s_hits) (by decide +kernel)) (fun _ _ _ _ _ => pg_name (i := 5) sc_hits.nd rfl (Or.inl rfl)) (fun _ _ _ _ _ => (pts_one (pt_chain op_le op_le (pe_ix (show IxR _ (rIxT K) from ix_tup) (pv 4) pe_int (fun _ _ => rfl)) (pv 5) (pe_ix (show IxR _ (rIxT K) from ix_tup) (pv 4) pe_int (fun _ _ => rfl))))) (fun _ _ _ _ _ => (pv 5))) (pe_lst pa_nil) (nomark _)) (pss_one (ps_ret pe_bl)) pss_nil)))
    (pss_one (ps_ret pe_bl)))), ?_⟩
    walk_at "gg"
    have pt : PtsL K H t ns := ptsI ht
    refine Sk.mkS (α := Int) pt (by omega) fun q H1 n1 S1 e1 => ?_
    refine Sk.srt (α := Int) e1 fun bs p H2 ub mb lb n2 S2 e2 => ?_
    walk_at "gg"
    have S02 := S1.trans S2
    refine g_neL (β := Int) (pt.same S02) e2 ?_
    have es := eq_srt ub mb
    refine ⟨_, rfl, ?_⟩
    have kr : ∀ b : Bool, hitsL rows ps ns = b → ∀ H', Same H H' → Q (.bl b) H' := fun b e => by
      rw [← e]
      exact k
    unfold hitsL at kr
    by_cases b1 : ns = bs
    rotate_left
    · refine g_ifT (by rw [decide_eq_false b1]; rfl) ?_
      refine g_ifT rfl ?_
      walk_at "gg"
      have z : (List.zipWith (Kd.lt (α := Int)) ns (ns.drop 1)).all id = false := by
        cases c : (List.zipWith (Kd.lt (α := Int)) ns (ns.drop 1)).all id with
        | false => rfl
        | true => exact absurd (es.mpr c) b1
      exact kr false (by rw [z]; rfl) _ S02
    refine g_ifF (by rw [decide_eq_true b1]; rfl) ?_
    rw [es.mp b1] at kr
    walk_at "gg"
    refine g_exL (SqL.of (S02 _ _ ht)) ?_
    refine lc_filtI (SqL.of (S02 _ _ ht)) (by omega) (fun x => decide (x ∈ ps)) (fun m H' Nx No hm S ky kn => ?_) fun D1 H3 n3 S3 e3 => ?_
    · walk_at "gg"
      refine ⟨rfl, ?_⟩
      walk_at "gg"
      refine g_inI (SqL.of ((S02.trans S) _ _ hc)) ?_
      walk_at "gg"
      by_cases c : m ∈ ps
      · refine g_ifT (decide_eq_true c) ?_
        walk_at "gg"
        exact ky _ (Same.refl _) (decide_eq_true c)
      · refine g_ifF (decide_eq_false c) ?_
        exact kn _ (Same.refl _) (decide_eq_false c)
    walk_at "gg"
    refine g_mkL (by walk_at "ln") fun p4 H4 n4 S4 e4 => ?_
    walk_at "gg"
    refine g_neL (β := Int) (bs := []) (ptsI (S4 _ _ e3)) ⟨[], e4, .nil⟩ ?_
    refine ⟨_, rfl, ?_⟩
    have S04 := (S02.trans S3).trans S4
    by_cases b2 : ns.filter (fun x => decide (x ∈ ps)) = []
    rotate_left
    · refine g_ifT (by rw [decide_eq_false b2]; rfl) ?_
      walk_at "gg"
      have z : (ns.any fun n => decide (n ∈ ps)) = true := by
        cases c : ns.any fun n => decide (n ∈ ps) with
        | true => rfl
        | false =>
          exact absurd (List.filter_eq_nil_iff.mpr fun a ha => List.any_eq_false.mp c a ha) b2
      exact kr false (by rw [z]; rfl) _ S04
    refine g_ifF (by rw [decide_eq_true b2]; rfl) ?_
    have z2 : (ns.any fun n => decide (n ∈ ps)) = false := List.any_eq_false.mpr fun a ha => List.filter_eq_nil_iff.mp b2 a ha
    rw [z2] at kr
    walk_at "gg"
    obtain ⟨ls, le, ld⟩ := hl
    refine g_exL (SqL.of (S04 _ _ le)) ?_
    refine fw_dts (DtL.same ⟨ls, le, ld⟩ S04) (fun i σ H' => ∃ v3 v4 v5, σ = [some (.ref t), some (.ref l), some (.ref c), v3, v4, v5] ∧ Same H4 H' ∧ ((rows.take i).all fun r => ns.any fun n => decide (r.q.1 ≤ n ∧ n ≤ r.q.2)) = true) (fun i σ H' ⟨_, _, _, _, S, _⟩ => S) ⟨_, _, _, rfl, Same.refl _, rfl⟩ ?_ ?_
    · rintro i x r σ H5 hr ⟨v3, v4, v5, rfl, S5, all5⟩ dx
      obtain ⟨t0, t1, t2, rfl, h0, h1, h2⟩ := wl_at dx
      have S05 := S04.trans S5
      refine g_gtup h0 rfl ?_
      walk_at "gg"
      refine g_exL (SqL.of (S05 _ _ ht)) ?_
      refine lc_filtI (SqL.of (S05 _ _ ht)) (by omega) (fun x => decide (r.q.1 ≤ x ∧ x ≤ r.q.2)) (fun m H' Nx No hm S ky kn => ?_) fun D1 H6 n6 S6 e6 => ?_
      · walk_at "gg"
        refine ⟨rfl, ?_⟩
        walk_at "gg"
        refine g_ix2 (same_sqT S h2) rfl ?_
        walk_at "gg"
        by_cases c1 : r.q.1 ≤ m
        · refine g_ifT (decide_eq_true c1) ?_
          walk_at "gg"
          refine g_ix2 (same_sqT S h2) rfl ?_
          walk_at "gg"
          by_cases c2 : m ≤ r.q.2
          · refine g_ifT (decide_eq_true c2) ?_
            walk_at "gg"
            exact ky _ (Same.refl _) (decide_eq_true ⟨c1, c2⟩)
          · refine g_ifF (decide_eq_false c2) ?_
            exact kn _ (Same.refl _) (decide_eq_false fun z => c2 z.2)
        · refine g_ifF (decide_eq_false c1) ?_
          exact ⟨_, rfl, g_ifF rfl (kn _ (Same.refl _) (decide_eq_false fun z => c1 z.1))⟩
      walk_at "gg"
      refine g_mkL (by walk_at "ln") fun p7 H7 n7 S7 e7 => ?_
      walk_at "gg"
      refine g_eqL (β := Int) (bs := []) (ptsI (S7 _ _ e6)) ⟨[], e7, .nil⟩ ?_
      refine ⟨_, rfl, ?_⟩
      have S47 := (S5.trans S6).trans S7
      by_cases b3 : ns.filter (fun x => decide (r.q.1 ≤ x ∧ x ≤ r.q.2)) = []
      · refine g_ifT (by rw [decide_eq_true b3]) ?_
        walk_at "gg"
        have z : (rows.all fun r => ns.any fun n => decide (r.q.1 ≤ n ∧ n ≤ r.q.2)) = false := by
          refine List.all_eq_false.mpr ⟨r, List.mem_of_getElem? hr, ?_⟩
          have w0 : (ns.any fun n => decide (r.q.1 ≤ n ∧ n ≤ r.q.2)) = false := List.any_eq_false.mpr fun a ha => List.filter_eq_nil_iff.mp b3 a ha
          rw [w0]
          decide
        exact kr false z _ (S04.trans S47)
      · refine g_ifF (by rw [decide_eq_false b3]) ?_
        walk_at "gg"
        refine ⟨_, _, _, rfl, S47, ?_⟩
        have tk : rows.take (i + 1) = rows.take i ++ [r] := by
          rw [List.take_succ, hr]
          rfl
        rw [tk, List.all_append, all5, List.all_cons, List.all_nil, Bool.and_true, Bool.true_and]
        cases w0 : ns.any fun n => decide (r.q.1 ≤ n ∧ n ≤ r.q.2) with
        | true => rfl
        | false => exact absurd (List.filter_eq_nil_iff.mpr fun a ha => List.any_eq_false.mp w0 a ha) b3
    · rintro σ H5 ⟨v3, v4, v5, rfl, S5, all5⟩
      rw [List.take_length] at all5
      walk_at "gg"
      exact kr true all5 _ (S04.trans S5)
end
end Gk

/-! the laws of spacers: _law_apart -/
namespace Gk
open PySem L2 Gx
open C8 (Cal Met Mak pe_c pe_mt pe_mt0 pe_mk pe_gc)
local macro_rules | `(tactic| walk_at "g") => `(tactic| (first
  | with_reducible refine g_seq ?_ | with_reducible refine g_asg ?_ | ((with_reducible show tVar _ _ _ _); refine g_var rfl ?_) | with_reducible refine g_c ?_ | with_reducible refine g_name ?_ | with_reducible refine g_op ?_ | with_reducible refine g_I0 ?_
  | with_reducible refine g_cons ?_ | with_reducible refine g_nil ?_ | with_reducible refine g_exbl ?_ | with_reducible refine g_exint ?_ | with_reducible refine g_test ?_ | with_reducible refine g_B ?_ | with_reducible refine g_ifS ?_ | with_reducible refine g_ret ?_ | with_reducible refine g_retN ?_ | with_reducible refine g_next ?_
  | with_reducible refine g_CB ?_ | with_reducible refine g_sub ?_ | with_reducible refine g_drop ?_ | with_reducible refine g_not ?_ | with_reducible refine g_and ?_ | with_reducible refine g_or ?_ | with_reducible refine g_andV ?_ | with_reducible refine g_orV ?_ | with_reducible refine g_notV ?_ | with_reducible refine g_ifE ?_ | with_reducible refine g_isN ?_
  | with_reducible refine g_par ?_ | with_reducible refine g_expar ?_ | with_reducible refine g_chain ?_ | with_reducible refine g_un ?_ | with_reducible refine g_U ?_ | with_reducible refine g_bits ?_ | ((with_reducible show rEq _ _ _ _); refine g_eq rfl ?_) | ((with_reducible show rNe _ _ _ _); refine g_ne rfl ?_)
  | with_reducible refine g_for ?_ | with_reducible refine g_iRng1 ?_ | with_reducible refine g_iRng2 ?_ | with_reducible refine g_iList ?_ | with_reducible refine g_iTup ?_
  | ((with_reducible refine g_Imul ?hc ?_); (case hc => (first | (refine Or.inl ⟨?_, ?_⟩ <;> first | decide | omega) | (refine Or.inr ⟨?_, ?_⟩ <;> first | decide | omega))))
  | ((with_reducible refine g_Idiv ?hc ?_); (case hc => (first | (exact ⟨by decide, by decide⟩) | assumption)))
  | ((with_reducible refine g_Imod ?hc ?_); (case hc => (first | assumption | omega | decide)))
  | ((with_reducible refine g_exR1 ?hlo ?hhi ?_); (case hlo => omega); (case hhi => omega))
  | ((with_reducible refine g_exR2 ?hb ?_); (case hb => omega))
  | with_reducible refine g_lst ?_ | with_reducible refine g_tup ?_ | with_reducible refine g_call ?_ | with_reducible refine g_BM ?_ | with_reducible refine g_BM0 ?_
  | with_reducible refine g_intB ?_ | with_reducible refine g_lc ?_ | with_reducible refine g_yes ?_ | with_reducible refine g_iZip ?_ | with_reducible refine g_sl ?_ | with_reducible refine g_noP ?_ | with_reducible refine g_part ?_ | with_reducible refine g_gcons ?_ | with_reducible refine g_gnil ?_
  | with_reducible refine g_tfld ?_ | with_reducible refine g_tmeth ?_ | with_reducible refine g_tmake ?_ | with_reducible refine g_sfld ?_ | with_reducible refine g_tprop ?_ | with_reducible refine g_tstar ?_ | with_reducible refine g_tmethK ?_ | with_reducible refine g_isN1 ?_ | with_reducible refine g_notN1 ?_ | with_reducible refine g_callK0 ?_ | with_reducible refine g_m1 ?_ | with_reducible refine g_isstr ?_ | with_reducible refine g_iStr ?_ | with_reducible refine g_exS ?_ | with_reducible refine g_iEnum ?_))
local macro_rules | `(tactic| walk_at "gs1") => `(tactic| (first
  | with_reducible refine g_seq ?_ | with_reducible refine g_asg ?_ | ((with_reducible show tVar _ _ _ _); refine g_var rfl ?_) | with_reducible refine g_c ?_ | with_reducible refine g_name ?_ | with_reducible refine g_op ?_ | with_reducible refine g_I0 ?_
  | with_reducible refine g_cons ?_ | with_reducible refine g_nil ?_ | with_reducible refine g_exbl ?_ | with_reducible refine g_exint ?_ | with_reducible refine g_test ?_ | with_reducible refine g_B ?_ | with_reducible refine g_ifS ?_ | with_reducible refine g_retN ?_ | with_reducible refine g_next ?_
  | with_reducible refine g_CB ?_ | with_reducible refine g_sub ?_ | with_reducible refine g_drop ?_ | with_reducible refine g_not ?_ | with_reducible refine g_and ?_ | with_reducible refine g_or ?_ | with_reducible refine g_andV ?_ | with_reducible refine g_orV ?_ | with_reducible refine g_notV ?_ | with_reducible refine g_ifE ?_ | with_reducible refine g_isN ?_
  | with_reducible refine g_par ?_ | with_reducible refine g_expar ?_ | with_reducible refine g_chain ?_ | with_reducible refine g_un ?_ | with_reducible refine g_U ?_ | with_reducible refine g_bits ?_ | ((with_reducible show rEq _ _ _ _); refine g_eq rfl ?_) | ((with_reducible show rNe _ _ _ _); refine g_ne rfl ?_)
  | with_reducible refine g_for ?_ | with_reducible refine g_iRng1 ?_ | with_reducible refine g_iRng2 ?_ | with_reducible refine g_iList ?_ | with_reducible refine g_iTup ?_
  | ((with_reducible refine g_Imul ?hc ?_); (case hc => (first | (refine Or.inl ⟨?_, ?_⟩ <;> first | decide | omega) | (refine Or.inr ⟨?_, ?_⟩ <;> first | decide | omega))))
  | ((with_reducible refine g_Idiv ?hc ?_); (case hc => (first | (exact ⟨by decide, by decide⟩) | assumption)))
  | ((with_reducible refine g_Imod ?hc ?_); (case hc => (first | assumption | omega | decide)))
  | ((with_reducible refine g_exR1 ?hlo ?hhi ?_); (case hlo => omega); (case hhi => omega))
  | ((with_reducible refine g_exR2 ?hb ?_); (case hb => omega))
  | with_reducible refine g_lst ?_ | with_reducible refine g_tup ?_ | with_reducible refine g_call ?_ | with_reducible refine g_BM ?_ | with_reducible refine g_BM0 ?_
  | with_reducible refine g_intB ?_ | with_reducible refine g_lc ?_ | with_reducible refine g_yes ?_ | with_reducible refine g_iZip ?_ | with_reducible refine g_sl ?_ | with_reducible refine g_noP ?_ | with_reducible refine g_part ?_ | with_reducible refine g_gcons ?_ | with_reducible refine g_gnil ?_
  | with_reducible refine g_tfld ?_ | with_reducible refine g_tmeth ?_ | with_reducible refine g_tmake ?_ | with_reducible refine g_sfld ?_ | with_reducible refine g_tprop ?_ | with_reducible refine g_tstar ?_ | with_reducible refine g_tmethK ?_ | with_reducible refine g_isN1 ?_ | with_reducible refine g_notN1 ?_ | with_reducible refine g_callK0 ?_ | with_reducible refine g_m1 ?_ | with_reducible refine g_isstr ?_ | with_reducible refine g_iStr ?_ | with_reducible refine g_exS ?_ | with_reducible refine g_iEnum ?_))
local macro_rules | `(tactic| walk_at "gx1") => `(tactic| (first
  | with_reducible refine g_seq ?_ | with_reducible refine g_asg ?_ | ((with_reducible show tVar _ _ _ _); refine g_var rfl ?_) | with_reducible refine g_c ?_ | with_reducible refine g_name ?_ | with_reducible refine g_op ?_ | with_reducible refine g_I0 ?_
  | with_reducible refine g_cons ?_ | with_reducible refine g_nil ?_ | with_reducible refine g_exbl ?_ | with_reducible refine g_exint ?_ | with_reducible refine g_test ?_ | with_reducible refine g_B ?_ | with_reducible refine g_ifS ?_ | with_reducible refine g_retN ?_ | with_reducible refine g_next ?_
  | with_reducible refine g_CB ?_ | with_reducible refine g_sub ?_ | with_reducible refine g_drop ?_ | with_reducible refine g_not ?_ | with_reducible refine g_and ?_ | with_reducible refine g_or ?_ | with_reducible refine g_andV ?_ | with_reducible refine g_orV ?_ | with_reducible refine g_notV ?_ | with_reducible refine g_ret ?_ | with_reducible refine g_isN ?_
  | with_reducible refine g_par ?_ | with_reducible refine g_expar ?_ | with_reducible refine g_chain ?_ | with_reducible refine g_un ?_ | with_reducible refine g_U ?_ | with_reducible refine g_bits ?_ | ((with_reducible show rEq _ _ _ _); refine g_eq rfl ?_) | ((with_reducible show rNe _ _ _ _); refine g_ne rfl ?_)
  | with_reducible refine g_for ?_ | with_reducible refine g_iRng1 ?_ | with_reducible refine g_iRng2 ?_ | with_reducible refine g_iList ?_ | with_reducible refine g_iTup ?_
  | ((with_reducible refine g_Imul ?hc ?_); (case hc => (first | (refine Or.inl ⟨?_, ?_⟩ <;> first | decide | omega) | (refine Or.inr ⟨?_, ?_⟩ <;> first | decide | omega))))
  | ((with_reducible refine g_Idiv ?hc ?_); (case hc => (first | (exact ⟨by decide, by decide⟩) | assumption)))
  | ((with_reducible refine g_Imod ?hc ?_); (case hc => (first | assumption | omega | decide)))
  | ((with_reducible refine g_exR1 ?hlo ?hhi ?_); (case hlo => omega); (case hhi => omega))
  | ((with_reducible refine g_exR2 ?hb ?_); (case hb => omega))
  | with_reducible refine g_lst ?_ | with_reducible refine g_tup ?_ | with_reducible refine g_call ?_ | with_reducible refine g_BM ?_ | with_reducible refine g_BM0 ?_
  | with_reducible refine g_intB ?_ | with_reducible refine g_lc ?_ | with_reducible refine g_yes ?_ | with_reducible refine g_iZip ?_ | with_reducible refine g_sl ?_ | with_reducible refine g_noP ?_ | with_reducible refine g_part ?_ | with_reducible refine g_gcons ?_ | with_reducible refine g_gnil ?_
  | with_reducible refine g_tfld ?_ | with_reducible refine g_tmeth ?_ | with_reducible refine g_tmake ?_ | with_reducible refine g_sfld ?_ | with_reducible refine g_tprop ?_ | with_reducible refine g_tstar ?_ | with_reducible refine g_tmethK ?_ | with_reducible refine g_isN1 ?_ | with_reducible refine g_notN1 ?_ | with_reducible refine g_callK0 ?_ | with_reducible refine g_m1 ?_ | with_reducible refine g_isstr ?_ | with_reducible refine g_iStr ?_ | with_reducible refine g_exS ?_ | with_reducible refine g_iEnum ?_))
local macro_rules | `(tactic| walk_at "hp") => `(tactic| (first | assumption | exact upd_same | (refine same_get (by assumption) ?_; walk_at "hp")))
local macro_rules | `(tactic| walk_at "sm") => `(tactic| (first | assumption | exact Same.refl _ | (refine Same.trans ?ha (by assumption); walk_at "sm")))
local macro_rules | `(tactic| walk_at "nn") => `(tactic| (first | assumption | (refine same_free (by assumption) ?_; walk_at "nn")))
local macro_rules | `(tactic| walk_at "sb") => `(tactic| (first | decide | (refine small_bits ?_ ?_ <;> omega)))
local macro_rules | `(tactic| walk_at "ln") => `(tactic| (simp only [List.length_cons, List.length_nil]; omega))
local macro_rules | `(tactic| walk_at "gg") => `(tactic| (repeat walk_at "g"))
local macro_rules | `(tactic| walk_at "gs") => `(tactic| (repeat walk_at "gs1"))
local macro_rules | `(tactic| walk_at "gx") => `(tactic| (repeat walk_at "gx1"))

/-- is there no number that ends both? -/
def sepI (ps : List Int) (p q : Pr) : Bool := !(decide (max p.1 q.1 ≤ min p.2 q.2) && freeI ps (max p.1 q.1) (min p.2 q.2))
def wpr (r : Wl) : Pr := (Wr.i r, Wr.j r)
def wiv (r : Wl) : Pr := Wr.q r
def ownW (rows : List Wl) (ts : List Pr) : List Pr := rows.filterMap fun r => if wpr r ∈ ts then some (wiv r) else none
def apartW (rows : List Wl) (ps : List Int) (ts : List Pr) : Bool :=
  (List.zipWith (Kd.lt (α := Pr)) ts (ts.drop 1)).all id && (ts.all (fun t => decide (t ∈ rows.map fun r => wpr r)) && (List.range (ownW rows ts).length).all fun i => ((ownW rows ts).take i).all fun o => sepI ps ((ownW rows ts).getD i (0, 0)) o)
def spApartW (K : PySem.W.Frag) : Sp := fun vs H Q _ => ∃ (t l c : Addr) (ts : List Pr) (rows : List Wl) (ps : List Int), vs = [.ref t, .ref l, .ref c] ∧ PtsL K H t ts ∧ DtL K H l rows ∧ H c = some (.lst (ps.map V.int)) ∧ ts.length ≤ 1000 ∧ rows.length ≤ 1000 ∧ ps.length ≤ 1000 ∧ ∀ H', Same H H' → Q (.bl (apartW rows ps ts)) H'
section
variable {P : Program} {w : World} {K : PySem.W.Frag} {mg : Str → Option Value} {base : Heap} {X : Cx} {H : Hp}
abbrev s_apart : Stmt := top 30
abbrev N_apart : List Str := ["_law_told_here", "_law_wishes_here", "_law_some_puts", "_law_pairs", "_law_own", "_law_at", "_law_one", "_law_other", "_law_both", "_law_pair", "_law_wish_here"]
theorem sc_apart : FnScope N_apart ["_law_told_here", "_law_wishes_here", "_law_some_puts"] (defScope s_apart) := ⟨rfl, rfl, rfl, by decide +kernel, rfl, by decide +kernel, by decide +kernel⟩

theorem ok_apartW {f : Addr} {fd : FuncData} (D : Dn K mg "_law_apart" s_apart ["_law_told_here", "_law_wishes_here", "_law_some_puts"] f fd) (T : Bt mg) (c__law_free_in : Cal P w K mg base 1 "_law_free_in" (spFree K) []) : Cal P w K mg base 2 "_law_apart" (spApartW K) [] := by
  refine cal_of D (D.fn.ok sc_apart (fun vs H Q E h => ?_) (fun cdv A outer s H vs Q E hr h => ?_))
  · obtain ⟨t, l, c, ts, rows, ps, rfl, _⟩ := h
    rfl
  · obtain ⟨t, l, c, ts, rows, ps, rfl, ht, hl, hc, lt, lr, lp, k⟩ := h
    refine ⟨_, (pss_cons (ps_asg (pe_lc (own := [("_law_pair", 9), ("_law_wish_here", 10)]) (g := gTup K 2 (gCons (gName 9) (gCons (gName 10) gNil))) (tt := tYes) rfl sc_apart.nd (pi_list (pv 1)) (blkOk_by (own := [("_law_pair", 9), ("_law_wish_here", 10)]) (N := N_apart) (sc := defScope s_apart) (by decide +kernel)) (fun _ _ _ _ _ => (pg_tup (by rfl) (pgs_cons (pg_name (i := 9) sc_apart.nd rfl (Or.inl rfl)) (pgs_cons (pg_name (i := 10) sc_apart.nd rfl (Or.inl rfl)) pgs_nil)))) (fun _ _ _ _ _ => pts_nil) (fun _ _ _ _ _ => (pv 9))) (pg_name (i := 3) sc_apart.nd rfl (Or.inr rfl)))
    (pss_cons (ps_if (PW.pt (pw_or (pt_cmpR (op_neD hr.units) (pv 0) (pe_callB (cr_sortAny rfl) (by rfl) T.n_sorted bt_sorted (pa_cons (pe_callTy (cr_setAny rfl hr) (by rfl) T.n_set bt_set (pa_cons (pv 0) pa_nil)) pa_nil)) (nomark _)) (pw_or1 (pt_cmpR (op_neD hr.units) (pe_lc (own := [("_law_pair", 9)]) (g := gName 9) rfl sc_apart.nd (pi_list (pv 0)) (blkOk_by (own := [("_law_pair", 9)]) (N := N_apart) (sc := defScope s_apart) (by decide +kernel)) (fun _ _ _ _ _ => pg_name (i := 9) sc_apart.nd rfl (Or.inl rfl)) (fun _ _ _ _ _ => (pts_one (pt_cmpR (show OpR _ (compareOp .NotIn) (rInDL K true) from (op_notInDL hr.units)) (pv 9) (pv 3) (by rfl)))) (fun _ _ _ _ _ => (pv 9))) (pe_lst pa_nil) (nomark _))))) (pss_one (ps_ret pe_bl)) pss_nil)
    (pss_cons (ps_setLc (i := 4) (own := [("_law_pair", 9), ("_law_wish_here", 10)]) (g := gTup K 2 (gCons (gName 9) (gCons (gName 10) gNil))) rfl sc_apart.nd rfl rfl (sw_true rfl rfl rfl (by decide +kernel)) (pi_list (pv 1)) (blkOk_by (own := [("_law_pair", 9), ("_law_wish_here", 10)]) (N := N_apart) (sc := defScope s_apart) (by decide +kernel)) (fun _ _ _ _ _ => (pg_tup (by rfl) (pgs_cons (pg_name (i := 9) sc_apart.nd rfl (Or.inl rfl)) (pgs_cons (pg_name (i := 10) sc_apart.nd rfl (Or.inl rfl)) pgs_nil)))) (fun _ _ _ _ _ => (pts_one (pt_cmpR (show OpR _ (compareOp .In) (rInDL K false) from (op_inDL hr.units)) (pv 9) (pv 0) (by rfl)))) (fun _ _ _ _ _ => (pv 10)))
    (pss_cons (ps_for PassesOwn.never rfl (pi_enum (by rfl) T.n_enumerate (pa_cons (pv 4) pa_nil)) (pg_tup (by rfl) (pgs_cons (pg_name (i := 5) sc_apart.nd rfl (Or.inl rfl)) (pgs_cons (pg_name (i := 6) sc_apart.nd rfl (Or.inl rfl)) pgs_nil))) (pss_one (ps_for PassesOwn.never rfl (pi_list (pe_slice sl_list (pv 4) po_none (po_some (pv 5)))) (pg_name (i := 7) sc_apart.nd rfl (Or.inl rfl)) (pss_cons (ps_set (i := 8) sc_apart.nd rfl (Or.inl rfl) (pe_tup (pa_cons (pe_callB (cr_maxQ rfl) (by rfl) T.n_max bt_max (pa_cons (pe_ix ix_tup (pv 6) pe_int (fun _ _ => rfl)) (pa_cons (pe_ix ix_tup (pv 7) pe_int (fun _ _ => rfl)) pa_nil))) (pa_cons (pe_callB (cr_minQ rfl) (by rfl) T.n_min bt_min (pa_cons (pe_ix ix_tup (pv 6) pe_int (fun _ _ => rfl)) (pa_cons (pe_ix ix_tup (pv 7) pe_int (fun _ _ => rfl)) pa_nil))) pa_nil))))
    (pss_one (ps_if (PW.pt (pw_and (pt_cmpR op_le (pe_ix ix_tup (pv 8) pe_int (fun _ _ => rfl)) (pe_ix ix_tup (pv 8) pe_int (fun _ _ => rfl)) (nomark _)) (pw_and1 (pt_val (pe_c c__law_free_in hr (by decide) (by rfl) (pa_cons (pv 8) (pa_cons (pv 2) pa_nil))))))) (pss_one (ps_ret pe_bl)) pss_nil))))))
    (pss_one (ps_ret pe_bl)))))), ?_⟩
    walk_at "gg"
    refine ⟨l, rfl, ?_⟩
    refine lc_someL (γ := Pr) hl (by omega) (fun r => some (wpr r)) (fun x r H' Nx No _ dx S ky kn => ?_) fun p1 H1 n1 S1 e1 => ?_
    · obtain ⟨t0, t1, t2, rfl, h0, h1, h2⟩ := wl_at dx
      refine g_gtup h0 rfl ?_
      walk_at "gg"
      refine ⟨rfl, ?_⟩
      walk_at "gg"
      refine g_ifT rfl ?_
      walk_at "gg"
      exact ky _ (wpr r) _ (Same.refl _) rfl (.tup h1 (.cons (.int _) (.cons (.int _) .nil)))
    rw [show rows.filterMap (fun r => some (wpr r)) = rows.map (fun r => wpr r) by rw [← List.filterMap_eq_map]; rfl] at e1
    walk_at "gg"
    refine Sk.mkS (α := Pr) (ht.same S1) (by omega) fun q H2 n2 S2 e2 => ?_
    refine Sk.srt (α := Pr) e2 fun bs p H3 ub mb lb n3 S3 e3 => ?_
    walk_at "gg"
    have S03 := (S1.trans S2).trans S3
    have S13 := S2.trans S3
    refine g_neL (β := Pr) (ht.same S03) e3 ?_
    have es := eq_srt ub mb
    refine ⟨_, rfl, ?_⟩
    have kr : ∀ b : Bool, apartW rows ps ts = b → ∀ H', Same H H' → Q (.bl b) H' := fun b e => by
      rw [← e]
      exact k
    unfold apartW at kr
    by_cases b1 : ts = bs
    rotate_left
    · refine g_ifT (by rw [decide_eq_false b1]; rfl) ?_
      refine g_ifT rfl ?_
      walk_at "gg"
      have z : (List.zipWith (Kd.lt (α := Pr)) ts (ts.drop 1)).all id = false := by
        cases c : (List.zipWith (Kd.lt (α := Pr)) ts (ts.drop 1)).all id with
        | false => rfl
        | true => exact absurd (es.mpr c) b1
      exact kr false (by rw [z]; rfl) _ S03
    refine g_ifF (by rw [decide_eq_true b1]; rfl) ?_
    rw [es.mp b1] at kr
    walk_at "gg"
    refine ⟨t, rfl, ?_⟩
    refine lc_filtL (β := Pr) (dt_of_pts (ht.same S03)) (by omega) (fun x => !decide (x ∈ rows.map (fun r => wpr r))) (fun x m H' Nx No hm dx S ky kn => ?_) fun p4 H4 n4 S4 e4 => ?_
    · walk_at "gg"
      refine ⟨rfl, ?_⟩
      walk_at "gg"
      refine g_notInL (β := Pr) dx ((e1.same S13).same S) ?_
      refine ⟨_, rfl, ?_⟩
      by_cases c : m ∈ rows.map (fun r => wpr r)
      · refine g_ifF (ncT c) ?_
        exact kn _ (Same.refl _) (ncT c)
      · refine g_ifT (ncF c) ?_
        walk_at "gg"
        exact ky _ (Same.refl _) (ncF c)
    walk_at "gg"
    refine g_mkL (by walk_at "ln") fun p5 H5 n5 S5 e5 => ?_
    walk_at "gg"
    refine g_neL (β := Pr) (bs := []) (e4.same S5) ⟨[], e5, .nil⟩ ?_
    refine ⟨_, rfl, ?_⟩
    have S05 := (S03.trans S4).trans S5
    by_cases b2 : ts.filter (fun x => !decide (x ∈ rows.map (fun r => wpr r))) = []
    rotate_left
    · refine g_ifT (by rw [decide_eq_false b2]; rfl) ?_
      walk_at "gg"
      have z : (ts.all (fun t => decide (t ∈ rows.map fun r => wpr r))) = false := by
        cases c : ts.all (fun t => decide (t ∈ rows.map fun r => wpr r)) with
        | false => rfl
        | true =>
          refine absurd (List.filter_eq_nil_iff.mpr fun a ha => ?_) b2
          have w0 := List.all_eq_true.mp c a ha
          rw [w0]
          decide
      exact kr false (by rw [z]; rfl) _ S05
    refine g_ifF (by rw [decide_eq_true b2]; rfl) ?_
    have z2 : (ts.all (fun t => decide (t ∈ rows.map fun r => wpr r))) = true := by
      refine List.all_eq_true.mpr fun a ha => ?_
      have w0 := List.filter_eq_nil_iff.mp b2 a ha
      cases c : decide (a ∈ rows.map fun r => wpr r) with
      | true => rfl
      | false =>
        rw [c] at w0
        exact absurd rfl w0
    rw [z2] at kr
    walk_at "gg"
    refine ⟨l, rfl, ?_⟩
    refine lc_someL (γ := Pr) (hl.same S05) (by omega) (fun r => if wpr r ∈ ts then some (wiv r) else none) (fun x r H' Nx No _ dx S ky kn => ?_) fun p6 H6 n6 S6 e6 => ?_
    · obtain ⟨t0, t1, t2, rfl, h0, h1, h2⟩ := wl_at dx
      have dpr : Dp K H' (.ref t1) (Kd.D (wpr r)) := .tup h1 (.cons (.int _) (.cons (.int _) .nil))
      refine g_gtup h0 rfl ?_
      walk_at "gg"
      refine ⟨rfl, ?_⟩
      walk_at "gg"
      refine g_inL (β := Pr) dpr (dt_of_pts (ht.same (S05.trans S))) ?_
      refine ⟨_, rfl, ?_⟩
      by_cases c : wpr r ∈ ts
      · refine g_ifT (dcT c) ?_
        walk_at "gg"
        exact ky _ (wiv r) _ (Same.refl _) (if_pos c) (.tup h2 (.cons (.int _) (.cons (.int _) .nil)))
      · refine g_ifF (dcF c) ?_
        exact kn _ (Same.refl _) (if_neg c)
    generalize hown : rows.filterMap (fun r => if wpr r ∈ ts then some (wiv r) else none) = own at e6
    have ho : ownW rows ts = own := hown
    rw [ho] at kr
    have lown : own.length ≤ 1000 := by rw [← hown]; exact Nat.le_trans (List.length_filterMap_le _ _) lr
    have S06 := S05.trans S6
    obtain ⟨zs, ez, dz⟩ := e6
    have lnz : zs.length = own.length := by rw [dpAll_len dz, List.length_map]
    walk_at "gg"
    refine g_exEn (SqL.of ez) ?_
    refine fw_enum (xs := zs) (fun i σ H' => ∃ (v5 v6 v7 v8 v9 v10 : Option V), σ = [some (.ref t), some (.ref l), some (.ref c), some (.ref p1), some (.ref p6), v5, v6, v7, v8, v9, v10] ∧ Same H6 H' ∧ ((List.range i).all fun i => (own.take i).all fun o => sepI ps (own.getD i (0, 0)) o) = true)
      ⟨_, _, _, _, _, _, rfl, Same.refl _, rfl⟩ (fun i σ H' _ ⟨_, _, _, _, _, _, _, S, _⟩ => SqL.of (S _ _ ez)) ?_ ?_
    · rintro i x t0 σ H7 H8 hx ⟨v5, v6, v7, v8, v9, v10, rfl, S7, all7⟩ S8 e8
      have S68 := S7.trans S8
      obtain ⟨q1, hq1, dq1⟩ := datas_at (dp_sameAll S68 _ _ dz) hx
      obtain ⟨u1, rfl, hu1⟩ := pr_at (p := q1) dq1
      have il : i < zs.length := (List.getElem?_eq_some_iff.mp hx).1
      have bad : (∃ o ∈ own.take i, sepI ps q1 o = false) → ∀ H', Same H8 H' → Q (.bl false) H' := fun ⟨o, ho1, ho2⟩ H' S' => by
        refine kr false ?_ _ ((S06.trans S68).trans S')
        have w0 : ((List.range own.length).all fun i => (own.take i).all fun o => sepI ps (own.getD i (0, 0)) o) = false := by
          refine List.all_eq_false.mpr ⟨i, List.mem_range.mpr (by omega), ?_⟩
          rw [List.all_eq_false.mpr ⟨o, ho1, by rw [List.getD_eq_getElem?_getD, hq1]; show ¬ sepI ps q1 o = true; rw [ho2]; decide⟩]
          decide
        rw [w0]
        rfl
      refine g_gtup (SqT.of e8) rfl ?_
      walk_at "gg"
      refine g_slL (SqL.of (S68 _ _ ez)) fun p9 H9 n9 S9 e9 => ?_
      rw [cut_to _ _ (Nat.le_of_lt il)] at e9
      have d9 : PtsL K H9 p9 (own.take i) := ⟨_, e9, by rw [List.map_take]; exact dpTake (dp_sameAll (S68.trans S9) _ _ dz) i⟩
      refine g_exL (SqL.of e9) ?_
      refine fw_dts (β := Pr) (dt_of_pts d9) (fun j σ H' => ∃ (v7 v8 v9 v10 : Option V), σ = [some (.ref t), some (.ref l), some (.ref c), some (.ref p1), some (.ref p6), some (.int (i : Nat)), some (.ref u1), v7, v8, v9, v10] ∧ Same H9 H' ∧ ((own.take i).take j).all (fun o => sepI ps q1 o) = true)
        (fun j σ H' ⟨_, _, _, _, _, S, _⟩ => S) ⟨_, _, _, _, rfl, Same.refl _, rfl⟩ ?_ ?_
      · rintro j y o σ H10 hj ⟨v7, v8, v9, v10, rfl, S10, all10⟩ dy
        obtain ⟨u2, rfl, hu2⟩ := pr_at (p := o) dy
        have S8a := S9.trans S10
        have hu1' := same_sqT S8a hu1
        walk_at "gg"
        refine g_ix2 hu1' rfl ?_
        walk_at "gg"
        refine g_ix2 hu2 rfl ?_
        walk_at "gg"
        refine g_max2 fun lo l1 l2 l3 => ?_
        have el : lo = max q1.1 o.1 := by omega
        walk_at "gg"
        refine g_ix2 hu1' rfl ?_
        walk_at "gg"
        refine g_ix2 hu2 rfl ?_
        walk_at "gg"
        refine g_min2 fun hi h1 h2 h3 => ?_
        have eh : hi = min q1.2 o.2 := by omega
        walk_at "gg"
        refine g_mkT (by walk_at "ln") fun t4 H11 n11 S11 e11 => ?_
        walk_at "gg"
        refine g_ix2 (SqT.of e11) rfl ?_
        walk_at "gg"
        refine g_ix2 (SqT.of e11) rfl ?_
        walk_at "gg"
        have next : sepI ps q1 o = true → ((own.take i).take (j + 1)).all (fun o => sepI ps q1 o) = true := fun z => by
          have tk : (own.take i).take (j + 1) = (own.take i).take j ++ [o] := by
            rw [List.take_succ, hj]
            rfl
          rw [tk, List.all_append, all10, List.all_cons, List.all_nil, z]
          rfl
        by_cases c1 : lo ≤ hi
        · refine g_ifT (decide_eq_true c1) ?_
          walk_at "gg"
          have S8b := S8a.trans S11
          refine ⟨t4, c, lo, hi, ps, rfl, SqT.of e11, ((S06.trans S68).trans S8b) _ _ hc, lp, fun H12 S12 => ⟨_, rfl, ?_⟩⟩
          have esep : sepI ps q1 o = !(freeI ps lo hi) := by
            unfold sepI
            rw [← el, ← eh, decide_eq_true c1, Bool.true_and]
          cases fr : freeI ps lo hi with
          | true =>
            refine g_ifT rfl ?_
            walk_at "gg"
            exact bad ⟨o, List.mem_of_getElem? hj, by rw [esep, fr]; rfl⟩ _ (S8b.trans S12)
          | false =>
            refine g_ifF rfl ?_
            walk_at "gg"
            exact ⟨_, _, _, _, rfl, (S10.trans S11).trans S12, next (by rw [esep, fr]; rfl)⟩
        · refine g_ifF (decide_eq_false c1) ?_
          refine g_ifF rfl ?_
          walk_at "gg"
          exact ⟨_, _, _, _, rfl, S10.trans S11, next (by unfold sepI; rw [← el, ← eh, decide_eq_false c1]; rfl)⟩
      · rintro σ H10 ⟨v7, v8, v9, v10, rfl, S10, all10⟩
        refine ⟨_, _, _, _, _, _, rfl, (S68.trans S9).trans S10, ?_⟩
        rw [List.take_length] at all10
        rw [List.range_succ, List.all_append, all7, List.all_cons, List.all_nil, List.getD_eq_getElem?_getD, hq1]
        show (true && ((own.take i).all (fun o => sepI ps q1 o) && true)) = true
        rw [all10]
        rfl
    · rintro σ H7 ⟨v5, v6, v7, v8, v9, v10, rfl, S7, all7⟩
      rw [lnz] at all7
      walk_at "gg"
      exact kr true (by rw [all7]; rfl) _ (S06.trans S7)
end
end Gk

/-! module gapreach.spacers: needless, and the functions whose arguments are refused -/
namespace Gk
open PySem L2 Gx
open C8 (Cal Met Mak pe_c pe_mt pe_mt0 pe_mk pe_gc)
local macro_rules | `(tactic| walk_at "g") => `(tactic| (first
  | with_reducible refine g_seq ?_ | with_reducible refine g_asg ?_ | ((with_reducible show tVar _ _ _ _); refine g_var rfl ?_) | with_reducible refine g_c ?_ | with_reducible refine g_name ?_ | with_reducible refine g_op ?_ | with_reducible refine g_I0 ?_
  | with_reducible refine g_cons ?_ | with_reducible refine g_nil ?_ | with_reducible refine g_exbl ?_ | with_reducible refine g_exint ?_ | with_reducible refine g_test ?_ | with_reducible refine g_B ?_ | with_reducible refine g_ifS ?_ | with_reducible refine g_ret ?_ | with_reducible refine g_retN ?_ | with_reducible refine g_next ?_
  | with_reducible refine g_CB ?_ | with_reducible refine g_sub ?_ | with_reducible refine g_drop ?_ | with_reducible refine g_not ?_ | with_reducible refine g_and ?_ | with_reducible refine g_or ?_ | with_reducible refine g_andV ?_ | with_reducible refine g_orV ?_ | with_reducible refine g_notV ?_ | with_reducible refine g_ifE ?_ | with_reducible refine g_isN ?_
  | with_reducible refine g_par ?_ | with_reducible refine g_expar ?_ | with_reducible refine g_chain ?_ | with_reducible refine g_un ?_ | with_reducible refine g_U ?_ | with_reducible refine g_bits ?_ | ((with_reducible show rEq _ _ _ _); refine g_eq rfl ?_) | ((with_reducible show rNe _ _ _ _); refine g_ne rfl ?_)
  | with_reducible refine g_for ?_ | with_reducible refine g_iRng1 ?_ | with_reducible refine g_iRng2 ?_ | with_reducible refine g_iList ?_ | with_reducible refine g_iTup ?_
  | ((with_reducible refine g_Imul ?hc ?_); (case hc => (first | (refine Or.inl ⟨?_, ?_⟩ <;> first | decide | omega) | (refine Or.inr ⟨?_, ?_⟩ <;> first | decide | omega))))
  | ((with_reducible refine g_Idiv ?hc ?_); (case hc => (first | (exact ⟨by decide, by decide⟩) | assumption)))
  | ((with_reducible refine g_Imod ?hc ?_); (case hc => (first | assumption | omega | decide)))
  | ((with_reducible refine g_exR1 ?hlo ?hhi ?_); (case hlo => omega); (case hhi => omega))
  | ((with_reducible refine g_exR2 ?hb ?_); (case hb => omega))
  | with_reducible refine g_lst ?_ | with_reducible refine g_tup ?_ | with_reducible refine g_call ?_ | with_reducible refine g_BM ?_ | with_reducible refine g_BM0 ?_
  | with_reducible refine g_intB ?_ | with_reducible refine g_lc ?_ | with_reducible refine g_yes ?_ | with_reducible refine g_iZip ?_ | with_reducible refine g_sl ?_ | with_reducible refine g_noP ?_ | with_reducible refine g_part ?_ | with_reducible refine g_gcons ?_ | with_reducible refine g_gnil ?_
  | with_reducible refine g_tfld ?_ | with_reducible refine g_tmeth ?_ | with_reducible refine g_tmake ?_ | with_reducible refine g_sfld ?_ | with_reducible refine g_tprop ?_ | with_reducible refine g_tstar ?_ | with_reducible refine g_tmethK ?_ | with_reducible refine g_isN1 ?_ | with_reducible refine g_notN1 ?_ | with_reducible refine g_callK0 ?_ | with_reducible refine g_m1 ?_ | with_reducible refine g_isstr ?_ | with_reducible refine g_iStr ?_ | with_reducible refine g_exS ?_ | with_reducible refine g_iEnum ?_))
local macro_rules | `(tactic| walk_at "gs1") => `(tactic| (first
  | with_reducible refine g_seq ?_ | with_reducible refine g_asg ?_ | ((with_reducible show tVar _ _ _ _); refine g_var rfl ?_) | with_reducible refine g_c ?_ | with_reducible refine g_name ?_ | with_reducible refine g_op ?_ | with_reducible refine g_I0 ?_
  | with_reducible refine g_cons ?_ | with_reducible refine g_nil ?_ | with_reducible refine g_exbl ?_ | with_reducible refine g_exint ?_ | with_reducible refine g_test ?_ | with_reducible refine g_B ?_ | with_reducible refine g_ifS ?_ | with_reducible refine g_retN ?_ | with_reducible refine g_next ?_
  | with_reducible refine g_CB ?_ | with_reducible refine g_sub ?_ | with_reducible refine g_drop ?_ | with_reducible refine g_not ?_ | with_reducible refine g_and ?_ | with_reducible refine g_or ?_ | with_reducible refine g_andV ?_ | with_reducible refine g_orV ?_ | with_reducible refine g_notV ?_ | with_reducible refine g_ifE ?_ | with_reducible refine g_isN ?_
  | with_reducible refine g_par ?_ | with_reducible refine g_expar ?_ | with_reducible refine g_chain ?_ | with_reducible refine g_un ?_ | with_reducible refine g_U ?_ | with_reducible refine g_bits ?_ | ((with_reducible show rEq _ _ _ _); refine g_eq rfl ?_) | ((with_reducible show rNe _ _ _ _); refine g_ne rfl ?_)
  | with_reducible refine g_for ?_ | with_reducible refine g_iRng1 ?_ | with_reducible refine g_iRng2 ?_ | with_reducible refine g_iList ?_ | with_reducible refine g_iTup ?_
  | ((with_reducible refine g_Imul ?hc ?_); (case hc => (first | (refine Or.inl ⟨?_, ?_⟩ <;> first | decide | omega) | (refine Or.inr ⟨?_, ?_⟩ <;> first | decide | omega))))
  | ((with_reducible refine g_Idiv ?hc ?_); (case hc => (first | (exact ⟨by decide, by decide⟩) | assumption)))
  | ((with_reducible refine g_Imod ?hc ?_); (case hc => (first | assumption | omega | decide)))
  | ((with_reducible refine g_exR1 ?hlo ?hhi ?_); (case hlo => omega); (case hhi => omega))
  | ((with_reducible refine g_exR2 ?hb ?_); (case hb => omega))
  | with_reducible refine g_lst ?_ | with_reducible refine g_tup ?_ | with_reducible refine g_call ?_ | with_reducible refine g_BM ?_ | with_reducible refine g_BM0 ?_
  | with_reducible refine g_intB ?_ | with_reducible refine g_lc ?_ | with_reducible refine g_yes ?_ | with_reducible refine g_iZip ?_ | with_reducible refine g_sl ?_ | with_reducible refine g_noP ?_ | with_reducible refine g_part ?_ | with_reducible refine g_gcons ?_ | with_reducible refine g_gnil ?_
  | with_reducible refine g_tfld ?_ | with_reducible refine g_tmeth ?_ | with_reducible refine g_tmake ?_ | with_reducible refine g_sfld ?_ | with_reducible refine g_tprop ?_ | with_reducible refine g_tstar ?_ | with_reducible refine g_tmethK ?_ | with_reducible refine g_isN1 ?_ | with_reducible refine g_notN1 ?_ | with_reducible refine g_callK0 ?_ | with_reducible refine g_m1 ?_ | with_reducible refine g_isstr ?_ | with_reducible refine g_iStr ?_ | with_reducible refine g_exS ?_ | with_reducible refine g_iEnum ?_))
local macro_rules | `(tactic| walk_at "gx1") => `(tactic| (first
  | with_reducible refine g_seq ?_ | with_reducible refine g_asg ?_ | ((with_reducible show tVar _ _ _ _); refine g_var rfl ?_) | with_reducible refine g_c ?_ | with_reducible refine g_name ?_ | with_reducible refine g_op ?_ | with_reducible refine g_I0 ?_
  | with_reducible refine g_cons ?_ | with_reducible refine g_nil ?_ | with_reducible refine g_exbl ?_ | with_reducible refine g_exint ?_ | with_reducible refine g_test ?_ | with_reducible refine g_B ?_ | with_reducible refine g_ifS ?_ | with_reducible refine g_retN ?_ | with_reducible refine g_next ?_
  | with_reducible refine g_CB ?_ | with_reducible refine g_sub ?_ | with_reducible refine g_drop ?_ | with_reducible refine g_not ?_ | with_reducible refine g_and ?_ | with_reducible refine g_or ?_ | with_reducible refine g_andV ?_ | with_reducible refine g_orV ?_ | with_reducible refine g_notV ?_ | with_reducible refine g_ret ?_ | with_reducible refine g_isN ?_
  | with_reducible refine g_par ?_ | with_reducible refine g_expar ?_ | with_reducible refine g_chain ?_ | with_reducible refine g_un ?_ | with_reducible refine g_U ?_ | with_reducible refine g_bits ?_ | ((with_reducible show rEq _ _ _ _); refine g_eq rfl ?_) | ((with_reducible show rNe _ _ _ _); refine g_ne rfl ?_)
  | with_reducible refine g_for ?_ | with_reducible refine g_iRng1 ?_ | with_reducible refine g_iRng2 ?_ | with_reducible refine g_iList ?_ | with_reducible refine g_iTup ?_
  | ((with_reducible refine g_Imul ?hc ?_); (case hc => (first | (refine Or.inl ⟨?_, ?_⟩ <;> first | decide | omega) | (refine Or.inr ⟨?_, ?_⟩ <;> first | decide | omega))))
  | ((with_reducible refine g_Idiv ?hc ?_); (case hc => (first | (exact ⟨by decide, by decide⟩) | assumption)))
  | ((with_reducible refine g_Imod ?hc ?_); (case hc => (first | assumption | omega | decide)))
  | ((with_reducible refine g_exR1 ?hlo ?hhi ?_); (case hlo => omega); (case hhi => omega))
  | ((with_reducible refine g_exR2 ?hb ?_); (case hb => omega))
  | with_reducible refine g_lst ?_ | with_reducible refine g_tup ?_ | with_reducible refine g_call ?_ | with_reducible refine g_BM ?_ | with_reducible refine g_BM0 ?_
  | with_reducible refine g_intB ?_ | with_reducible refine g_lc ?_ | with_reducible refine g_yes ?_ | with_reducible refine g_iZip ?_ | with_reducible refine g_sl ?_ | with_reducible refine g_noP ?_ | with_reducible refine g_part ?_ | with_reducible refine g_gcons ?_ | with_reducible refine g_gnil ?_
  | with_reducible refine g_tfld ?_ | with_reducible refine g_tmeth ?_ | with_reducible refine g_tmake ?_ | with_reducible refine g_sfld ?_ | with_reducible refine g_tprop ?_ | with_reducible refine g_tstar ?_ | with_reducible refine g_tmethK ?_ | with_reducible refine g_isN1 ?_ | with_reducible refine g_notN1 ?_ | with_reducible refine g_callK0 ?_ | with_reducible refine g_m1 ?_ | with_reducible refine g_isstr ?_ | with_reducible refine g_iStr ?_ | with_reducible refine g_exS ?_ | with_reducible refine g_iEnum ?_))
local macro_rules | `(tactic| walk_at "hp") => `(tactic| (first | assumption | exact upd_same | (refine same_get (by assumption) ?_; walk_at "hp")))
local macro_rules | `(tactic| walk_at "sm") => `(tactic| (first | assumption | exact Same.refl _ | (refine Same.trans ?ha (by assumption); walk_at "sm")))
local macro_rules | `(tactic| walk_at "nn") => `(tactic| (first | assumption | (refine same_free (by assumption) ?_; walk_at "nn")))
local macro_rules | `(tactic| walk_at "sb") => `(tactic| (first | decide | (refine small_bits ?_ ?_ <;> omega)))
local macro_rules | `(tactic| walk_at "ln") => `(tactic| (simp only [List.length_cons, List.length_nil]; omega))
local macro_rules | `(tactic| walk_at "gg") => `(tactic| (repeat walk_at "g"))
local macro_rules | `(tactic| walk_at "gs") => `(tactic| (repeat walk_at "gs1"))
local macro_rules | `(tactic| walk_at "gx") => `(tactic| (repeat walk_at "gx1"))

local macro_rules | `(tactic| walk_at "g") => `(tactic| (first | with_reducible refine g_ownE ?_ | with_reducible refine g_cX ?_ | with_reducible refine g_cKX ?_))
def spanD : PyData → Pr
  | .tuple [.int a, .int b] => (a, b)
  | _ => (0, 0)
def kI (o : Option (List PyData)) : List Int := (o.getD []).map intD
def rP (o : Option (List PyData)) : List Pr := (o.getD []).map spanD
theorem isSpanD_some {d : PyData} (h : isSpanD d = true) : d = Kd.D (spanD d) := by
  unfold isSpanD at h
  split at h
  · rfl
  · cases h
theorem spans_of : ∀ {ds : List PyData}, ds.all isSpanD = true → ds = (ds.map spanD).map Kd.D
  | [], _ => rfl
  | d :: ds, h => by
    rw [List.all_cons, Bool.and_eq_true] at h
    rw [List.map_cons, List.map_cons, ← isSpanD_some h.1, ← spans_of h.2]
theorem chk_good {k r p : Option (List PyData)} (h : chk k r p = 0) : keysOk k = true ∧ spansOk r = true ∧ putsOk k p = true := by
  unfold chk at h
  split at h
  · cases h
  · split at h
    · cases h
    · split at h
      · cases h
      · simp_all
section
variable {P : Program} {w : World} {K : PySem.W.Frag} {mg : Str → Option Value} {base : Heap} {X : Cx} {H : Hp}
/-- good arguments -/
theorem th_good {x y z : V} {k r p : Option (List PyData)} (hx : Th K H x k) (hy : Th K H y r) (hz : Th K H z p) (h : chk k r p = 0) :
    ∃ a b c, x = .ref a ∧ y = .ref b ∧ z = .ref c ∧ H a = some (.lst ((kI k).map V.int)) ∧ PtsL K H b (rP r) ∧ H c = some (.lst ((kI p).map V.int)) ∧ (kI k).length ≤ 200 ∧ (rP r).length ≤ 30 ∧ (kI p).length ≤ 30 := by
  obtain ⟨h1, h2, h3⟩ := chk_good h
  cases hx with
  | no _ => cases h1
  | @lst a xs ks ek hk lk =>
  cases hy with
  | no _ => cases h2
  | @lst b ys rs er hr lr =>
  cases hz with
  | no _ => cases h3
  | @lst c zs ps ep hp lp =>
    have h1 : (liOk 200 (some ks) && upI (ks.map intD)) = true := h1
    have h2 : (decide (rs.length ≤ 30) && rs.all isSpanD) = true := h2
    have h3 : (liOk 30 (some ps) && !((ps.map intD).any fun n => decide (n ∈ ((some ks).getD []).map intD))) = true := h3
    rw [Bool.and_eq_true] at h1 h2 h3
    have g1 : (decide (ks.length ≤ 200) && ks.all isIntD) = true := h1.1
    have g3 : (decide (ps.length ≤ 30) && ps.all isIntD) = true := h3.1
    rw [Bool.and_eq_true, decide_eq_true_eq] at g1 g3
    rw [decide_eq_true_eq] at h2
    refine ⟨a, b, c, rfl, rfl, rfl, ptsI_of (show PtsL K H a (ks.map intD) from ⟨xs, ek, th_ints hk g1.2⟩), ⟨ys, er, ?_⟩, ptsI_of (show PtsL K H c (ps.map intD) from ⟨zs, ep, th_ints hp g3.2⟩), ?_, ?_, ?_⟩
    · have e := spans_of h2.2
      show DpAll K H ys ((rs.map spanD).map Kd.D)
      rw [← e]
      exact hr
    · show (ks.map intD).length ≤ 200
      rw [List.length_map]
      exact g1.1
    · show (rs.map spanD).length ≤ 30
      rw [List.length_map]
      exact h2.1
    · show (ps.map intD).length ≤ 30
      rw [List.length_map]
      exact g3.1
theorem dp_three {x : V} {d1 d2 d3 : PyData} (h : Dp K H x (.tuple [d1, d2, d3])) : ∃ t v1 v2 v3, x = .ref t ∧ SqT K H t [v1, v2, v3] ∧ Dp K H v1 d1 ∧ Dp K H v2 d2 ∧ Dp K H v3 d3 := by
  cases h with
  | tup ht hd =>
    cases hd with
    | cons h1 hd =>
      cases hd with
      | cons h2 hd =>
        cases hd with
        | cons h3 hd =>
          cases hd
          exact ⟨_, _, _, _, rfl, ht, h1, h2, h3⟩
theorem flat_len {α β : Type} {f : α → List β} {m : Nat} (h : ∀ a, (f a).length ≤ m) : ∀ l : List α, (l.flatMap f).length ≤ m * l.length
  | [] => Nat.zero_le _
  | a :: l => by
    rw [List.flatMap_cons, List.length_append, List.length_cons, Nat.mul_succ]
    have := h a
    have := flat_len h l
    omega
theorem wish_len {ks : List Int} {rs : List Pr} {ps : List Int} (lr : rs.length ≤ 30) (lp : ps.length ≤ 30) : (wishRows ks rs ps).length ≤ 100000 := by
  have h : ∀ q : Int × Nat, (rowsOf ks rs q.2 q.1).length ≤ 30 := fun q => by
    unfold rowsOf
    refine Nat.le_trans (List.length_filterMap_le _ _) ?_
    rw [List.length_zipIdx]
    exact lr
  have h2 := flat_len h ps.zipIdx
  unfold wishRows
  rw [List.length_zipIdx] at h2
  omega
/-- a pair of numbers of a row -/
def rowPr (r : Wr) : Pr := (r.i, r.j)
def spNeed (K : PySem.W.Frag) (CE CR : Addr) : Sp := fun vs H Q E => ∃ (x y z : V) (k r p : Option (List PyData)), vs = [x, y, z] ∧ Th K H x k ∧ Th K H y r ∧ Th K H z p ∧
  (chk k r p = 0 → ∀ l H', H l = none → Same H H' → PtsL K H' l ((wishRows (kI k) (rP r) (kI p)).map rowPr) → Q (.ref l) H') ∧ (chk k r p = 1 → ∀ H', Same H H' → E (.ref CE) none H') ∧ (chk k r p = 2 → ∀ H', Same H H' → E (.ref CR) none H')
abbrev s_needless : Stmt := top 17
abbrev N_needless : List Str := ["keys", "ranges", "puts", "index", "place", "interval"]
theorem sc_needless : FnScope N_needless ["keys", "ranges", "puts"] (defScope s_needless) := ⟨rfl, rfl, rfl, by decide +kernel, rfl, by decide +kernel, by decide +kernel⟩

theorem ok_needF {f CE CR : Addr} {fd : FuncData} (D : Dn K mg "needless" s_needless ["keys", "ranges", "puts"] f fd) (T : Bt mg) (c_check_all : CalXN P w K mg base 3 "check_all" (spCheck K CE CR)) (c_wished_rows : Cal P w K mg base 2 "wished_rows" (spWishRows K) []) : FnOk P w K mg base (L2N.CX P w) 4 f fd ["keys", "ranges", "puts"] (spNeed K CE CR) := by
  refine (okXN D.fn sc_needless (fun vs H Q E h => ?_) (fun cdv A outer s H vs Q E hr h => ?_))
  · obtain ⟨x, y, z, k, r, p, rfl, _⟩ := h
    rfl
  · obtain ⟨x, y, z, k, r, p, rfl, hx, hy, hz, k0, k1, k2⟩ := h
    refine ⟨_, (pss_cons (ps_expr (pe_cXN (E := WE (fun cls d _ H => E cls d H)) c_check_all hr (by decide) (by rfl) (fun σ => L2N.passAt (L2N.takes_of rfl rfl rfl rfl) σ) (pa_cons (pv 0) (pa_cons (pv 1) (pa_cons (pv 2) pa_nil)))))
    (pss_one (ps_ret (pe_lc (own := [("index", 3), ("place", 4), ("interval", 5)]) (g := gTup K 3 (gCons (gName 3) (gCons (gName 4) (gCons (gName 5) gNil)))) (tt := tYes) rfl sc_needless.nd (pi_list (pe_c c_wished_rows hr (by decide) (by rfl) (pa_cons (pv 0) (pa_cons (pv 1) (pa_cons (pv 2) pa_nil))))) (blkOk_by (own := [("index", 3), ("place", 4), ("interval", 5)]) (N := N_needless) (sc := defScope s_needless) (by decide +kernel)) (fun _ _ _ _ _ => (pg_tup (by rfl) (pgs_cons (pg_name (i := 3) sc_needless.nd rfl (Or.inl rfl)) (pgs_cons (pg_name (i := 4) sc_needless.nd rfl (Or.inl rfl)) (pgs_cons (pg_name (i := 5) sc_needless.nd rfl (Or.inl rfl)) pgs_nil))))) (fun _ _ _ _ _ => pts_nil) (fun _ _ _ _ _ => (pe_tup (pa_cons (pv 3) (pa_cons (pv 4) pa_nil)))))))), ?_⟩
    walk_at "gg"
    refine ⟨x, y, z, k, r, p, rfl, hx, hy, hz, fun c0 H1 S1 => ?_, fun c1 H1 S1 => k1 c1 H1 S1, fun c2 H1 S1 => k2 c2 H1 S1⟩
    obtain ⟨a, b, c, rfl, rfl, rfl, ha, hb, hc, lk, lr, lp⟩ := th_good hx hy hz c0
    walk_at "gg"
    refine ⟨a, b, c, _, _, _, rfl, S1 _ _ ha, hb.same S1, S1 _ _ hc, by omega, lr, lp, fun l H2 n2 S2 e2 => ?_⟩
    walk_at "gg"
    refine ⟨l, rfl, lc_someL (γ := Pr) e2 (wish_len lr lp) (fun q => some (rowPr q)) (fun x q H3 Nx No _ dx S3 kx kn => ?_) fun l2 H3 n3 S3 e3 => ?_⟩
    · have dx : Dp K H3 x (wrD q) := dx
      obtain ⟨t, v1, v2, v3, rfl, ht, d1, d2, d3⟩ := dp_three dx
      refine g_gtup ht rfl ?_
      walk_at "gg"
      refine ⟨rfl, ?_⟩
      cases d1
      cases d2
      walk_at "gg"
      refine g_ifT rfl ?_
      walk_at "gg"
      refine g_mkT (by walk_at "ln") fun t2 H4 n4 S4 e4 => ?_
      exact kx _ _ _ S4 rfl (.tup (SqT.of e4) (.cons (.int _) (.cons (.int _) .nil)))
    · have em : (wishRows (kI k) (rP r) (kI p)).filterMap (fun q => some (rowPr q)) = (wishRows (kI k) (rP r) (kI p)).map rowPr := by
        rw [← List.filterMap_eq_map]
        rfl
      rw [em] at e3
      walk_at "gg"
      exact k0 c0 l2 H3 (same_free (S1.trans S2) n3) ((S1.trans S2).trans S3) e3
end
end Gk

/-! module gapreach.spacers: fewest_spacers and separate where the arguments are refused; shows_spacers -/
namespace Gk
open PySem L2 Gx
open C8 (Cal Met Mak pe_c pe_mt pe_mt0 pe_mk pe_gc)
local macro_rules | `(tactic| walk_at "g") => `(tactic| (first
  | with_reducible refine g_seq ?_ | with_reducible refine g_asg ?_ | ((with_reducible show tVar _ _ _ _); refine g_var rfl ?_) | with_reducible refine g_c ?_ | with_reducible refine g_name ?_ | with_reducible refine g_op ?_ | with_reducible refine g_I0 ?_
  | with_reducible refine g_cons ?_ | with_reducible refine g_nil ?_ | with_reducible refine g_exbl ?_ | with_reducible refine g_exint ?_ | with_reducible refine g_test ?_ | with_reducible refine g_B ?_ | with_reducible refine g_ifS ?_ | with_reducible refine g_ret ?_ | with_reducible refine g_retN ?_ | with_reducible refine g_next ?_
  | with_reducible refine g_CB ?_ | with_reducible refine g_sub ?_ | with_reducible refine g_drop ?_ | with_reducible refine g_not ?_ | with_reducible refine g_and ?_ | with_reducible refine g_or ?_ | with_reducible refine g_andV ?_ | with_reducible refine g_orV ?_ | with_reducible refine g_notV ?_ | with_reducible refine g_ifE ?_ | with_reducible refine g_isN ?_
  | with_reducible refine g_par ?_ | with_reducible refine g_expar ?_ | with_reducible refine g_chain ?_ | with_reducible refine g_un ?_ | with_reducible refine g_U ?_ | with_reducible refine g_bits ?_ | ((with_reducible show rEq _ _ _ _); refine g_eq rfl ?_) | ((with_reducible show rNe _ _ _ _); refine g_ne rfl ?_)
  | with_reducible refine g_for ?_ | with_reducible refine g_iRng1 ?_ | with_reducible refine g_iRng2 ?_ | with_reducible refine g_iList ?_ | with_reducible refine g_iTup ?_
  | ((with_reducible refine g_Imul ?hc ?_); (case hc => (first | (refine Or.inl ⟨?_, ?_⟩ <;> first | decide | omega) | (refine Or.inr ⟨?_, ?_⟩ <;> first | decide | omega))))
  | ((with_reducible refine g_Idiv ?hc ?_); (case hc => (first | (exact ⟨by decide, by decide⟩) | assumption)))
  | ((with_reducible refine g_Imod ?hc ?_); (case hc => (first | assumption | omega | decide)))
  | ((with_reducible refine g_exR1 ?hlo ?hhi ?_); (case hlo => omega); (case hhi => omega))
  | ((with_reducible refine g_exR2 ?hb ?_); (case hb => omega))
  | with_reducible refine g_lst ?_ | with_reducible refine g_tup ?_ | with_reducible refine g_call ?_ | with_reducible refine g_BM ?_ | with_reducible refine g_BM0 ?_
  | with_reducible refine g_intB ?_ | with_reducible refine g_lc ?_ | with_reducible refine g_yes ?_ | with_reducible refine g_iZip ?_ | with_reducible refine g_sl ?_ | with_reducible refine g_noP ?_ | with_reducible refine g_part ?_ | with_reducible refine g_gcons ?_ | with_reducible refine g_gnil ?_
  | with_reducible refine g_tfld ?_ | with_reducible refine g_tmeth ?_ | with_reducible refine g_tmake ?_ | with_reducible refine g_sfld ?_ | with_reducible refine g_tprop ?_ | with_reducible refine g_tstar ?_ | with_reducible refine g_tmethK ?_ | with_reducible refine g_isN1 ?_ | with_reducible refine g_notN1 ?_ | with_reducible refine g_callK0 ?_ | with_reducible refine g_m1 ?_ | with_reducible refine g_isstr ?_ | with_reducible refine g_iStr ?_ | with_reducible refine g_exS ?_ | with_reducible refine g_iEnum ?_))
local macro_rules | `(tactic| walk_at "gs1") => `(tactic| (first
  | with_reducible refine g_seq ?_ | with_reducible refine g_asg ?_ | ((with_reducible show tVar _ _ _ _); refine g_var rfl ?_) | with_reducible refine g_c ?_ | with_reducible refine g_name ?_ | with_reducible refine g_op ?_ | with_reducible refine g_I0 ?_
  | with_reducible refine g_cons ?_ | with_reducible refine g_nil ?_ | with_reducible refine g_exbl ?_ | with_reducible refine g_exint ?_ | with_reducible refine g_test ?_ | with_reducible refine g_B ?_ | with_reducible refine g_ifS ?_ | with_reducible refine g_retN ?_ | with_reducible refine g_next ?_
  | with_reducible refine g_CB ?_ | with_reducible refine g_sub ?_ | with_reducible refine g_drop ?_ | with_reducible refine g_not ?_ | with_reducible refine g_and ?_ | with_reducible refine g_or ?_ | with_reducible refine g_andV ?_ | with_reducible refine g_orV ?_ | with_reducible refine g_notV ?_ | with_reducible refine g_ifE ?_ | with_reducible refine g_isN ?_
  | with_reducible refine g_par ?_ | with_reducible refine g_expar ?_ | with_reducible refine g_chain ?_ | with_reducible refine g_un ?_ | with_reducible refine g_U ?_ | with_reducible refine g_bits ?_ | ((with_reducible show rEq _ _ _ _); refine g_eq rfl ?_) | ((with_reducible show rNe _ _ _ _); refine g_ne rfl ?_)
  | with_reducible refine g_for ?_ | with_reducible refine g_iRng1 ?_ | with_reducible refine g_iRng2 ?_ | with_reducible refine g_iList ?_ | with_reducible refine g_iTup ?_
  | ((with_reducible refine g_Imul ?hc ?_); (case hc => (first | (refine Or.inl ⟨?_, ?_⟩ <;> first | decide | omega) | (refine Or.inr ⟨?_, ?_⟩ <;> first | decide | omega))))
  | ((with_reducible refine g_Idiv ?hc ?_); (case hc => (first | (exact ⟨by decide, by decide⟩) | assumption)))
  | ((with_reducible refine g_Imod ?hc ?_); (case hc => (first | assumption | omega | decide)))
  | ((with_reducible refine g_exR1 ?hlo ?hhi ?_); (case hlo => omega); (case hhi => omega))
  | ((with_reducible refine g_exR2 ?hb ?_); (case hb => omega))
  | with_reducible refine g_lst ?_ | with_reducible refine g_tup ?_ | with_reducible refine g_call ?_ | with_reducible refine g_BM ?_ | with_reducible refine g_BM0 ?_
  | with_reducible refine g_intB ?_ | with_reducible refine g_lc ?_ | with_reducible refine g_yes ?_ | with_reducible refine g_iZip ?_ | with_reducible refine g_sl ?_ | with_reducible refine g_noP ?_ | with_reducible refine g_part ?_ | with_reducible refine g_gcons ?_ | with_reducible refine g_gnil ?_
  | with_reducible refine g_tfld ?_ | with_reducible refine g_tmeth ?_ | with_reducible refine g_tmake ?_ | with_reducible refine g_sfld ?_ | with_reducible refine g_tprop ?_ | with_reducible refine g_tstar ?_ | with_reducible refine g_tmethK ?_ | with_reducible refine g_isN1 ?_ | with_reducible refine g_notN1 ?_ | with_reducible refine g_callK0 ?_ | with_reducible refine g_m1 ?_ | with_reducible refine g_isstr ?_ | with_reducible refine g_iStr ?_ | with_reducible refine g_exS ?_ | with_reducible refine g_iEnum ?_))
local macro_rules | `(tactic| walk_at "gx1") => `(tactic| (first
  | with_reducible refine g_seq ?_ | with_reducible refine g_asg ?_ | ((with_reducible show tVar _ _ _ _); refine g_var rfl ?_) | with_reducible refine g_c ?_ | with_reducible refine g_name ?_ | with_reducible refine g_op ?_ | with_reducible refine g_I0 ?_
  | with_reducible refine g_cons ?_ | with_reducible refine g_nil ?_ | with_reducible refine g_exbl ?_ | with_reducible refine g_exint ?_ | with_reducible refine g_test ?_ | with_reducible refine g_B ?_ | with_reducible refine g_ifS ?_ | with_reducible refine g_retN ?_ | with_reducible refine g_next ?_
  | with_reducible refine g_CB ?_ | with_reducible refine g_sub ?_ | with_reducible refine g_drop ?_ | with_reducible refine g_not ?_ | with_reducible refine g_and ?_ | with_reducible refine g_or ?_ | with_reducible refine g_andV ?_ | with_reducible refine g_orV ?_ | with_reducible refine g_notV ?_ | with_reducible refine g_ret ?_ | with_reducible refine g_isN ?_
  | with_reducible refine g_par ?_ | with_reducible refine g_expar ?_ | with_reducible refine g_chain ?_ | with_reducible refine g_un ?_ | with_reducible refine g_U ?_ | with_reducible refine g_bits ?_ | ((with_reducible show rEq _ _ _ _); refine g_eq rfl ?_) | ((with_reducible show rNe _ _ _ _); refine g_ne rfl ?_)
  | with_reducible refine g_for ?_ | with_reducible refine g_iRng1 ?_ | with_reducible refine g_iRng2 ?_ | with_reducible refine g_iList ?_ | with_reducible refine g_iTup ?_
  | ((with_reducible refine g_Imul ?hc ?_); (case hc => (first | (refine Or.inl ⟨?_, ?_⟩ <;> first | decide | omega) | (refine Or.inr ⟨?_, ?_⟩ <;> first | decide | omega))))
  | ((with_reducible refine g_Idiv ?hc ?_); (case hc => (first | (exact ⟨by decide, by decide⟩) | assumption)))
  | ((with_reducible refine g_Imod ?hc ?_); (case hc => (first | assumption | omega | decide)))
  | ((with_reducible refine g_exR1 ?hlo ?hhi ?_); (case hlo => omega); (case hhi => omega))
  | ((with_reducible refine g_exR2 ?hb ?_); (case hb => omega))
  | with_reducible refine g_lst ?_ | with_reducible refine g_tup ?_ | with_reducible refine g_call ?_ | with_reducible refine g_BM ?_ | with_reducible refine g_BM0 ?_
  | with_reducible refine g_intB ?_ | with_reducible refine g_lc ?_ | with_reducible refine g_yes ?_ | with_reducible refine g_iZip ?_ | with_reducible refine g_sl ?_ | with_reducible refine g_noP ?_ | with_reducible refine g_part ?_ | with_reducible refine g_gcons ?_ | with_reducible refine g_gnil ?_
  | with_reducible refine g_tfld ?_ | with_reducible refine g_tmeth ?_ | with_reducible refine g_tmake ?_ | with_reducible refine g_sfld ?_ | with_reducible refine g_tprop ?_ | with_reducible refine g_tstar ?_ | with_reducible refine g_tmethK ?_ | with_reducible refine g_isN1 ?_ | with_reducible refine g_notN1 ?_ | with_reducible refine g_callK0 ?_ | with_reducible refine g_m1 ?_ | with_reducible refine g_isstr ?_ | with_reducible refine g_iStr ?_ | with_reducible refine g_exS ?_ | with_reducible refine g_iEnum ?_))
local macro_rules | `(tactic| walk_at "hp") => `(tactic| (first | assumption | exact upd_same | (refine same_get (by assumption) ?_; walk_at "hp")))
local macro_rules | `(tactic| walk_at "sm") => `(tactic| (first | assumption | exact Same.refl _ | (refine Same.trans ?ha (by assumption); walk_at "sm")))
local macro_rules | `(tactic| walk_at "nn") => `(tactic| (first | assumption | (refine same_free (by assumption) ?_; walk_at "nn")))
local macro_rules | `(tactic| walk_at "sb") => `(tactic| (first | decide | (refine small_bits ?_ ?_ <;> omega)))
local macro_rules | `(tactic| walk_at "ln") => `(tactic| (simp only [List.length_cons, List.length_nil]; omega))
local macro_rules | `(tactic| walk_at "gg") => `(tactic| (repeat walk_at "g"))
local macro_rules | `(tactic| walk_at "gs") => `(tactic| (repeat walk_at "gs1"))
local macro_rules | `(tactic| walk_at "gx") => `(tactic| (repeat walk_at "gx1"))

local macro_rules | `(tactic| walk_at "g") => `(tactic| (first | with_reducible refine g_ownE ?_ | with_reducible refine g_cX ?_ | with_reducible refine g_cKX ?_))
section
variable {P : Program} {w : World} {K : PySem.W.Frag} {mg : Str → Option Value} {base : Heap} {X : Cx} {H : Hp}
/-- arguments that are refused -/
def spRefused (K : PySem.W.Frag) (CE CR : Addr) : Sp := fun vs H Q E => ∃ (x y z : V) (k r p : Option (List PyData)), vs = [x, y, z] ∧ Th K H x k ∧ Th K H y r ∧ Th K H z p ∧ chk k r p ≠ 0 ∧
  (chk k r p = 1 → ∀ H', Same H H' → E (.ref CE) none H') ∧ (chk k r p = 2 → ∀ H', Same H H' → E (.ref CR) none H')
abbrev s_fewest_spacers : Stmt := top 18
abbrev N_fewest_spacers : List Str := ["keys", "ranges", "puts"]
theorem sc_fewest_spacers : FnScope N_fewest_spacers ["keys", "ranges", "puts"] (defScope s_fewest_spacers) := ⟨rfl, rfl, rfl, by decide +kernel, rfl, by decide +kernel, by decide +kernel⟩

abbrev s_separate : Stmt := top 19
abbrev N_separate : List Str := ["keys", "ranges", "puts"]
theorem sc_separate : FnScope N_separate ["keys", "ranges", "puts"] (defScope s_separate) := ⟨rfl, rfl, rfl, by decide +kernel, rfl, by decide +kernel, by decide +kernel⟩

def hitsS (rows : List Wr) (ns : List Int) : Bool := rows.all fun r => ns.any fun n => decide (r.q.1 ≤ n ∧ n ≤ r.q.2)
/-- does the thing show spacers? -/
def showS (ks : List Int) (rs : List Pr) (ps : List Int) : Option (List PyData) → Bool
  | none => false
  | some ds => ds.all isIntD && (upI (ds.map intD) && (!((ds.map intD).any fun n => decide (n ∈ ps)) && hitsS (wishRows ks rs ps) (ds.map intD)))
def spShowS (K : PySem.W.Frag) (CE CR : Addr) : Sp := fun vs H Q E => ∃ (x y z t : V) (k r p o : Option (List PyData)), vs = [x, y, z, t] ∧ Th K H x k ∧ Th K H y r ∧ Th K H z p ∧ Th K H t o ∧
  (chk k r p = 0 → ∀ H', Same H H' → Q (.bl (showS (kI k) (rP r) (kI p) o)) H') ∧ (chk k r p = 1 → ∀ H', Same H H' → E (.ref CE) none H') ∧ (chk k r p = 2 → ∀ H', Same H H' → E (.ref CR) none H')
abbrev s_shows_spacers : Stmt := top 20
abbrev N_shows_spacers : List Str := ["keys", "ranges", "puts", "thing", "rows", "one", "index", "place", "first", "last"]
theorem sc_shows_spacers : FnScope N_shows_spacers ["keys", "ranges", "puts", "thing"] (defScope s_shows_spacers) := ⟨rfl, rfl, rfl, by decide +kernel, rfl, by decide +kernel, by decide +kernel⟩

theorem ok_showS {f CE CR : Addr} {fd : FuncData} (D : Dn K mg "shows_spacers" s_shows_spacers ["keys", "ranges", "puts", "thing"] f fd) (T : Bt mg) (c_check_all : CalXN P w K mg base 3 "check_all" (spCheck K CE CR)) (c_wished_rows : Cal P w K mg base 2 "wished_rows" (spWishRows K) [])
    (c_is_whole : Cal P w K mg base 1 "is_whole" (spWhole K) []) (c_is_rising : Cal P w K mg base 1 "is_rising" (spRising Int K) []) : FnOk P w K mg base (L2N.CX P w) 4 f fd ["keys", "ranges", "puts", "thing"] (spShowS K CE CR) := by
  refine okXN D.fn sc_shows_spacers (fun vs H Q E h => ?_) (fun cdv A outer s H vs Q E hr h => ?_)
  · obtain ⟨x, y, z, t, k, r, p, o, rfl, _⟩ := h
    rfl
  · obtain ⟨x, y, z, t, k, r, p, o, rfl, hx, hy, hz, ht, k0, k1, k2⟩ := h
    refine ⟨_, (pss_cons (ps_expr (pe_cXN (E := WE (fun cls d _ H => E cls d H)) c_check_all hr (by decide) (by rfl) (fun σ => L2N.passAt (L2N.takes_of rfl rfl rfl rfl) σ) (pa_cons (pv 0) (pa_cons (pv 1) (pa_cons (pv 2) pa_nil)))))
    (pss_cons (ps_if (PW.pt (pw_or (pt_not (pt_val (pe_callB call_isi (by rfl) T.n_isinstance bt_isinstance (pa_cons (pv 3) (pa_cons (pe_bltn (v := .ty "list") (by rfl) T.n_list bt_list rfl) pa_nil))))) (pw_or (pt_not (pt_val (pe_callB (cr_all rfl) (by rfl) T.n_all bt_all (pa_cons (pe_lc (own := [("one", 5)]) (g := gName 5) (tt := tYes) rfl sc_shows_spacers.nd (pi_list (pv 3)) (blkOk_by (own := [("one", 5)]) (N := N_shows_spacers) (sc := defScope s_shows_spacers) (by decide +kernel)) (fun _ _ _ _ _ => pg_name (i := 5) sc_shows_spacers.nd rfl (Or.inl rfl)) (fun _ _ _ _ _ => pts_nil) (fun _ _ _ _ _ => (pe_c c_is_whole hr (by decide) (by rfl) (pa_cons (pv 5) pa_nil)))) pa_nil)))) (pw_or1 (pt_not (pt_val (pe_c c_is_rising hr (by decide) (by rfl) (pa_cons (pv 3) pa_nil)))))))) (pss_one (ps_ret pe_bl)) pss_nil)
    (pss_cons (ps_if (pt_val (pe_callB (cr_any rfl) (by rfl) T.n_any bt_any (pa_cons (pe_lc (own := [("one", 5)]) (g := gName 5) (tt := tYes) rfl sc_shows_spacers.nd (pi_list (pv 3)) (blkOk_by (own := [("one", 5)]) (N := N_shows_spacers) (sc := defScope s_shows_spacers) (by decide +kernel)) (fun _ _ _ _ _ => pg_name (i := 5) sc_shows_spacers.nd rfl (Or.inl rfl)) (fun _ _ _ _ _ => pts_nil) (fun _ _ _ _ _ => (pe_cmpR (show OpR _ (compareOp .In) (rIn K false) from op_in_seq) (pv 5) (pv 2) (by rfl)))) pa_nil))) (pss_one (ps_ret pe_bl)) pss_nil)
    (pss_cons (ps_set (i := 4) sc_shows_spacers.nd rfl (Or.inl rfl) (pe_c c_wished_rows hr (by decide) (by rfl) (pa_cons (pv 0) (pa_cons (pv 1) (pa_cons (pv 2) pa_nil)))))
    (pss_one (ps_ret (pe_callB (cr_all rfl) (by rfl) T.n_all bt_all (pa_cons (pe_lc (own := [("index", 6), ("place", 7), ("first", 8), ("last", 9)]) (g := gTup K 3 (gCons (gName 6) (gCons (gName 7) (gCons (gTup K 2 (gCons (gName 8) (gCons (gName 9) gNil))) gNil)))) (tt := tYes) (te := tCB (rAny K) (tCons (tLc (iList K (tVar 3)) (gName 5) tYes (tChain (rI0 fun i j => V.bl (decide (i ≤ j))) (rI0 fun i j => V.bl (decide (i ≤ j))) (tVar 8) (tVar 5) (tVar 9)) [5]) tNil)) rfl sc_shows_spacers.nd (pi_list (pv 4)) (blkOk_by (own := [("index", 6), ("place", 7), ("first", 8), ("last", 9)]) (N := N_shows_spacers) (sc := defScope s_shows_spacers) (by decide +kernel)) (fun _ _ _ _ _ => (pg_tup (by rfl) (pgs_cons (pg_name (i := 6) sc_shows_spacers.nd rfl (Or.inl rfl)) (pgs_cons (pg_name (i := 7) sc_shows_spacers.nd rfl (Or.inl rfl)) (pgs_cons (pg_tup (by rfl) (pgs_cons (pg_name (i := 8) sc_shows_spacers.nd rfl (Or.inr rfl)) (pgs_cons (pg_name (i := 9) sc_shows_spacers.nd rfl (Or.inr rfl)) pgs_nil))) pgs_nil))))) (fun _ _ _ _ _ => pts_nil) (fun _ _ _ _ _ => (pe_callB (cr_any rfl) (by rfl) T.n_any bt_any (pa_cons (pe_lc (own := [("one", 5)]) (g := gName 5) (tt := tYes) rfl sc_shows_spacers.nd (pi_list (pv 3)) (blkOk_by (own := [("one", 5)]) (N := N_shows_spacers) (sc := relS _ (defScope s_shows_spacers)) (by decide +kernel)) (fun _ _ _ _ _ => pg_name (i := 5) sc_shows_spacers.nd rfl (Or.inl rfl)) (fun _ _ _ _ _ => pts_nil) (fun _ _ _ _ _ => (pe_chain op_le op_le (pv 8) (pv 5) (pv 9)))) pa_nil)))) pa_nil)))))))), ?_⟩
    walk_at "gg"
    refine ⟨x, y, z, k, r, p, rfl, hx, hy, hz, fun c0 H1 S1 => ?_, fun c1 H1 S1 => k1 c1 H1 S1, fun c2 H1 S1 => k2 c2 H1 S1⟩
    obtain ⟨a, b, c, rfl, rfl, rfl, ha, hb, hc, lk, lr, lp⟩ := th_good hx hy hz c0
    walk_at "gg"
    cases ht with
    | no hn =>
      obtain ⟨t0, ty, _, no⟩ := hn
      refine g_isi (.ty "list") (tyX_same S1 ty) no ⟨_, rfl, ?_⟩
      refine g_ifT rfl ?_
      refine g_ifT rfl ?_
      exact k0 c0 _ S1
    | @lst d xs ds e h l =>
      refine g_isi (.ty "list") (.base (.lst (S1 _ _ e))) (b := true) (kit_ty (by decide +kernel)) ⟨_, rfl, ?_⟩
      refine g_ifF rfl ?_
      have lnx := dpAll_len h
      walk_at "gg"
      refine g_exL (SqL.of (S1 _ _ e)) ?_
      refine lc_map (src_list (SqL.of (S1 _ _ e))) (by omega) (fun i y => ∃ b, (ds.map isIntD)[i]? = some b ∧ y = V.bl b) (fun i x H' Nx hi S it kx => ?_) fun D1 acc H2 n2 S2 e2 hl2 hacc => ?_
      · obtain ⟨d, hd, hx⟩ := thAll_get h it
        walk_at "gg"
        refine ⟨rfl, ?_⟩
        walk_at "gg"
        exact ⟨x, _, rfl, whole_same (S1.trans S) (whole_dp hx), kx _ _ (Same.refl _) ⟨_, by rw [List.getElem?_map, hd]; rfl, rfl⟩⟩
      have ea := bls (by rw [List.length_map]; omega) hacc
      rw [ea] at e2
      have S02 := S1.trans S2
      walk_at "gg"
      refine g_all (SqL.of e2) ?_
      rw [List.all_map]
      walk_at "gg"
      have kr : ∀ b : Bool, showS (kI k) (rP r) (kI p) (some ds) = b → ∀ H', Same H H' → Q (.bl b) H' := fun b e => by
        rw [← e]
        exact k0 c0
      cases b1 : ds.all (id ∘ isIntD) with
      | false =>
        refine g_ifT rfl ?_
        walk_at "gg"
        exact kr false (by
          dsimp only [showS]
          rw [show ds.all isIntD = false from b1]
          rfl) _ S02
      | true =>
        refine g_ifF rfl ?_
        have b1' : ds.all isIntD = true := b1
        have pt : PtsL K H d (ds.map intD) := ⟨xs, e, th_ints h b1'⟩
        walk_at "gg"
        refine ⟨d, ds.map intD, rfl, pt.same S02, by rw [List.length_map]; omega, fun H3 S3 => ⟨_, rfl, ?_⟩⟩
        have S03 := S02.trans S3
        cases b2 : (List.zipWith (Kd.lt (α := Int)) (ds.map intD) ((ds.map intD).drop 1)).all id with
        | false =>
          refine g_ifT rfl ?_
          walk_at "gg"
          exact kr false (by
            dsimp only [showS, upI]
            rw [b1', b2]
            rfl) _ S03
        | true =>
          refine g_ifF rfl ?_
          have it3 := ptsI_of (pt.same S03)
          walk_at "gg"
          refine g_exL (SqL.of it3) ?_
          refine lc_map (src_list (SqL.of it3)) (by rw [List.length_map, List.length_map]; omega) (fun i y => ∃ b, ((ds.map intD).map fun n => decide (n ∈ kI p))[i]? = some b ∧ y = V.bl b) (fun i x H' Nx hi S it kx => ?_) fun D1 acc H5 n5 S5 e5 hl5 hacc => ?_
          · obtain ⟨n, hn, rfl⟩ := int_at it
            walk_at "gg"
            refine ⟨rfl, ?_⟩
            walk_at "gg"
            refine g_inI (SqL.of ((S03.trans S) _ _ hc)) ?_
            exact kx _ _ (Same.refl _) ⟨_, by rw [List.getElem?_map, hn]; rfl, rfl⟩
          have ea := bls (by rw [List.length_map]; rw [List.length_map] at hl5; exact hl5) hacc
          rw [ea] at e5
          have S05 := S03.trans S5
          walk_at "gg"
          refine g_any (SqL.of e5) ?_
          rw [List.any_map]
          walk_at "gg"
          cases b3 : (ds.map intD).any (id ∘ fun n => decide (n ∈ kI p)) with
          | true =>
            refine g_ifT rfl ?_
            walk_at "gg"
            exact kr false (by
              dsimp only [showS, upI]
              rw [b1', b2, show (ds.map intD).any (fun n => decide (n ∈ kI p)) = true from b3]
              rfl) _ S05
          | false =>
            refine g_ifF rfl ?_
            walk_at "gg"
            refine ⟨a, b, c, _, _, _, rfl, S05 _ _ ha, hb.same S05, S05 _ _ hc, by omega, lr, lp, fun q H6 n6 S6 e6 => ?_⟩
            have S06 := S05.trans S6
            obtain ⟨ws, ew, dw⟩ := e6
            have lnw : ws.length = (wishRows (kI k) (rP r) (kI p)).length := by rw [dpAll_len dw, List.length_map]
            have wl := wish_len (ks := kI k) lr lp
            walk_at "gg"
            have es : List.set (L2.start N_shows_spacers [V.ref a, V.ref b, V.ref c, V.ref d]) 4 (some (V.ref q)) = [some (V.ref a), some (V.ref b), some (V.ref c), some (V.ref d), some (V.ref q), none, none, none, none, none] := rfl
            rw [es]
            refine g_exL (SqL.of ew) ?_
            refine lc_map (src_list (SqL.of ew)) (by omega) (fun i y => ∃ b, ((wishRows (kI k) (rP r) (kI p)).map fun w => (ds.map intD).any fun n => decide (w.q.1 ≤ n ∧ n ≤ w.q.2))[i]? = some b ∧ y = V.bl b) (fun i x H' Nx hi S it kx => ?_) fun D1 acc H7 n7 S7 e7 hl7 hacc => ?_
            · obtain ⟨q1, hq, dq⟩ := datas_at dw it
              have dq : Dp K H6 x (wrD q1) := dq
              obtain ⟨t0, v1, v2, v3, rfl, h0, d1, d2, d3⟩ := dp_three dq
              obtain ⟨t3, rfl, h3⟩ := pr_at d3
              refine g_gtup (same_sqT S h0) rfl ?_
              walk_at "gg"
              refine g_gtup (same_sqT S h3) rfl ?_
              walk_at "gg"
              refine ⟨rfl, ?_⟩
              walk_at "gg"
              have S0i := S06.trans S
              have iti := ptsI_of (pt.same S0i)
              refine g_exL (SqL.of iti) ?_
              refine lc_map (src_list (SqL.of iti)) (by rw [List.length_map, List.length_map]; omega) (fun i y => ∃ b, ((ds.map intD).map fun n => decide (q1.q.1 ≤ n ∧ n ≤ q1.q.2))[i]? = some b ∧ y = V.bl b) (fun i x H' Nx hi S it kx => ?_) fun D1 acc H8 n8 S8 e8 hl8 hacc => ?_
              · obtain ⟨n, hn, rfl⟩ := int_at it
                walk_at "gg"
                refine ⟨rfl, ?_⟩
                walk_at "gg"
                have get : ((ds.map intD).map fun n => decide (q1.q.1 ≤ n ∧ n ≤ q1.q.2))[i]? = some (decide (q1.q.1 ≤ n ∧ n ≤ q1.q.2)) := by rw [List.getElem?_map, hn]; rfl
                by_cases c1 : q1.q.1 ≤ n
                · refine g_ifT (decide_eq_true c1) ?_
                  walk_at "gg"
                  refine kx _ _ (Same.refl _) ⟨_, get, ?_⟩
                  simp [c1]
                · refine g_ifF (decide_eq_false c1) ?_
                  refine kx _ _ (Same.refl _) ⟨_, get, ?_⟩
                  simp [c1]
              have ea := bls (by rw [List.length_map]; rw [List.length_map] at hl8; exact hl8) hacc
              rw [ea] at e8
              walk_at "gg"
              refine g_any (SqL.of e8) ?_
              rw [List.any_map]
              exact kx _ _ S8 ⟨_, by rw [List.getElem?_map, hq]; rfl, rfl⟩
            have ea := bls (by rw [List.length_map]; omega) hacc
            rw [ea] at e7
            walk_at "gg"
            refine g_all (SqL.of e7) ?_
            rw [List.all_map]
            exact kr _ (by
              dsimp only [showS, upI]
              rw [b1', b2, show (ds.map intD).any (fun n => decide (n ∈ kI p)) = false from b3]
              rfl) _ (S06.trans S7)
end
end Gk

/-! module gapreach.spacers: greatest_allowed, are_apart -/
namespace Gk
open PySem L2 Gx
open C8 (Cal Met Mak pe_c pe_mt pe_mt0 pe_mk pe_gc)
local macro_rules | `(tactic| walk_at "g") => `(tactic| (first
  | with_reducible refine g_seq ?_ | with_reducible refine g_asg ?_ | ((with_reducible show tVar _ _ _ _); refine g_var rfl ?_) | with_reducible refine g_c ?_ | with_reducible refine g_name ?_ | with_reducible refine g_op ?_ | with_reducible refine g_I0 ?_
  | with_reducible refine g_cons ?_ | with_reducible refine g_nil ?_ | with_reducible refine g_exbl ?_ | with_reducible refine g_exint ?_ | with_reducible refine g_test ?_ | with_reducible refine g_B ?_ | with_reducible refine g_ifS ?_ | with_reducible refine g_ret ?_ | with_reducible refine g_retN ?_ | with_reducible refine g_next ?_
  | with_reducible refine g_CB ?_ | with_reducible refine g_sub ?_ | with_reducible refine g_drop ?_ | with_reducible refine g_not ?_ | with_reducible refine g_and ?_ | with_reducible refine g_or ?_ | with_reducible refine g_andV ?_ | with_reducible refine g_orV ?_ | with_reducible refine g_notV ?_ | with_reducible refine g_ifE ?_ | with_reducible refine g_isN ?_
  | with_reducible refine g_par ?_ | with_reducible refine g_expar ?_ | with_reducible refine g_chain ?_ | with_reducible refine g_un ?_ | with_reducible refine g_U ?_ | with_reducible refine g_bits ?_ | ((with_reducible show rEq _ _ _ _); refine g_eq rfl ?_) | ((with_reducible show rNe _ _ _ _); refine g_ne rfl ?_)
  | with_reducible refine g_for ?_ | with_reducible refine g_iRng1 ?_ | with_reducible refine g_iRng2 ?_ | with_reducible refine g_iList ?_ | with_reducible refine g_iTup ?_
  | ((with_reducible refine g_Imul ?hc ?_); (case hc => (first | (refine Or.inl ⟨?_, ?_⟩ <;> first | decide | omega) | (refine Or.inr ⟨?_, ?_⟩ <;> first | decide | omega))))
  | ((with_reducible refine g_Idiv ?hc ?_); (case hc => (first | (exact ⟨by decide, by decide⟩) | assumption)))
  | ((with_reducible refine g_Imod ?hc ?_); (case hc => (first | assumption | omega | decide)))
  | ((with_reducible refine g_exR1 ?hlo ?hhi ?_); (case hlo => omega); (case hhi => omega))
  | ((with_reducible refine g_exR2 ?hb ?_); (case hb => omega))
  | with_reducible refine g_lst ?_ | with_reducible refine g_tup ?_ | with_reducible refine g_call ?_ | with_reducible refine g_BM ?_ | with_reducible refine g_BM0 ?_
  | with_reducible refine g_intB ?_ | with_reducible refine g_lc ?_ | with_reducible refine g_yes ?_ | with_reducible refine g_iZip ?_ | with_reducible refine g_sl ?_ | with_reducible refine g_noP ?_ | with_reducible refine g_part ?_ | with_reducible refine g_gcons ?_ | with_reducible refine g_gnil ?_
  | with_reducible refine g_tfld ?_ | with_reducible refine g_tmeth ?_ | with_reducible refine g_tmake ?_ | with_reducible refine g_sfld ?_ | with_reducible refine g_tprop ?_ | with_reducible refine g_tstar ?_ | with_reducible refine g_tmethK ?_ | with_reducible refine g_isN1 ?_ | with_reducible refine g_notN1 ?_ | with_reducible refine g_callK0 ?_ | with_reducible refine g_m1 ?_ | with_reducible refine g_isstr ?_ | with_reducible refine g_iStr ?_ | with_reducible refine g_exS ?_ | with_reducible refine g_iEnum ?_))
local macro_rules | `(tactic| walk_at "gs1") => `(tactic| (first
  | with_reducible refine g_seq ?_ | with_reducible refine g_asg ?_ | ((with_reducible show tVar _ _ _ _); refine g_var rfl ?_) | with_reducible refine g_c ?_ | with_reducible refine g_name ?_ | with_reducible refine g_op ?_ | with_reducible refine g_I0 ?_
  | with_reducible refine g_cons ?_ | with_reducible refine g_nil ?_ | with_reducible refine g_exbl ?_ | with_reducible refine g_exint ?_ | with_reducible refine g_test ?_ | with_reducible refine g_B ?_ | with_reducible refine g_ifS ?_ | with_reducible refine g_retN ?_ | with_reducible refine g_next ?_
  | with_reducible refine g_CB ?_ | with_reducible refine g_sub ?_ | with_reducible refine g_drop ?_ | with_reducible refine g_not ?_ | with_reducible refine g_and ?_ | with_reducible refine g_or ?_ | with_reducible refine g_andV ?_ | with_reducible refine g_orV ?_ | with_reducible refine g_notV ?_ | with_reducible refine g_ifE ?_ | with_reducible refine g_isN ?_
  | with_reducible refine g_par ?_ | with_reducible refine g_expar ?_ | with_reducible refine g_chain ?_ | with_reducible refine g_un ?_ | with_reducible refine g_U ?_ | with_reducible refine g_bits ?_ | ((with_reducible show rEq _ _ _ _); refine g_eq rfl ?_) | ((with_reducible show rNe _ _ _ _); refine g_ne rfl ?_)
  | with_reducible refine g_for ?_ | with_reducible refine g_iRng1 ?_ | with_reducible refine g_iRng2 ?_ | with_reducible refine g_iList ?_ | with_reducible refine g_iTup ?_
  | ((with_reducible refine g_Imul ?hc ?_); (case hc => (first | (refine Or.inl ⟨?_, ?_⟩ <;> first | decide | omega) | (refine Or.inr ⟨?_, ?_⟩ <;> first | decide | omega))))
  | ((with_reducible refine g_Idiv ?hc ?_); (case hc => (first | (exact ⟨by decide, by decide⟩) | assumption)))
  | ((with_reducible refine g_Imod ?hc ?_); (case hc => (first | assumption | omega | decide)))
  | ((with_reducible refine g_exR1 ?hlo ?hhi ?_); (case hlo => omega); (case hhi => omega))
  | ((with_reducible refine g_exR2 ?hb ?_); (case hb => omega))
  | with_reducible refine g_lst ?_ | with_reducible refine g_tup ?_ | with_reducible refine g_call ?_ | with_reducible refine g_BM ?_ | with_reducible refine g_BM0 ?_
  | with_reducible refine g_intB ?_ | with_reducible refine g_lc ?_ | with_reducible refine g_yes ?_ | with_reducible refine g_iZip ?_ | with_reducible refine g_sl ?_ | with_reducible refine g_noP ?_ | with_reducible refine g_part ?_ | with_reducible refine g_gcons ?_ | with_reducible refine g_gnil ?_
  | with_reducible refine g_tfld ?_ | with_reducible refine g_tmeth ?_ | with_reducible refine g_tmake ?_ | with_reducible refine g_sfld ?_ | with_reducible refine g_tprop ?_ | with_reducible refine g_tstar ?_ | with_reducible refine g_tmethK ?_ | with_reducible refine g_isN1 ?_ | with_reducible refine g_notN1 ?_ | with_reducible refine g_callK0 ?_ | with_reducible refine g_m1 ?_ | with_reducible refine g_isstr ?_ | with_reducible refine g_iStr ?_ | with_reducible refine g_exS ?_ | with_reducible refine g_iEnum ?_))
local macro_rules | `(tactic| walk_at "gx1") => `(tactic| (first
  | with_reducible refine g_seq ?_ | with_reducible refine g_asg ?_ | ((with_reducible show tVar _ _ _ _); refine g_var rfl ?_) | with_reducible refine g_c ?_ | with_reducible refine g_name ?_ | with_reducible refine g_op ?_ | with_reducible refine g_I0 ?_
  | with_reducible refine g_cons ?_ | with_reducible refine g_nil ?_ | with_reducible refine g_exbl ?_ | with_reducible refine g_exint ?_ | with_reducible refine g_test ?_ | with_reducible refine g_B ?_ | with_reducible refine g_ifS ?_ | with_reducible refine g_retN ?_ | with_reducible refine g_next ?_
  | with_reducible refine g_CB ?_ | with_reducible refine g_sub ?_ | with_reducible refine g_drop ?_ | with_reducible refine g_not ?_ | with_reducible refine g_and ?_ | with_reducible refine g_or ?_ | with_reducible refine g_andV ?_ | with_reducible refine g_orV ?_ | with_reducible refine g_notV ?_ | with_reducible refine g_ret ?_ | with_reducible refine g_isN ?_
  | with_reducible refine g_par ?_ | with_reducible refine g_expar ?_ | with_reducible refine g_chain ?_ | with_reducible refine g_un ?_ | with_reducible refine g_U ?_ | with_reducible refine g_bits ?_ | ((with_reducible show rEq _ _ _ _); refine g_eq rfl ?_) | ((with_reducible show rNe _ _ _ _); refine g_ne rfl ?_)
  | with_reducible refine g_for ?_ | with_reducible refine g_iRng1 ?_ | with_reducible refine g_iRng2 ?_ | with_reducible refine g_iList ?_ | with_reducible refine g_iTup ?_
  | ((with_reducible refine g_Imul ?hc ?_); (case hc => (first | (refine Or.inl ⟨?_, ?_⟩ <;> first | decide | omega) | (refine Or.inr ⟨?_, ?_⟩ <;> first | decide | omega))))
  | ((with_reducible refine g_Idiv ?hc ?_); (case hc => (first | (exact ⟨by decide, by decide⟩) | assumption)))
  | ((with_reducible refine g_Imod ?hc ?_); (case hc => (first | assumption | omega | decide)))
  | ((with_reducible refine g_exR1 ?hlo ?hhi ?_); (case hlo => omega); (case hhi => omega))
  | ((with_reducible refine g_exR2 ?hb ?_); (case hb => omega))
  | with_reducible refine g_lst ?_ | with_reducible refine g_tup ?_ | with_reducible refine g_call ?_ | with_reducible refine g_BM ?_ | with_reducible refine g_BM0 ?_
  | with_reducible refine g_intB ?_ | with_reducible refine g_lc ?_ | with_reducible refine g_yes ?_ | with_reducible refine g_iZip ?_ | with_reducible refine g_sl ?_ | with_reducible refine g_noP ?_ | with_reducible refine g_part ?_ | with_reducible refine g_gcons ?_ | with_reducible refine g_gnil ?_
  | with_reducible refine g_tfld ?_ | with_reducible refine g_tmeth ?_ | with_reducible refine g_tmake ?_ | with_reducible refine g_sfld ?_ | with_reducible refine g_tprop ?_ | with_reducible refine g_tstar ?_ | with_reducible refine g_tmethK ?_ | with_reducible refine g_isN1 ?_ | with_reducible refine g_notN1 ?_ | with_reducible refine g_callK0 ?_ | with_reducible refine g_m1 ?_ | with_reducible refine g_isstr ?_ | with_reducible refine g_iStr ?_ | with_reducible refine g_exS ?_ | with_reducible refine g_iEnum ?_))
local macro_rules | `(tactic| walk_at "hp") => `(tactic| (first | assumption | exact upd_same | (refine same_get (by assumption) ?_; walk_at "hp")))
local macro_rules | `(tactic| walk_at "sm") => `(tactic| (first | assumption | exact Same.refl _ | (refine Same.trans ?ha (by assumption); walk_at "sm")))
local macro_rules | `(tactic| walk_at "nn") => `(tactic| (first | assumption | (refine same_free (by assumption) ?_; walk_at "nn")))
local macro_rules | `(tactic| walk_at "sb") => `(tactic| (first | decide | (refine small_bits ?_ ?_ <;> omega)))
local macro_rules | `(tactic| walk_at "ln") => `(tactic| (simp only [List.length_cons, List.length_nil]; omega))
local macro_rules | `(tactic| walk_at "gg") => `(tactic| (repeat walk_at "g"))
local macro_rules | `(tactic| walk_at "gs") => `(tactic| (repeat walk_at "gs1"))
local macro_rules | `(tactic| walk_at "gx") => `(tactic| (repeat walk_at "gx1"))

/-- the greatest number from b down to a that is not in ps: n steps at most -/
def greatN (ps : List Int) (a b : Int) : Nat → Option Int
  | 0 => none
  | n + 1 => if a ≤ b then (if b ∈ ps then greatN ps a (b - 1) n else some b) else none
/-- .. at most ps.length + 1 steps are gone -/
def greatI (ps : List Int) (a b : Int) : Option Int := greatN ps a b (b - a + 1).toNat
def oI : Option Int → PyData
  | none => .none
  | some n => .int n
theorem greatN_end {ps : List Int} {a b : Int} (h : ¬ a ≤ b) : ∀ n, greatN ps a b n = none
  | 0 => rfl
  | n + 1 => if_neg h
theorem great_step {ps : List Int} {a b : Int} (h : a ≤ b) : greatI ps a b = if b ∈ ps then greatI ps a (b - 1) else some b := by
  unfold greatI
  have e : (b - a + 1).toNat = (b - 1 - a + 1).toNat + 1 := by omega
  rw [e]
  show (if a ≤ b then _ else _) = _
  rw [if_pos h]
theorem great_end {ps : List Int} {a b : Int} (h : ¬ a ≤ b) : greatI ps a b = none := greatN_end h _
def spGreat (K : PySem.W.Frag) : Sp := fun vs H Q _ => ∃ (t c : Addr) (a b : Int) (ps : List Int), vs = [.ref t, .ref c] ∧ SqT K H t [.int a, .int b] ∧ H c = some (.lst (ps.map V.int)) ∧ ps.length ≤ 1000 ∧ ∀ v, Dp K H v (oI (greatI ps a b)) → Q v H
section
variable {P : Program} {w : World} {K : PySem.W.Frag} {mg : Str → Option Value} {base : Heap} {X : Cx} {H : Hp}
abbrev s_greatest_allowed : Stmt := top 15
abbrev N_greatest_allowed : List Str := ["interval", "puts", "number"]
theorem sc_greatest_allowed : FnScope N_greatest_allowed ["interval", "puts"] (defScope s_greatest_allowed) := ⟨rfl, rfl, rfl, by decide +kernel, rfl, by decide +kernel, by decide +kernel⟩

theorem ok_great {f : Addr} {fd : FuncData} (D : Dn K mg "greatest_allowed" s_greatest_allowed ["interval", "puts"] f fd) : Cal P w K mg base 1 "greatest_allowed" (spGreat K) [] := by
  refine cal_of D (D.fn.ok sc_greatest_allowed (fun vs H Q E h => ?_) (fun cdv A outer s H vs Q E hr h => ?_))
  · obtain ⟨t, c, a, b, ps, rfl, _⟩ := h
    rfl
  · obtain ⟨t, c, a, b, ps, rfl, ht, hc, lp, k⟩ := h
    refine ⟨_, (pss_cons (ps_set (i := 2) sc_greatest_allowed.nd rfl (Or.inl rfl) (pe_ix ix_tup (pv 0) pe_int (fun _ _ => rfl)))
    (pss_cons (ps_while PassesOwn.never (pt_cmpR op_ge (pv 2) (pe_ix ix_tup (pv 0) pe_int (fun _ _ => rfl)) (nomark _)) (pss_cons (ps_if (pt_cmpR op_notIn_seq (pv 2) (pv 1) (by rfl)) (pss_one (ps_ret (pv 2))) pss_nil)
    (pss_one (ps_aug (i := 2) sc_greatest_allowed.nd rfl (Or.inl rfl) pe_int ip_sub))))
    (pss_one (ps_ret pe_non)))), ?_⟩
    walk_at "gg"
    refine g_ix2 ht rfl ?_
    with_reducible refine g_name ?_
    with_reducible refine g_seq ?_
    refine g_while (fun m σ H' => ∃ n : Int, σ = [some (.ref t), some (.ref c), some (.int n)] ∧ H' = H ∧ greatI ps a n = greatI ps a b ∧ m = (n - a + 1).toNat) _ ⟨b, rfl, rfl, rfl, rfl⟩ ?_
    rintro m σ H' ⟨n, rfl, rfl, eg, rfl⟩
    walk_at "gg"
    refine g_ix2 ht rfl ?_
    walk_at "gg"
    by_cases c1 : a ≤ n
    · refine g_ifT (decide_eq_true c1) ?_
      rw [great_step c1] at eg
      refine ⟨fun σ' H'' => σ' = [some (.ref t), some (.ref c), some (.int (n - 1))] ∧ H'' = H' ∧ greatI ps a (n - 1) = greatI ps a b, fun σ' H'' ⟨e1, e2, e3⟩ => ⟨_, ?_, n - 1, e1, e2, e3, rfl⟩, ?_⟩
      · omega
      · walk_at "gg"
        refine g_notInI (SqL.of hc) ?_
        walk_at "gg"
        by_cases c2 : n ∈ ps
        · rw [if_pos c2] at eg
          refine g_iteNF c2 ?_
          walk_at "gg"
          exact ⟨_, rfl, _, _, rfl, rfl, rfl, rfl, eg⟩
        · rw [if_neg c2] at eg
          refine g_iteNT c2 ?_
          walk_at "gg"
          refine k _ ?_
          rw [← eg]
          exact .int n
    · refine g_ifF (decide_eq_false c1) ?_
      rw [great_end c1] at eg
      walk_at "gg"
      refine k _ ?_
      rw [← eg]
      exact .non
/-- do two intervals share no number that may be taken? -/
def apartI (ps : List Int) (p q : Pr) : Bool := (greatI ps (max p.1 q.1) (min p.2 q.2)).isNone
def spApart (K : PySem.W.Frag) : Sp := fun vs H Q _ => ∃ (t u c : Addr) (p q : Pr) (ps : List Int), vs = [.ref t, .ref u, .ref c] ∧ SqT K H t [.int p.1, .int p.2] ∧ SqT K H u [.int q.1, .int q.2] ∧ H c = some (.lst (ps.map V.int)) ∧ ps.length ≤ 1000 ∧ ∀ H', Same H H' → Q (.bl (apartI ps p q)) H'
abbrev s_are_apart : Stmt := top 21
abbrev N_are_apart : List Str := ["one", "other", "puts"]
theorem sc_are_apart : FnScope N_are_apart ["one", "other", "puts"] (defScope s_are_apart) := ⟨rfl, rfl, rfl, by decide +kernel, rfl, by decide +kernel, by decide +kernel⟩

theorem ok_apart {f : Addr} {fd : FuncData} (D : Dn K mg "are_apart" s_are_apart ["one", "other", "puts"] f fd) (T : Bt mg) (c_greatest_allowed : Cal P w K mg base 1 "greatest_allowed" (spGreat K) []) : Cal P w K mg base 2 "are_apart" (spApart K) [] := by
  refine cal_of D (D.fn.ok sc_are_apart (fun vs H Q E h => ?_) (fun cdv A outer s H vs Q E hr h => ?_))
  · obtain ⟨t, u, c, p, q, ps, rfl, _⟩ := h
    rfl
  · obtain ⟨t, u, c, p, q, ps, rfl, ht, hu, hc, lp, k⟩ := h
    refine ⟨_, (pss_one (ps_ret (pe_cmpR op_isN1 (pe_c c_greatest_allowed hr (by decide) (by rfl) (pa_cons (pe_tup (pa_cons (pe_callB (cr_maxQ rfl) (by rfl) T.n_max bt_max (pa_cons (pe_ix ix_tup (pv 0) pe_int (fun _ _ => rfl)) (pa_cons (pe_ix ix_tup (pv 1) pe_int (fun _ _ => rfl)) pa_nil))) (pa_cons (pe_callB (cr_minQ rfl) (by rfl) T.n_min bt_min (pa_cons (pe_ix ix_tup (pv 0) pe_int (fun _ _ => rfl)) (pa_cons (pe_ix ix_tup (pv 1) pe_int (fun _ _ => rfl)) pa_nil))) pa_nil))) (pa_cons (pv 2) pa_nil))) pe_non (nomark _)))), ?_⟩
    walk_at "gg"
    refine g_ix2 ht rfl ?_
    walk_at "gg"
    refine g_ix2 hu rfl ?_
    walk_at "gg"
    refine g_max2 fun lo l1 l2 l3 => ?_
    have el : lo = max p.1 q.1 := by omega
    walk_at "gg"
    refine g_ix2 ht rfl ?_
    walk_at "gg"
    refine g_ix2 hu rfl ?_
    walk_at "gg"
    refine g_min2 fun hi h1 h2 h3 => ?_
    have eh : hi = min p.2 q.2 := by omega
    walk_at "gg"
    refine g_mkT (by walk_at "ln") fun t4 H1 n1 S1 e1 => ?_
    walk_at "gg"
    refine ⟨t4, c, lo, hi, ps, rfl, SqT.of e1, S1 _ _ hc, lp, fun v dv => ?_⟩
    rw [el, eh] at dv
    have k := k _ S1
    unfold apartI at k
    generalize greatI ps (max p.1 q.1) (min p.2 q.2) = o at dv k
    walk_at "gg"
    cases o with
    | none =>
      cases dv
      show Q (V.bl (decide (V.non = V.non))) H1
      rw [decide_eq_true rfl]
      exact k
    | some n =>
      cases dv
      show Q (V.bl (decide (V.int n = V.non))) H1
      rw [decide_eq_false (by intro z; cases z)]
      exact k
end
end Gk

/-! comprehensions with two fors -/
namespace Gx
open PySem L2
/-- the turns of the second for -/
def In2 (g1 : TG) (tt1 : TT) (te : TE) (vs1 : List Nat) (D : Addr) (Nx : Hp → Prop) (σ2 : L2.St) (J1 : It) (H4 : Hp) : Prop := ∃ W1 : Nat → Nat → Hp → Prop, (∃ m, W1 0 m H4) ∧ ∀ j k H, W1 j k H →
  (J1.stop j H ∧ Nx H) ∨ (J1.go j H ∧ ∃ Nx1 : Hp → Prop, (∀ H', Nx1 H' → ∃ k', k' < k ∧ W1 (j + 1) k' H') ∧ ∀ x H', J1.yld j H x H' → g1 x (wipe σ2 vs1) H' fun σ3 H5 => wipe σ3 vs1 = wipe σ2 vs1 ∧ tt1 σ3 H5 fun b H6 =>
    if b = true then te σ3 H6 fun y H7 => ∃ acc, H7 D = some (.lst acc) ∧ acc.length < sizeLine ∧ Nx1 (upd H7 D (.lst (acc ++ [y]))) else Nx1 H6)
def LC2 (g : TG) (tt : TT) (wi1 : TI) (g1 : TG) (tt1 : TT) (te : TE) (vs vs1 : List Nat) (J : It) (σ : L2.St) (H1 : Hp) (Q : VK) : Prop := ∀ D, H1 D = none → ∃ W : Nat → Nat → Hp → Prop, (∃ m, W 0 m (upd H1 D (.lst []))) ∧ ∀ i m H, W i m H →
  (J.stop i H ∧ Q (.ref D) H) ∨ (J.go i H ∧ ∃ Nx : Hp → Prop, (∀ H', Nx H' → ∃ m', m' < m ∧ W (i + 1) m' H') ∧ ∀ x H', J.yld i H x H' → g x (wipe σ vs) H' fun σ2 H2 => wipe σ2 vs = wipe σ vs ∧ tt σ2 H2 fun b H3 =>
    if b = true then wi1 σ2 H3 fun J1 H4 => In2 g1 tt1 te vs1 D Nx σ2 J1 H4 else Nx H3)
section
variable {σ : L2.St} {H H1 : Hp} {Q : VK} {K : PySem.W.Frag} {te : TE} {tt tt1 : TT} {g g1 : TG} {vs vs1 : List Nat} {J : It} {n : Nat} {wi1 : TI}
theorem g_lc2 {wi : TI} (q : wi σ H fun J H1 => LC2 g tt wi1 g1 tt1 te vs vs1 J σ H1 Q) : tLc2 wi g tt wi1 g1 tt1 te vs vs1 σ H Q := q
/-- a heap without what stands at D -/
def less (D : Addr) (H : Hp) : Hp := fun a => if a = D then none else H a
theorem less_ne {D a : Addr} (h : a ≠ D) : less D H a = H a := if_neg h
theorem same_less {D : Addr} {H H' : Hp} (b : But D H H') : Same (less D H) H' := fun a o e => by
  by_cases c : a = D
  · subst c
    rw [show less a H a = none from if_pos rfl] at e
    cases e
  · rw [less_ne c] at e
    exact b a o c e
/-- what stood before D was laid stays -/
theorem same_past {D : Addr} {H H4 H5 : Hp} (s : Same H H4) (n : H D = none) (t : Same (less D H4) H5) : Same H H5 := fun a o e => t a o (by rw [less_ne (ne_of_none e n)]; exact s a o e)
/-- no tests; out i: what the turns of the second for make in the i-th turn of the first one -/
theorem lc2_map {item : Nat → V → Hp → Prop} (src : Src J H1 n item) (out : Nat → List V) (hn : ((List.range n).flatMap out).length ≤ 4000000)
    (turn : ∀ i x D H' (Fin : L2.St → It → Hp → Prop), i < n → H1 D = none → Same H1 H' → (∃ l, H' D = some (.lst l)) → item i x H' →
      (∀ σ2 J1 H4 (m : Nat) (item1 : Nat → V → Hp → Prop), Same H' H4 → Src J1 (less D H4) m item1 → m = (out i).length →
        (∀ j x1 H5 (Nx1 : V → Hp → Prop), j < m → Same (less D H4) H5 → item1 j x1 H5 → (∀ y H6, Same H5 H6 → (out i)[j]? = some y → Nx1 y H6) → g1 x1 (wipe σ2 vs1) H5 fun σ3 H6 => wipe σ3 vs1 = wipe σ2 vs1 ∧ te σ3 H6 Nx1) → Fin σ2 J1 H4) →
      g x (wipe σ vs) H' fun σ2 H2 => wipe σ2 vs = wipe σ vs ∧ wi1 σ2 H2 fun J1 H4 => Fin σ2 J1 H4)
    (done : ∀ D H', H1 D = none → Same H1 H' → H' D = some (.lst ((List.range n).flatMap out)) → Q (.ref D) H') : LC2 g tYes wi1 g1 tYes te vs vs1 J σ H1 Q := by
  intro D hD
  have fl : ∀ i, (List.range (i + 1)).flatMap out = (List.range i).flatMap out ++ out i := fun i => by
    rw [List.range_succ, List.flatMap_append, List.flatMap_cons, List.flatMap_nil, List.append_nil]
  have le : ∀ i, i ≤ n → ((List.range i).flatMap out).length ≤ ((List.range n).flatMap out).length := fun i hi => by
    induction n with
    | zero => cases Nat.le_zero.mp hi; exact Nat.le_refl _
    | succ k ih =>
      clear src turn done hn ih
      have : ∀ d, ((List.range i).flatMap out).length ≤ ((List.range (i + d)).flatMap out).length := fun d => by
        induction d with
        | zero => exact Nat.le_refl _
        | succ d ih =>
          rw [show i + (d + 1) = (i + d) + 1 from rfl, fl, List.length_append]
          omega
      have z := this (k + 1 - i)
      rwa [show i + (k + 1 - i) = k + 1 by omega] at z
  refine ⟨fun i m H => m = n - i ∧ i ≤ n ∧ Same H1 H ∧ H D = some (.lst ((List.range i).flatMap out)), ⟨n, rfl, Nat.zero_le _, same_new hD, upd_same⟩, ?_⟩
  rintro i m H ⟨rfl, hi, s, e⟩
  rcases Nat.lt_or_ge i n with lt | ge
  · right
    obtain ⟨go, yl⟩ := (src i H s).1 lt
    refine ⟨go, fun H' => i + 1 ≤ n ∧ Same H1 H' ∧ H' D = some (.lst ((List.range (i + 1)).flatMap out)), fun H' ⟨l1, q⟩ => ⟨n - (i + 1), by omega, rfl, l1, q⟩, fun x H' y => ?_⟩
    obtain ⟨s2, it⟩ := yl x H' y
    have s12 := s.trans s2
    have e' := s2 _ _ e
    refine turn i x D H' _ lt hD s12 ⟨_, e'⟩ it fun σ2 J1 H4 m item1 s4 src1 hm turn1 => ?_
    have e4 := s4 _ _ e'
    have s14 := s12.trans s4
    show In2 g1 tYes te vs1 D _ σ2 J1 H4
    have ln := le (i + 1) lt
    rw [fl, List.length_append] at ln
    have back : ∀ {H'' : Hp}, Same (less D H4) H'' → Same H1 H'' := fun s' a o ha => s' a o (by rw [less_ne (ne_of_none ha hD)]; exact s14 a o ha)
    refine ⟨fun j k H => k = m - j ∧ j ≤ m ∧ Same (less D H4) H ∧ H D = some (.lst ((List.range i).flatMap out ++ (out i).take j)), ⟨m, rfl, Nat.zero_le _, same_less (fun a o _ z => z), by rw [List.take_zero, List.append_nil]; exact e4⟩, ?_⟩
    rintro j k H5 ⟨rfl, hj, s5, e5⟩
    rcases Nat.lt_or_ge j m with ltj | gej
    · right
      obtain ⟨go1, yl1⟩ := (src1 j H5 s5).1 ltj
      refine ⟨go1, fun H' => j + 1 ≤ m ∧ Same (less D H4) H' ∧ H' D = some (.lst ((List.range i).flatMap out ++ (out i).take (j + 1))), fun H' ⟨l1, q⟩ => ⟨m - (j + 1), by omega, rfl, l1, q⟩, fun x1 H6 y1 => ?_⟩
      obtain ⟨s6, it1⟩ := yl1 x1 H6 y1
      have s56 := s5.trans s6
      refine turn1 j x1 H6 _ ltj s56 it1 fun y H7 s7 hy => ?_
      have e7 := s7 _ _ (s6 _ _ e5)
      have tk : (out i).take (j + 1) = (out i).take j ++ [y] := by
        rw [List.take_succ, hy]
        rfl
      refine ⟨_, e7, Nat.lt_of_lt_of_le (m := 4000001) (by rw [List.length_append, List.length_take]; omega) (by decide), ltj, ?_, ?_⟩
      · exact fun a o ha => by
          have na : a ≠ D := fun z => by
            rw [z, show less D H4 D = none from if_pos rfl] at ha
            cases ha
          rw [upd_ne na]
          exact (s56.trans s7) a o ha
      · rw [tk, ← List.append_assoc]
        exact upd_same
    · left
      have e0 : j = m := Nat.le_antisymm hj gej
      subst e0
      rw [hm, List.take_length, ← fl] at e5
      exact ⟨(src1 j H5 s5).2 (Nat.le_refl _), lt, back s5, e5⟩
  · left
    have e0 : i = n := Nat.le_antisymm hi ge
    subst e0
    exact ⟨(src i H s).2 ge, done D H hD s e⟩
end
end Gx
namespace Gx
open PySem L2
theorem flat_le {α : Type} {out : Nat → List α} {c : Nat} (h : ∀ i, (out i).length ≤ c) : ∀ n, ((List.range n).flatMap out).length ≤ n * c
  | 0 => by simp
  | n + 1 => by
    rw [List.range_succ, List.flatMap_append, List.length_append, List.flatMap_cons, List.flatMap_nil, List.append_nil, Nat.succ_mul]
    exact Nat.add_le_add (flat_le h n) (h n)
theorem src_enum2 {K : PySem.W.Frag} {J1 : Hp} {a : Addr} {xs : List V} (h : SqL K J1 a xs) : Src (Ite K a) J1 xs.length (fun i v H => ∃ T x, v = .ref T ∧ H T = some (.tup [.int (i : Nat), x]) ∧ xs[i]? = some x) := fun i H s => by
  have hh := same_sq s h
  refine ⟨fun hi => ⟨⟨xs, xs[i], hh, List.getElem?_eq_getElem hi⟩, fun v H' y => ?_⟩, fun hi => ⟨xs, hh, hi⟩⟩
  obtain ⟨T, x, rfl, nt, rfl, at_⟩ := y
  exact ⟨same_new nt, T, x, rfl, upd_same, at_ xs hh⟩
end Gx

set_option maxHeartbeats 1000000
/-! data with dicts in them; literals of such data in one step; what repr shows of them -/
namespace Gx
open PySem L2 PySem.Spec PyProof.Rows
mutual
inductive Dx (b : Bool) (K : PySem.W.Frag) (H : Hp) : V → PyData → Prop
  | non : Dx b K H .non .none
  | bl (c : Bool) : Dx b K H (.bl c) (.bool c)
  | int (i : Int) : Dx b K H (.int i) (.int i)
  | str (x : Str) : Dx b K H (.str x) (.str x)
  | lst {a : Addr} {xs : List V} {ds : List PyData} : (b = true → a ≠ sysModules) → H a = some (.lst xs) → DxAll b K H xs ds → Dx b K H (.ref a) (.list ds)
  | tup {a : Addr} {xs : List V} {ds : List PyData} : H a = some (.tup xs) → DxAll b K H xs ds → Dx b K H (.ref a) (.tuple ds)
  | tab {a : Addr} {t : MTab} : H a = some (.dK (mtabK t)) → Dx b K H (.ref a) (.dict (t.map fun p => (keyD p.1, .int p.2)))
inductive DxAll (b : Bool) (K : PySem.W.Frag) (H : Hp) : List V → List PyData → Prop
  | nil : DxAll b K H [] []
  | cons {v : V} {vs : List V} {d : PyData} {ds : List PyData} : Dx b K H v d → DxAll b K H vs ds → DxAll b K H (v :: vs) (d :: ds)
end
section
variable {b : Bool} {K : PySem.W.Frag} {H H' : Hp}
mutual
theorem dx_same (s : Same H H') : ∀ (d : PyData) (v : V), Dx b K H v d → Dx b K H' v d
  | .none, _, h => by cases h; exact .non
  | .bool b, _, h => by cases h; exact .bl b
  | .int i, _, h => by cases h; exact .int i
  | .str x, _, h => by cases h; exact .str x
  | .list ds, _, h => by cases h with | lst n e a => exact .lst n (s _ _ e) (dx_sames s _ _ a)
  | .tuple ds, _, h => by cases h with | tup e a => exact .tup (s _ _ e) (dx_sames s _ _ a)
  | .dict _, _, h => by cases h with | tab e => exact .tab (s _ _ e)
theorem dx_sames (s : Same H H') : ∀ (ds : List PyData) (vs : List V), DxAll b K H vs ds → DxAll b K H' vs ds
  | [], _, h => by cases h; exact .nil
  | d :: ds, _, h => by cases h with | cons a b => exact .cons (dx_same s d _ a) (dx_sames s ds _ b)
end
/-- an address that holds no list, no tuple and no dict changes -/
def Ode (o : HO) : Prop := (∀ xs, o ≠ .lst xs) ∧ (∀ xs, o ≠ .tup xs) ∧ ∀ kvs, o ≠ .dK kvs
mutual
theorem dx_ode {p : Addr} {o : HO} (hp : H p = some o) (no : Ode o) (bt : But p H H') : ∀ (d : PyData) (v : V), Dx b K H v d → Dx b K H' v d
  | .none, _, h => by cases h; exact .non
  | .bool b, _, h => by cases h; exact .bl b
  | .int i, _, h => by cases h; exact .int i
  | .str x, _, h => by cases h; exact .str x
  | .list ds, _, h => by
    cases h with
    | @lst a xs _ n e r =>
      refine .lst n (bt _ _ (fun z => ?_) e) (dx_odes hp no bt _ _ r)
      rw [z, hp] at e
      exact no.1 xs (Option.some.inj e)
  | .tuple ds, _, h => by
    cases h with
    | @tup a xs _ e r =>
      refine .tup (bt _ _ (fun z => ?_) e) (dx_odes hp no bt _ _ r)
      rw [z, hp] at e
      exact no.2.1 xs (Option.some.inj e)
  | .dict _, _, h => by
    cases h with
    | tab e =>
      refine .tab (bt _ _ (fun z => ?_) e)
      rw [z, hp] at e
      exact no.2.2 _ (Option.some.inj e)
theorem dx_odes {p : Addr} {o : HO} (hp : H p = some o) (no : Ode o) (bt : But p H H') : ∀ (ds : List PyData) (vs : List V), DxAll b K H vs ds → DxAll b K H' vs ds
  | [], _, h => by cases h; exact .nil
  | d :: ds, _, h => by cases h with | cons a c => exact .cons (dx_ode hp no bt d _ a) (dx_odes hp no bt ds _ c)
end
mutual
/-- no dict in it -/
def noD : PyData → Bool
  | .list ds => noDs ds
  | .tuple ds => noDs ds
  | .dict _ => false
  | _ => true
def noDs : List PyData → Bool
  | [] => true
  | d :: ds => noD d && noDs ds
end
mutual
theorem dx_dp : ∀ (d : PyData) (v : V), noD d = true → Dx b K H v d → Dp K H v d
  | .none, _, _, h => by cases h; exact .non
  | .bool b, _, _, h => by cases h; exact .bl b
  | .int i, _, _, h => by cases h; exact .int i
  | .str x, _, _, h => by cases h; exact .str x
  | .list ds, _, n, h => by
    cases h with
    | lst _ e r => exact .lst (SqL.of e) (dx_dps _ _ (by simpa [noD] using n) r)
  | .tuple ds, _, n, h => by
    cases h with
    | tup e r => exact .tup (SqT.of e) (dx_dps _ _ (by simpa [noD] using n) r)
  | .dict _, _, n, _ => by simp [noD] at n
theorem dx_dps : ∀ (ds : List PyData) (vs : List V), noDs ds = true → DxAll b K H vs ds → DpAll K H vs ds
  | [], _, _, h => by cases h; exact .nil
  | d :: ds, _, n, h => by
    have n : (noD d && noDs ds) = true := by simpa [noDs] using n
    rw [Bool.and_eq_true] at n
    cases h with
    | cons a b => exact .cons (dx_dp _ _ n.1 a) (dx_dps _ _ n.2 b)
end
end
section
variable {X : Cx} {pins : List (Addr × Obj)} {σ : L2.St} {H : Hp} {s : Shared}
mutual
theorem Dx.reads (I : Inv X pins σ H s) : ∀ (d : PyData) (v : V) (u : Value), Dx true X.K H v d → RelV v u → ∃ as, Reads s.heap u d as ∧ sysModules ∉ as
  | .none, _, _, h, r => by
    cases h
    cases r
    exact ⟨_, Reads.none, by simp⟩
  | .bool b, _, _, h, r => by
    cases h
    cases r
    exact ⟨_, Reads.bool b, by simp⟩
  | .int i, _, _, h, r => by
    cases h
    obtain ⟨t, rfl⟩ := r
    exact ⟨_, Reads.int i t, by simp⟩
  | .str x, _, _, h, r => by
    cases h
    obtain ⟨t, rfl⟩ := r
    exact ⟨_, Reads.str x t, by simp⟩
  | .list ds, _, _, h, r => by
    cases h with
    | lst nn e ha =>
      cases r
      obtain ⟨its, rv, ⟨o, n, ho, hc, _, hd⟩, _⟩ := I.list (SqL.of e)
      obtain ⟨as, hr, ns⟩ := Dx.readsAll I ds _ its ha rv
      refine ⟨_, Reads.list ho hc hd hr, fun m => ?_⟩
      rcases List.mem_cons.mp m with m | m
      · exact nn rfl m.symm
      · exact ns m
  | .tuple ds, _, _, h, r => by
    cases h with
    | tup e ha =>
      cases r
      obtain ⟨its, rv, ⟨o, ho, hc, n, hd⟩, _⟩ := I.tuple (SqT.of e)
      obtain ⟨as, hr, ns⟩ := Dx.readsAll I ds _ its ha rv
      exact ⟨_, Reads.tuple ho hc hd hr, ns⟩
  | .dict _, _, _, h, r => by
    cases h with
    | tab e =>
      cases r
      obtain ⟨rd, ne⟩ := mtab_reads I (.inl e)
      exact ⟨_, rd, fun m => ne (List.mem_singleton.mp m).symm⟩
theorem Dx.readsAll (I : Inv X pins σ H s) : ∀ (ds : List PyData) (vs : List V) (us : List Value), DxAll true X.K H vs ds → Vals vs us → ∃ as, ReadsAll s.heap us ds as ∧ sysModules ∉ as
  | [], _, _, h, r => by
    cases h
    cases r
    exact ⟨_, ReadsAll.nil, by simp⟩
  | d :: ds, _, _, h, r => by
    cases h with
    | cons h1 h2 =>
      cases r with
      | cons r1 r2 =>
        obtain ⟨as, q1, n1⟩ := Dx.reads I d _ _ h1 r1
        obtain ⟨bs, q2, n2⟩ := Dx.readsAll I ds _ _ h2 r2
        exact ⟨_, ReadsAll.cons q1 q2, fun m => (List.mem_append.mp m).elim n1 n2⟩
end
end
def rReprD (K : PySem.W.Frag) : List V → Hp → VK → Prop := fun xs H Q => ∃ a d, xs = [V.ref a] ∧ Dx true K H (.ref a) d ∧ d.showable = true ∧ d.depth ≤ 100 ∧ d.shown.length ≤ sizeLine ∧ Q (.str d.shown) H
/-! ### new lists stand elsewhere than sys.modules -/
def rRepX : R2 := fun x y H Q => ∃ l k xs, x = .ref l ∧ y = .int k ∧ H l = some (.lst xs) ∧ -(2 ^ 63) ≤ k ∧ k < 2 ^ 63 ∧ xs.length * k.toNat ≤ sizeLine ∧
  ∀ p, H p = none → p ≠ sysModules → Q (.ref p) (upd H p (.lst (List.replicate k.toNat xs).flatten))
def tLstRgX (te : L2.St → Hp → (Int → Int → Hp → Prop) → Prop) : TE := fun σ H Q => te σ H fun a b H1 => RgOk a b ∧ ∀ q, H1 q = none → q ≠ sysModules → Q (.ref q) (upd H1 q (.lst (rgV a b)))
/-! ### literals -/
/-- the expression makes this data, anew -/
def Lit (b : Bool) (K : PySem.W.Frag) (σ : L2.St) (H0 : Hp) (te : TE) (d : PyData) : Prop := ∀ H Q, Same H0 H → (∀ v H', Same H H' → Dx b K H' v d → Q v H') → te σ H Q
def Lits (b : Bool) (K : PySem.W.Frag) (σ : L2.St) (H0 : Hp) (ts : TA) (ds : List PyData) : Prop := ∀ H (Q : List V → Hp → Prop), Same H0 H → (∀ vs H', Same H H' → DxAll b K H' vs ds → Q vs H') → ts σ H Q
section
variable {b : Bool} {K : PySem.W.Frag} {σ : L2.St} {H0 : Hp} {te ta tb : TE} {ts : TA} {d e : PyData} {ds es : List PyData}
end
/-! ### literals without variables: what they are made of is new -/
/-- what stands in H' and not in H -/
def newly (H H' : Hp) : Hp := fun a => match H a with
  | none => H' a
  | some _ => none
def LitF (b : Bool) (K : PySem.W.Frag) (σ : L2.St) (te : TE) (d : PyData) : Prop := ∀ H Q, (∀ v H', Same H H' → Dx b K (newly H H') v d → Q v H') → te σ H Q
def LitFs (b : Bool) (K : PySem.W.Frag) (σ : L2.St) (ts : TA) (ds : List PyData) : Prop := ∀ H (Q : List V → Hp → Prop), (∀ vs H', Same H H' → DxAll b K (newly H H') vs ds → Q vs H') → ts σ H Q
section
variable {b : Bool} {K : PySem.W.Frag} {σ : L2.St} {te ta tb : TE} {ts : TA} {d e : PyData} {ds es : List PyData}
end
/-! ### what can be shown -/
def okD (d : PyData) : Bool := d.showable && (decide (d.depth ≤ 20) && decide (d.shown.length ≤ 10000))
end Gx

set_option maxHeartbeats 4000000
/-! law k47: _law_by_steps, _law_blocked -/
namespace Gk
open PySem L2 Gx
open C8 (Cal Met Mak pe_c pe_mt pe_mt0 pe_mk pe_gc)
local macro_rules | `(tactic| walk_at "g") => `(tactic| (first
  | with_reducible refine g_seq ?_ | with_reducible refine g_asg ?_ | ((with_reducible show tVar _ _ _ _); refine g_var rfl ?_) | with_reducible refine g_c ?_ | with_reducible refine g_name ?_ | with_reducible refine g_op ?_ | with_reducible refine g_I0 ?_
  | with_reducible refine g_cons ?_ | with_reducible refine g_nil ?_ | with_reducible refine g_exbl ?_ | with_reducible refine g_exint ?_ | with_reducible refine g_test ?_ | with_reducible refine g_B ?_ | with_reducible refine g_ifS ?_ | with_reducible refine g_ret ?_ | with_reducible refine g_retN ?_ | with_reducible refine g_next ?_
  | with_reducible refine g_CB ?_ | with_reducible refine g_sub ?_ | with_reducible refine g_drop ?_ | with_reducible refine g_not ?_ | with_reducible refine g_and ?_ | with_reducible refine g_or ?_ | with_reducible refine g_andV ?_ | with_reducible refine g_orV ?_ | with_reducible refine g_notV ?_ | with_reducible refine g_ifE ?_ | with_reducible refine g_isN ?_
  | with_reducible refine g_par ?_ | with_reducible refine g_expar ?_ | with_reducible refine g_chain ?_ | with_reducible refine g_un ?_ | with_reducible refine g_U ?_ | with_reducible refine g_bits ?_ | ((with_reducible show rEq _ _ _ _); refine g_eq rfl ?_) | ((with_reducible show rNe _ _ _ _); refine g_ne rfl ?_)
  | with_reducible refine g_for ?_ | with_reducible refine g_iRng1 ?_ | with_reducible refine g_iRng2 ?_ | with_reducible refine g_iList ?_ | with_reducible refine g_iTup ?_
  | ((with_reducible refine g_Imul ?hc ?_); (case hc => (first | (refine Or.inl ⟨?_, ?_⟩ <;> first | decide | omega) | (refine Or.inr ⟨?_, ?_⟩ <;> first | decide | omega))))
  | ((with_reducible refine g_Idiv ?hc ?_); (case hc => (first | (exact ⟨by decide, by decide⟩) | assumption)))
  | ((with_reducible refine g_Imod ?hc ?_); (case hc => (first | assumption | omega | decide)))
  | ((with_reducible refine g_exR1 ?hlo ?hhi ?_); (case hlo => omega); (case hhi => omega))
  | ((with_reducible refine g_exR2 ?hb ?_); (case hb => omega))
  | with_reducible refine g_lst ?_ | with_reducible refine g_tup ?_ | with_reducible refine g_call ?_ | with_reducible refine g_BM ?_ | with_reducible refine g_BM0 ?_
  | with_reducible refine g_intB ?_ | with_reducible refine g_lc ?_ | with_reducible refine g_yes ?_ | with_reducible refine g_iZip ?_ | with_reducible refine g_sl ?_ | with_reducible refine g_noP ?_ | with_reducible refine g_part ?_ | with_reducible refine g_gcons ?_ | with_reducible refine g_gnil ?_
  | with_reducible refine g_tfld ?_ | with_reducible refine g_tmeth ?_ | with_reducible refine g_tmake ?_ | with_reducible refine g_sfld ?_ | with_reducible refine g_tprop ?_ | with_reducible refine g_tstar ?_ | with_reducible refine g_tmethK ?_ | with_reducible refine g_isN1 ?_ | with_reducible refine g_notN1 ?_ | with_reducible refine g_callK0 ?_ | with_reducible refine g_m1 ?_ | with_reducible refine g_isstr ?_ | with_reducible refine g_iStr ?_ | with_reducible refine g_exS ?_ | with_reducible refine g_iEnum ?_))
local macro_rules | `(tactic| walk_at "gs1") => `(tactic| (first
  | with_reducible refine g_seq ?_ | with_reducible refine g_asg ?_ | ((with_reducible show tVar _ _ _ _); refine g_var rfl ?_) | with_reducible refine g_c ?_ | with_reducible refine g_name ?_ | with_reducible refine g_op ?_ | with_reducible refine g_I0 ?_
  | with_reducible refine g_cons ?_ | with_reducible refine g_nil ?_ | with_reducible refine g_exbl ?_ | with_reducible refine g_exint ?_ | with_reducible refine g_test ?_ | with_reducible refine g_B ?_ | with_reducible refine g_ifS ?_ | with_reducible refine g_retN ?_ | with_reducible refine g_next ?_
  | with_reducible refine g_CB ?_ | with_reducible refine g_sub ?_ | with_reducible refine g_drop ?_ | with_reducible refine g_not ?_ | with_reducible refine g_and ?_ | with_reducible refine g_or ?_ | with_reducible refine g_andV ?_ | with_reducible refine g_orV ?_ | with_reducible refine g_notV ?_ | with_reducible refine g_ifE ?_ | with_reducible refine g_isN ?_
  | with_reducible refine g_par ?_ | with_reducible refine g_expar ?_ | with_reducible refine g_chain ?_ | with_reducible refine g_un ?_ | with_reducible refine g_U ?_ | with_reducible refine g_bits ?_ | ((with_reducible show rEq _ _ _ _); refine g_eq rfl ?_) | ((with_reducible show rNe _ _ _ _); refine g_ne rfl ?_)
  | with_reducible refine g_for ?_ | with_reducible refine g_iRng1 ?_ | with_reducible refine g_iRng2 ?_ | with_reducible refine g_iList ?_ | with_reducible refine g_iTup ?_
  | ((with_reducible refine g_Imul ?hc ?_); (case hc => (first | (refine Or.inl ⟨?_, ?_⟩ <;> first | decide | omega) | (refine Or.inr ⟨?_, ?_⟩ <;> first | decide | omega))))
  | ((with_reducible refine g_Idiv ?hc ?_); (case hc => (first | (exact ⟨by decide, by decide⟩) | assumption)))
  | ((with_reducible refine g_Imod ?hc ?_); (case hc => (first | assumption | omega | decide)))
  | ((with_reducible refine g_exR1 ?hlo ?hhi ?_); (case hlo => omega); (case hhi => omega))
  | ((with_reducible refine g_exR2 ?hb ?_); (case hb => omega))
  | with_reducible refine g_lst ?_ | with_reducible refine g_tup ?_ | with_reducible refine g_call ?_ | with_reducible refine g_BM ?_ | with_reducible refine g_BM0 ?_
  | with_reducible refine g_intB ?_ | with_reducible refine g_lc ?_ | with_reducible refine g_yes ?_ | with_reducible refine g_iZip ?_ | with_reducible refine g_sl ?_ | with_reducible refine g_noP ?_ | with_reducible refine g_part ?_ | with_reducible refine g_gcons ?_ | with_reducible refine g_gnil ?_
  | with_reducible refine g_tfld ?_ | with_reducible refine g_tmeth ?_ | with_reducible refine g_tmake ?_ | with_reducible refine g_sfld ?_ | with_reducible refine g_tprop ?_ | with_reducible refine g_tstar ?_ | with_reducible refine g_tmethK ?_ | with_reducible refine g_isN1 ?_ | with_reducible refine g_notN1 ?_ | with_reducible refine g_callK0 ?_ | with_reducible refine g_m1 ?_ | with_reducible refine g_isstr ?_ | with_reducible refine g_iStr ?_ | with_reducible refine g_exS ?_ | with_reducible refine g_iEnum ?_))
local macro_rules | `(tactic| walk_at "gx1") => `(tactic| (first
  | with_reducible refine g_seq ?_ | with_reducible refine g_asg ?_ | ((with_reducible show tVar _ _ _ _); refine g_var rfl ?_) | with_reducible refine g_c ?_ | with_reducible refine g_name ?_ | with_reducible refine g_op ?_ | with_reducible refine g_I0 ?_
  | with_reducible refine g_cons ?_ | with_reducible refine g_nil ?_ | with_reducible refine g_exbl ?_ | with_reducible refine g_exint ?_ | with_reducible refine g_test ?_ | with_reducible refine g_B ?_ | with_reducible refine g_ifS ?_ | with_reducible refine g_retN ?_ | with_reducible refine g_next ?_
  | with_reducible refine g_CB ?_ | with_reducible refine g_sub ?_ | with_reducible refine g_drop ?_ | with_reducible refine g_not ?_ | with_reducible refine g_and ?_ | with_reducible refine g_or ?_ | with_reducible refine g_andV ?_ | with_reducible refine g_orV ?_ | with_reducible refine g_notV ?_ | with_reducible refine g_ret ?_ | with_reducible refine g_isN ?_
  | with_reducible refine g_par ?_ | with_reducible refine g_expar ?_ | with_reducible refine g_chain ?_ | with_reducible refine g_un ?_ | with_reducible refine g_U ?_ | with_reducible refine g_bits ?_ | ((with_reducible show rEq _ _ _ _); refine g_eq rfl ?_) | ((with_reducible show rNe _ _ _ _); refine g_ne rfl ?_)
  | with_reducible refine g_for ?_ | with_reducible refine g_iRng1 ?_ | with_reducible refine g_iRng2 ?_ | with_reducible refine g_iList ?_ | with_reducible refine g_iTup ?_
  | ((with_reducible refine g_Imul ?hc ?_); (case hc => (first | (refine Or.inl ⟨?_, ?_⟩ <;> first | decide | omega) | (refine Or.inr ⟨?_, ?_⟩ <;> first | decide | omega))))
  | ((with_reducible refine g_Idiv ?hc ?_); (case hc => (first | (exact ⟨by decide, by decide⟩) | assumption)))
  | ((with_reducible refine g_Imod ?hc ?_); (case hc => (first | assumption | omega | decide)))
  | ((with_reducible refine g_exR1 ?hlo ?hhi ?_); (case hlo => omega); (case hhi => omega))
  | ((with_reducible refine g_exR2 ?hb ?_); (case hb => omega))
  | with_reducible refine g_lst ?_ | with_reducible refine g_tup ?_ | with_reducible refine g_call ?_ | with_reducible refine g_BM ?_ | with_reducible refine g_BM0 ?_
  | with_reducible refine g_intB ?_ | with_reducible refine g_lc ?_ | with_reducible refine g_yes ?_ | with_reducible refine g_iZip ?_ | with_reducible refine g_sl ?_ | with_reducible refine g_noP ?_ | with_reducible refine g_part ?_ | with_reducible refine g_gcons ?_ | with_reducible refine g_gnil ?_
  | with_reducible refine g_tfld ?_ | with_reducible refine g_tmeth ?_ | with_reducible refine g_tmake ?_ | with_reducible refine g_sfld ?_ | with_reducible refine g_tprop ?_ | with_reducible refine g_tstar ?_ | with_reducible refine g_tmethK ?_ | with_reducible refine g_isN1 ?_ | with_reducible refine g_notN1 ?_ | with_reducible refine g_callK0 ?_ | with_reducible refine g_m1 ?_ | with_reducible refine g_isstr ?_ | with_reducible refine g_iStr ?_ | with_reducible refine g_exS ?_ | with_reducible refine g_iEnum ?_))
local macro_rules | `(tactic| walk_at "hp") => `(tactic| (first | assumption | exact upd_same | (refine same_get (by assumption) ?_; walk_at "hp")))
local macro_rules | `(tactic| walk_at "sm") => `(tactic| (first | assumption | exact Same.refl _ | (refine Same.trans ?ha (by assumption); walk_at "sm")))
local macro_rules | `(tactic| walk_at "nn") => `(tactic| (first | assumption | (refine same_free (by assumption) ?_; walk_at "nn")))
local macro_rules | `(tactic| walk_at "sb") => `(tactic| (first | decide | (refine small_bits ?_ ?_ <;> omega)))
local macro_rules | `(tactic| walk_at "ln") => `(tactic| (simp only [List.length_cons, List.length_nil]; omega))
local macro_rules | `(tactic| walk_at "gg") => `(tactic| (repeat walk_at "g"))
local macro_rules | `(tactic| walk_at "gs") => `(tactic| (repeat walk_at "gs1"))
local macro_rules | `(tactic| walk_at "gx") => `(tactic| (repeat walk_at "gx1"))

def spanN (a b : Int) : List Int := (List.range (b - a + 1).toNat).map fun i => a + (i : Nat)
theorem spanN_mem {a b m : Int} : m ∈ spanN a b ↔ a ≤ m ∧ m ≤ b := by
  unfold spanN
  rw [List.mem_map]
  constructor
  · rintro ⟨i, hi, rfl⟩
    have := List.mem_range.mp hi
    omega
  · rintro ⟨h1, h2⟩
    exact ⟨(m - a).toNat, List.mem_range.mpr (by omega), by omega⟩
theorem rgV_span (a b : Int) : rgV a (b + 1) = (spanN a b).map V.int := by
  unfold rgV spanN
  rw [List.map_map, show b + 1 - a = b - a + 1 by omega]
  rfl
/-- the numbers are small -/
def smallI (n : Int) : Prop := -1000 ≤ n ∧ n ≤ 1000
def spSteps (K : PySem.W.Frag) : Sp := fun vs H Q _ => ∃ (a b c : Addr) (ks : List Int) (rs : List Pr) (ps : List Int), vs = [.ref a, .ref b, .ref c] ∧ H a = some (.lst (ks.map V.int)) ∧ PtsL K H b rs ∧ H c = some (.lst (ps.map V.int)) ∧ ks.length ≤ 1000 ∧ rs.length ≤ 30 ∧ ps.length ≤ 30 ∧ (∀ p ∈ ps, smallI p) ∧ (∀ r ∈ rs, smallI r.1 ∧ smallI r.2) ∧
  ∀ l H', H l = none → Same H H' → PtsL K H' l ((wishRows ks rs ps).map rowPr) → Q (.ref l) H'
def spBlocked (K : PySem.W.Frag) : Sp := fun vs H Q _ => ∃ (l c : Addr) (rows : List Wl) (ps : List Int), vs = [.ref l, .ref c] ∧ DtL K H l rows ∧ H c = some (.lst (ps.map V.int)) ∧ rows.length ≤ 1000 ∧ ps.length ≤ 1000 ∧
  ∀ v H', Same H H' → Dp K H' v (oI ((rows.find? fun r => !freeI ps (wiv r).1 (wiv r).2).map fun r => (wpr r).1)) → Q v H'
section
variable {P : Program} {w : World} {K : PySem.W.Frag} {mg : Str → Option Value} {base : Heap} {X : Cx} {H : Hp}
abbrev s_blocked : Stmt := top 32
abbrev N_blocked : List Str := ["_law_wishes_here", "_law_some_puts", "_law_pair", "_law_wish_here"]
theorem sc_blocked : FnScope N_blocked ["_law_wishes_here", "_law_some_puts"] (defScope s_blocked) := ⟨rfl, rfl, rfl, by decide +kernel, rfl, by decide +kernel, by decide +kernel⟩

theorem ok_blocked {f : Addr} {fd : FuncData} (D : Dn K mg "_law_blocked" s_blocked ["_law_wishes_here", "_law_some_puts"] f fd) (T : Bt mg) (c__law_free_in : Cal P w K mg base 1 "_law_free_in" (spFree K) []) : Cal P w K mg base 2 "_law_blocked" (spBlocked K) [] := by
  refine cal_of D (D.fn.ok sc_blocked (fun vs H Q E h => ?_) (fun cdv A outer s H vs Q E hr h => ?_))
  · obtain ⟨l, c, rows, ps, rfl, _⟩ := h
    rfl
  · obtain ⟨l, c, rows, ps, rfl, hl, hc, lr, lp, k⟩ := h
    refine ⟨_, (pss_one (ps_ret (pe_ix ix_list (pe_op op_cat (pe_lc (own := [("_law_pair", 2), ("_law_wish_here", 3)]) (g := gTup K 2 (gCons (gName 2) (gCons (gName 3) gNil))) rfl sc_blocked.nd (pi_list (pv 0)) (blkOk_by (own := [("_law_pair", 2), ("_law_wish_here", 3)]) (N := N_blocked) (sc := defScope s_blocked) (by decide +kernel)) (fun _ _ _ _ _ => (pg_tup (by rfl) (pgs_cons (pg_name (i := 2) sc_blocked.nd rfl (Or.inl rfl)) (pgs_cons (pg_name (i := 3) sc_blocked.nd rfl (Or.inl rfl)) pgs_nil)))) (fun _ _ _ _ _ => (pts_one (pt_not (pt_val (pe_c c__law_free_in hr (by decide) (by rfl) (pa_cons (pv 3) (pa_cons (pv 1) pa_nil))))))) (fun _ _ _ _ _ => (pe_ix (show IxR _ (rIxT K) from ix_tup) (pv 2) pe_int (fun _ _ => rfl)))) (pe_lst (pa_cons pe_non pa_nil))) pe_int (fun _ _ => rfl)))), ?_⟩
    walk_at "gg"
    refine ⟨l, rfl, ?_⟩
    refine lc_someL (γ := Int) hl (by omega) (fun r => if freeI ps (wiv r).1 (wiv r).2 = true then none else some (wpr r).1) (fun x r H' Nx No _ dx S ky kn => ?_) fun p1 H1 n1 S1 e1 => ?_
    · obtain ⟨t0, t1, t2, rfl, h0, h1, h2⟩ := wl_at dx
      refine g_gtup h0 rfl ?_
      walk_at "gg"
      refine ⟨rfl, ?_⟩
      walk_at "gg"
      refine ⟨t2, c, (wiv r).1, (wiv r).2, ps, rfl, h2, S _ _ hc, lp, fun H2 S2 => ⟨_, rfl, ?_⟩⟩
      cases e : freeI ps (wiv r).1 (wiv r).2 with
      | true =>
        refine g_ifF rfl ?_
        exact kn _ S2 (if_pos e)
      | false =>
        refine g_ifT rfl ?_
        walk_at "gg"
        refine g_ix2 (same_sqT S2 h1) rfl ?_
        exact ky _ (wpr r).1 _ S2 (if_neg (by rw [e]; decide)) (.int _)
    walk_at "gg"
    refine g_mkL (by walk_at "ln") fun p2 H2 n2 S2 e2 => ?_
    walk_at "gg"
    obtain ⟨xs, ex, dx⟩ := e1
    have lx : xs.length ≤ 1000 := by
      rw [dpAll_len dx, List.length_map]
      exact Nat.le_trans (List.length_filterMap_le _ _) lr
    refine g_cat (S2 _ _ ex) e2 (by simp; omega) fun p3 H3 n3 S3 e3 => ?_
    walk_at "gg"
    have S03 := (S1.trans S2).trans S3
    have d3 := dp_sameAll (S2.trans S3) _ _ dx
    have ef : (rows.filterMap fun r => if freeI ps (wiv r).1 (wiv r).2 = true then none else some (wpr r).1).head? = (rows.find? fun r => !freeI ps (wiv r).1 (wiv r).2).map fun r => (wpr r).1 := by
      clear k hl lr e3 ex dx lx d3
      induction rows with
      | nil => rfl
      | cons r rows ih =>
        rw [List.filterMap_cons, List.find?_cons]
        cases e : freeI ps (wiv r).1 (wiv r).2 with
        | true => simpa using ih
        | false => rfl
    generalize (rows.filterMap fun r => if freeI ps (wiv r).1 (wiv r).2 = true then none else some (wpr r).1) = ns at d3 ef
    cases ns with
    | nil =>
      cases d3
      refine g_ixL (SqL.of e3) (v := .non) rfl ?_
      refine k _ _ S03 ?_
      rw [← ef]
      exact .non
    | cons n ns =>
      cases d3 with
      | @cons v vs _ _ d1 d2 =>
        refine g_ixL (SqL.of e3) (v := v) (atI_head rfl) ?_
        refine k _ _ S03 ?_
        rw [← ef]
        exact d1
abbrev s_by_steps : Stmt := top 31
abbrev N_by_steps : List Str := ["_law_some_keys", "_law_spans", "_law_some_puts", "_law_found", "_law_at", "_law_x", "_law_place", "_law_span", "_law_between", "_law_k"]
theorem sc_by_steps : FnScope N_by_steps ["_law_some_keys", "_law_spans", "_law_some_puts"] (defScope s_by_steps) := ⟨rfl, rfl, rfl, by decide +kernel, rfl, by decide +kernel, by decide +kernel⟩

theorem ok_steps {f : Addr} {fd : FuncData} (D : Dn K mg "_law_by_steps" s_by_steps ["_law_some_keys", "_law_spans", "_law_some_puts"] f fd) (T : Bt mg) : Cal P w K mg base 1 "_law_by_steps" (spSteps K) [] := by
  refine cal_of D (D.fn.ok sc_by_steps (fun vs H Q E h => ?_) (fun cdv A outer s H vs Q E hr h => ?_))
  · obtain ⟨a, b, c, ks, rs, ps, rfl, _⟩ := h
    rfl
  · obtain ⟨a, b, c, ks, rs, ps, rfl, ha, hb, hc, lk, lr, lp, sp, sr, k⟩ := h
    refine ⟨_, (pss_cons (ps_set (i := 3) sc_by_steps.nd rfl (Or.inl rfl) (pe_lst pa_nil))
    (pss_cons (ps_for PassesOwn.never rfl (pi_enum (by rfl) T.n_enumerate (pa_cons (pv 2) pa_nil)) (pg_tup (by rfl) (pgs_cons (pg_name (i := 4) sc_by_steps.nd rfl (Or.inl rfl)) (pgs_cons (pg_name (i := 5) sc_by_steps.nd rfl (Or.inl rfl)) pgs_nil))) (pss_one (ps_for PassesOwn.never rfl (pi_enum (by rfl) T.n_enumerate (pa_cons (pv 1) pa_nil)) (pg_tup (by rfl) (pgs_cons (pg_name (i := 6) sc_by_steps.nd rfl (Or.inl rfl)) (pgs_cons (pg_name (i := 7) sc_by_steps.nd rfl (Or.inl rfl)) pgs_nil))) (pss_cons (ps_set (i := 8) sc_by_steps.nd rfl (Or.inl rfl) (pe_ifExp (pt_cmpR op_gt (pv 5) (pe_ix ix_tup (pv 7) pe_int (fun _ _ => rfl)) (nomark _)) (pe_listRg rfl (by rfl) T.n_list (prg_2 (by rfl) T.n_range (pe_ix ix_tup (pv 7) pe_int (fun _ _ => rfl)) (pv 5))) (pe_listRg rfl (by rfl) T.n_list (prg_2 (by rfl) T.n_range (pe_op op_add (pv 5) pe_int) (pe_op op_add (pe_ix ix_tup (pv 7) pe_int (fun _ _ => rfl)) pe_int)))))
    (pss_one (ps_if (PW.pt (pw_and (pt_not (pt_chain op_le op_le (pe_ix ix_tup (pv 7) pe_int (fun _ _ => rfl)) (pv 5) (pe_ix ix_tup (pv 7) pe_int (fun _ _ => rfl)))) (pw_and1 (pt_cmpR (op_eqD hr.units) (pe_lc (own := [("_law_k", 9)]) (g := gName 9) rfl sc_by_steps.nd (pi_list (pv 8)) (blkOk_by (own := [("_law_k", 9)]) (N := N_by_steps) (sc := defScope s_by_steps) (by decide +kernel)) (fun _ _ _ _ _ => pg_name (i := 9) sc_by_steps.nd rfl (Or.inl rfl)) (fun _ _ _ _ _ => (pts_one (pt_cmpR (show OpR _ (compareOp .In) (rIn K false) from op_in_seq) (pv 9) (pv 0) (by rfl)))) (fun _ _ _ _ _ => (pv 9))) (pe_lst pa_nil) (nomark _))))) (pss_one (ps_expr (pe_bm PySem.F.plainAttrs_list PySem.F.slot_list_append PySem.F.type_list_append mt_append (pv 3) (pa_cons (pe_tup (pa_cons (pv 4) (pa_cons (pv 6) pa_nil))) pa_nil)))) pss_nil))))))
    (pss_one (ps_ret (pv 3))))), ?_⟩
    walk_at "gg"
    refine g_mkL (by walk_at "ln") fun l H1 n1 S1 e1 => ?_
    walk_at "gg"
    obtain ⟨ys, hbe, hbd⟩ := hb
    have lny : ys.length = rs.length := by rw [dpAll_len hbd, List.length_map]
    refine g_exEn (SqL.of (S1 _ _ hc)) ?_
    refine fw_enum (xs := ps.map V.int) (fun i σ H' => ∃ (acc : List V) (v4 v5 v6 v7 v8 v9 : Option V), σ = [some (.ref a), some (.ref b), some (.ref c), some (.ref l), v4, v5, v6, v7, v8, v9] ∧ Same H H' ∧ H' l = some (.lst acc) ∧ DpAll K H' acc (((wishRows ks rs (ps.take i)).map rowPr).map Kd.D) ∧ acc.length ≤ 30 * i)
      ⟨[], _, _, _, _, _, _, rfl, S1, e1, .nil, Nat.zero_le _⟩ (fun i σ H' _ ⟨_, _, _, _, _, _, _, _, S, _⟩ => SqL.of (S _ _ hc)) ?_ ?_
    · rintro i x t σ H2 H3 hx ⟨acc, v4, v5, v6, v7, v8, v9, rfl, S2, e2, d2, l2⟩ S3 e3
      obtain ⟨p, hp, rfl⟩ := int_at hx
      have ip : i < ps.length := (List.getElem?_eq_some_iff.mp hp).1
      have spp := sp p (List.mem_of_getElem? hp)
      refine g_gtup (SqT.of e3) rfl ?_
      walk_at "gg"
      refine g_exEn (SqL.of ((S2.trans S3) _ _ hbe)) ?_
      refine fw_enum (xs := ys) (fun j σ H' => ∃ (acc : List V) (v6 v7 v8 v9 : Option V), σ = [some (.ref a), some (.ref b), some (.ref c), some (.ref l), some (.int (i : Nat)), some (.int p), v6, v7, v8, v9] ∧ Same H H' ∧ H' l = some (.lst acc) ∧ DpAll K H' acc (((wishRows ks rs (ps.take i) ++ rowsOf ks (rs.take j) i p).map rowPr).map Kd.D) ∧ acc.length ≤ 30 * i + j)
        ⟨acc, _, _, _, _, rfl, S2.trans S3, S3 _ _ e2, ?_, by omega⟩ (fun j σ H' _ ⟨_, _, _, _, _, _, S, _⟩ => SqL.of (S _ _ hbe)) ?_ ?_
      · have z : rowsOf ks (rs.take 0) i p = [] := rfl
        rw [z, List.append_nil]
        exact dp_sameAll S3 _ _ d2
      · rintro j y u σ H4 H5 hy ⟨acc, v6, v7, v8, v9, rfl, S4, e4, d4, l4⟩ S5 e5
        have jl : j < ys.length := (List.getElem?_eq_some_iff.mp hy).1
        obtain ⟨r, hr0, dy⟩ := datas_at (dp_sameAll (S4.trans S5) _ _ hbd) hy
        have srr := sr r (List.mem_of_getElem? hr0)
        unfold smallI at spp srr
        obtain ⟨t2, rfl, ht2⟩ := pr_at dy
        have S05 := S4.trans S5
        have nx : rowsOf ks (rs.take (j + 1)) i p = rowsOf ks (rs.take j) i p ++ ((wishI ks r.1 r.2 p).map fun q => (⟨i, j, q⟩ : Wr)).toList := rows_next hr0
        have wi : wishI ks r.1 r.2 p = if r.1 ≤ p ∧ p ≤ r.2 then none else if ks.any (fun k => decide ((wishE r.1 r.2 p).1 ≤ k ∧ k ≤ (wishE r.1 r.2 p).2)) = true then none else some (wishE r.1 r.2 p) := rfl
        refine g_gtup (SqT.of e5) rfl ?_
        with_reducible refine g_gcons ?_
        with_reducible refine g_name ?_
        with_reducible refine g_gcons ?_
        with_reducible refine g_name ?_
        with_reducible refine g_gnil ?_
        with_reducible refine g_seq ?_
        with_reducible refine g_asg ?_
        refine g_cutE (fun v H1 => ∃ t1, v = .ref t1 ∧ Same H5 H1 ∧ H1 t1 = some (.lst ((spanN (wishE r.1 r.2 p).1 (wishE r.1 r.2 p).2).map V.int))) (fun Q' kq => ?_) ?_
        · walk_at "gg"
          refine g_ix2 ht2 rfl ?_
          walk_at "gg"
          unfold wishE at kq
          by_cases h3 : r.2 < p
          · refine g_ifT (decide_eq_true h3) ?_
            rw [if_pos h3] at kq
            show tOp _ _ _ _ _ _
            walk_at "gg"
            refine g_ix2 ht2 rfl ?_
            walk_at "gg"
            refine ⟨_, _, rfl, rfl, ⟨by omega, by omega, by omega, by omega, by omega⟩, fun q nq => kq _ _ ⟨q, rfl, same_new nq, ?_⟩⟩
            have z := rgV_span r.2 (p - 1)
            rw [show p - 1 + 1 = p by omega] at z
            rw [← z]
            exact upd_same
          · refine g_ifF (decide_eq_false h3) ?_
            rw [if_neg h3] at kq
            show tOp _ _ _ _ _ _
            walk_at "gg"
            refine g_ix2 ht2 rfl ?_
            walk_at "gg"
            refine ⟨_, _, rfl, rfl, ⟨by omega, by omega, by omega, by omega, by omega⟩, fun q nq => kq _ _ ⟨q, rfl, same_new nq, ?_⟩⟩
            rw [← rgV_span (p + 1) r.1]
            exact upd_same
        · rintro _ H6 ⟨t6, rfl, S6, e6⟩
          have S06 := S05.trans S6
          have ht6 := same_sqT S6 ht2
          have keep : acc.length ≤ 30 * i + (j + 1) := by omega
          have d6 := dp_sameAll (S5.trans S6) _ _ d4
          have e46 := (S5.trans S6) _ _ e4
          have eb : (spanN (wishE r.1 r.2 p).1 (wishE r.1 r.2 p).2).length ≤ 100000 := by
            unfold spanN wishE
            rw [List.length_map, List.length_range]
            split <;> simp only <;> omega
          generalize wishE r.1 r.2 p = q at wi e6 eb
          walk_at "gg"
          refine g_ix2 ht6 rfl ?_
          walk_at "gg"
          have skip : wishI ks r.1 r.2 p = none → ∀ H', Same H6 H' → DpAll K H' acc (((wishRows ks rs (ps.take i) ++ rowsOf ks (rs.take (j + 1)) i p).map rowPr).map Kd.D) := fun z H' S' => by
            rw [z] at nx
            have z2 : rowsOf ks (rs.take j) i p ++ (Option.map (fun q => (⟨i, j, q⟩ : Wr)) none).toList = rowsOf ks (rs.take j) i p := List.append_nil _
            rw [nx, z2]
            exact dp_sameAll S' _ _ d6
          by_cases nb : r.1 ≤ p ∧ p ≤ r.2
          · refine g_ifT (decide_eq_true nb.1) ?_
            walk_at "gg"
            refine g_ix2 ht6 rfl ?_
            walk_at "gg"
            refine g_ifF (by rw [decide_eq_true nb.2]; rfl) ?_
            refine g_ifF rfl ?_
            walk_at "gg"
            exact ⟨acc, _, _, _, _, rfl, S06, e46, skip (by rw [wi, if_pos nb]) _ (Same.refl _), keep⟩
          rw [if_neg nb] at wi
          have filt : (spanN q.1 q.2).filter (fun k => decide (k ∈ ks)) = [] ↔ ks.any (fun k => decide (q.1 ≤ k ∧ k ≤ q.2)) = false := by
            rw [List.filter_eq_nil_iff, List.any_eq_false]
            constructor
            · intro h x hx hd
              have := of_decide_eq_true hd
              exact h x (spanN_mem.mpr this) (decide_eq_true hx)
            · intro h x hx hd
              exact h x (of_decide_eq_true hd) (decide_eq_true (spanN_mem.mp hx))
          by_cases c1 : r.1 ≤ p
          refine g_ifT (decide_eq_true c1) ?_
          walk_at "gg"
          refine g_ix2 ht6 rfl ?_
          walk_at "gg"
          refine g_ifT (by rw [decide_eq_false (fun z => nb ⟨c1, z⟩)]; rfl) ?_
          rotate_left
          refine g_ifF (decide_eq_false c1) ⟨_, rfl, ?_⟩
          refine g_ifT rfl ?_
          all_goals
            walk_at "gg"
            refine g_exL (SqL.of e6) ?_
            refine lc_filtI (SqL.of e6) eb (fun x => decide (x ∈ ks)) (fun m H' Nx No hm S ky kn => ?_) fun D7 H7 n7 S7 e7 => ?_
            · walk_at "gg"
              refine ⟨rfl, ?_⟩
              walk_at "gg"
              refine g_inI (SqL.of ((S06.trans S) _ _ ha)) ?_
              walk_at "gg"
              by_cases c : m ∈ ks
              · refine g_ifT (decide_eq_true c) ?_
                walk_at "gg"
                exact ky _ (Same.refl _) (decide_eq_true c)
              · refine g_ifF (decide_eq_false c) ?_
                exact kn _ (Same.refl _) (decide_eq_false c)
            walk_at "gg"
            refine g_mkL (by walk_at "ln") fun p8 H8 n8 S8 e8 => ?_
            walk_at "gg"
            refine g_eqL (β := Int) (bs := []) (ptsI (S8 _ _ e7)) ⟨[], e8, .nil⟩ ?_
            refine ⟨_, rfl, ?_⟩
            have S68 := S7.trans S8
            by_cases c2 : (spanN q.1 q.2).filter (fun k => decide (k ∈ ks)) = []
            · refine g_ifT (dcT c2) ?_
              have an := filt.mp c2
              rw [if_neg (by rw [an]; decide)] at wi
              rw [wi] at nx
              walk_at "gg"
              refine g_tyL (S68 _ _ e46) ?_
              walk_at "gg"
              refine g_mkT (by walk_at "ln") fun t9 H9 n9 S9 e9 => ?_
              walk_at "gg"
              have e49 := S9 _ _ (S68 _ _ e46)
              refine g_appB e49 (by omega) fun H10 B10 e10 => ?_
              walk_at "gg"
              have nt : t9 ≠ l := fun z => by
                rw [z, S68 _ _ e46] at n9
                cases n9
              refine ⟨_, _, _, _, _, rfl, same_but ((S06.trans S68).trans S9) n1 B10, e10, ?_, by rw [List.length_append]; simp only [List.length_cons, List.length_nil]; omega⟩
              have z2 : ((wishRows ks rs (ps.take i) ++ (rowsOf ks (rs.take j) i p ++ (Option.map (fun q => (⟨i, j, q⟩ : Wr)) (some q)).toList)).map rowPr).map (Kd.D (α := Pr)) = ((wishRows ks rs (ps.take i) ++ rowsOf ks (rs.take j) i p).map rowPr).map Kd.D ++ [Gx.prD (i, j)] := by
                simp only [List.map_append, List.append_assoc]
                rfl
              rw [nx, z2]
              exact dpAll_append (dp_butAll e49 B10 _ _ (kd_nols _) (dp_sameAll (S68.trans S9) _ _ d6)) (.cons (.tup (SqT.of (B10 _ _ nt e9)) (.cons (.int _) (.cons (.int _) .nil))) .nil)
            · refine g_ifF (dcF c2) ?_
              have an : ks.any (fun k => decide (q.1 ≤ k ∧ k ≤ q.2)) = true := by
                cases z : ks.any (fun k => decide (q.1 ≤ k ∧ k ≤ q.2)) with
                | true => rfl
                | false => exact absurd (filt.mpr z) c2
              rw [if_pos an] at wi
              walk_at "gg"
              exact ⟨acc, _, _, _, _, rfl, S06.trans S68, S68 _ _ e46, skip wi _ S68, keep⟩
      · rintro σ H4 ⟨acc, v6, v7, v8, v9, rfl, S4, e4, d4, l4⟩
        refine ⟨acc, _, _, _, _, _, _, rfl, S4, e4, ?_, by rw [lny] at l4; omega⟩
        have z : wishRows ks rs (ps.take (i + 1)) = wishRows ks rs (ps.take i) ++ rowsOf ks rs i p := wish_next hp
        rw [z]
        rw [lny, List.take_length] at d4
        exact d4
    · rintro σ H2 ⟨acc, v4, v5, v6, v7, v8, v9, rfl, S2, e2, d2, l2⟩
      rw [List.length_map, List.take_length] at d2
      walk_at "gg"
      exact k l H2 n1 S2 ⟨acc, e2, d2⟩
end
end Gk

set_option maxHeartbeats 1000000
/-! dicts whose keys are nested tuples: get, pop, store, a new one -/
namespace Gx
open PySem L2 PySem.Spec PyProof.Rows
/-- without the key -/
def dropB (kvs : Kvs) (k : NestedKey) : Kvs := kvs.filter fun p => decide (p.1 ≠ k)
section
variable {X : Cx} {pins : List (Addr × Obj)} {σ : L2.St} {H : Hp} {s : Shared} {D a : Addr} {kvs : Kvs} {k : NestedKey}
/-- d.m(..), d such a dict -/
def IsB (K : PySem.W.Frag) (P : Program) (w : World) (x : V) (H : Hp) : Prop := ∃ a kvs, x = .ref a ∧ DTab K P w H a kvs
def tBMB (K : PySem.W.Frag) (P : Program) (w : World) (r : V → List V → Hp → VK → Prop) (to : TE) (t : TA) : TE := fun σ H Q => to σ H fun x H1 => IsB K P w x H1 ∧ t σ H1 fun xs H2 => r x xs H2 Q
variable {name : Str} {id : String} {e o : Expr} {es : List Expr} {r : V → List V → Hp → VK → Prop} {to : TE} {t : TA} {apos cpos : Pos}
def rGetB (K : PySem.W.Frag) (P : Program) (w : World) : V → List V → Hp → VK → Prop := fun x xs H Q => ∃ (D a : Addr) (kvs : Kvs) (k : NestedKey) (d : V), x = .ref D ∧ xs = [.ref a, d] ∧ DTab K P w H D kvs ∧ Dp K H (.ref a) k.data ∧ k.depth ≤ 8 ∧ Q ((atB kvs k).getD d) H
def rPopB (K : PySem.W.Frag) (P : Program) (w : World) : V → List V → Hp → VK → Prop := fun x xs H Q => ∃ (D a : Addr) (kvs : Kvs) (k : NestedKey) (d : V), x = .ref D ∧ xs = [.ref a, d] ∧ DTab K P w H D kvs ∧ Dp K H (.ref a) k.data ∧ k.depth ≤ 8 ∧
  (∀ v, atB kvs k = some v → Q v (upd H D (DictBO P w D (dropB kvs k)))) ∧ (atB kvs k = none → Q d H)
/-- D[k] = v -/
def PutB (K : PySem.W.Frag) (P : Program) (w : World) (x y v : V) (D' : Ends) (σ : L2.St) (H : Hp) : Prop := ∃ (D a : Addr) (kvs : Kvs) (k : NestedKey), x = .ref D ∧ y = .ref a ∧ DTab K P w H D kvs ∧ kvs.length < sizeLine ∧ Dp K H (.ref a) k.data ∧ k.depth ≤ 8 ∧ D'.nx σ (upd H D (DictBO P w D (putB kvs k a v)))
def sDPutB (K : PySem.W.Frag) (P : Program) (w : World) (td ty tv : TE) : TS := fun D σ H => tv σ H fun v H1 => td σ H1 fun x H2 => ty σ H2 fun y H3 => PutB K P w x y v D σ H3
def tDNewB (P : Program) (w : World) : TE := fun _ H Q => ∀ p, H p = none → Q (.ref p) (upd H p (DictBO P w p []))
end
section
variable {K : PySem.W.Frag} {P : Program} {w : World} {H : Hp} {σ : L2.St} {Q : VK} {D a : Addr} {kvs : Kvs} {k : NestedKey}
end
end Gx

/-! dicts whose keys are nested tuples: d[k] -/
namespace Gx
open PySem L2 PySem.Spec PyProof.Rows
def rIxB (K : PySem.W.Frag) (P : Program) (w : World) : R2 := fun x y H Q => ∃ (D a : Addr) (kvs : Kvs) (k : NestedKey) (v : V), x = .ref D ∧ y = .ref a ∧ DTab K P w H D kvs ∧ Dp K H (.ref a) k.data ∧ k.depth ≤ 8 ∧ atB kvs k = some v ∧ Q v H
theorem ix_B {X : Cx} (hu : X.A.units + 64 < cLine) : IxR X (rIxB X.K X.prog X.w) := by
  intro value slice pins s σ H x y v u Q I rx ry h hs
  obtain ⟨D, a, kvs, k, r, rfl, rfl, dt, da, dk, e, q⟩ := h
  cases rx
  cases ry
  obtain ⟨z, hd, xs', rel, dd⟩ := dtab_get I dt
  obtain ⟨e1, e2⟩ := atB_rel rel k
  cases c : atKey xs' k with
  | none =>
    rw [c, e] at e1
    cases e1
  | some p =>
    obtain ⟨v0, ev, rv⟩ := e2 p c
    rw [ev] at e
    obtain rfl := Option.some.inj e
    exact tail_any dd.typeIs PySem.F.slot_dict_getitem.lookup (wpAny_getItem_heap (show X.A.in1.units + 8 < cLine by rw [Around.in1_units]; omega) (key_is I da dk) dd c ⟨_, H, I.tok _, rv, q⟩) hs
theorem g_ixB {K : PySem.W.Frag} {P : Program} {w : World} {H : Hp} {D a : Addr} {kvs : Kvs} {k : NestedKey} {v : V} {Q : VK} (dt : DTab K P w H D kvs) (da : Dp K H (.ref a) k.data) (dk : k.depth ≤ 8) (e : atB kvs k = some v) (q : Q v H) : rIxB K P w (.ref D) (.ref a) H Q := ⟨D, a, kvs, k, v, rfl, rfl, dt, da, dk, e, q⟩
end Gx

set_option maxHeartbeats 4000000
/-! module gapreach.spacers: the table of wished rows; what shows_separate asks -/
namespace Gk
open PySem L2 Gx
/-- the interval of a pair: that of the last such row -/
def wishAt (rows : List Wr) (p : Pr) : Option Pr := (rows.reverse.find? fun r => decide ((r.i, r.j) = p)).map (·.q)
theorem wishAt_snoc (rows : List Wr) (r : Wr) (p : Pr) : wishAt (rows ++ [r]) p = if (r.i, r.j) = p then some r.q else wishAt rows p := by
  unfold wishAt
  rw [List.reverse_append, List.reverse_singleton, List.singleton_append, List.find?_cons]
  by_cases h : (r.i, r.j) = p
  · rw [if_pos h]
    simp [h]
  · rw [if_neg h]
    simp [h]
def WTab (K : PySem.W.Frag) (P : Program) (w : World) (H : Hp) (D : Addr) (rows : List Wr) : Prop := ∃ kvs, DTab K P w H D kvs ∧ kvs.length ≤ rows.length ∧
  ∀ p : Pr, match wishAt rows p with
    | none => atB kvs (nkP p) = none
    | some q => ∃ v, atB kvs (nkP p) = some v ∧ Dp K H v (Gx.prD q)
section
variable {K : PySem.W.Frag} {P : Program} {w : World} {H H' : Hp} {D : Addr} {rows : List Wr}
theorem WTab.same (h : WTab K P w H D rows) (s : Same H H') : WTab K P w H' D rows := by
  obtain ⟨kvs, d, l, q⟩ := h
  refine ⟨kvs, d.same s, l, fun p => ?_⟩
  have z := q p
  cases e : wishAt rows p with
  | none =>
    rw [e] at z
    exact z
  | some r =>
    rw [e] at z
    obtain ⟨v, e1, e2⟩ := z
    exact ⟨v, e1, dp_same s _ _ e2⟩
theorem WTab.put {y z : V} {r : Wr} {N : Hp → Prop} (h : WTab K P w H D rows) (few : rows.length < sizeLine) (d : Dp K H y (Gx.prD (r.i, r.j))) (dz : Dp K H z (Gx.prD r.q)) (k : ∀ o, WTab K P w (upd H D o) D (rows ++ [r]) → N (upd H D o)) : PutD K P w D y z H N := by
  obtain ⟨kvs, e, l, m⟩ := h
  have d0 := d
  obtain ⟨t, rfl, ht⟩ := pr_at d
  have odd : Odd (DictBO P w D kvs) := ⟨fun xs z => (by cases z), fun xs z => (by cases z), fun ob u z => (by cases z)⟩
  have stay : ∀ (d : PyData) (v : V), Dp K H v d → Dp K (upd H D (DictBO P w D (putB kvs (nkP (r.i, r.j)) t z))) v d := dp_odd e.1 odd fun b o nb hb => by rw [upd_ne nb]; exact hb
  refine .inr ⟨kvs, nkP (r.i, r.j), t, rfl, e, by omega, d0, nkP_dep _, k _ ⟨_, ⟨upd_same, fun p hp => ?_⟩, Nat.le_trans (putB_len _ _ _ _) (by rw [List.length_append]; exact Nat.succ_le_succ l), fun p => ?_⟩⟩
  · unfold putB at hp
    split at hp
    · obtain ⟨q, hq, rfl⟩ := List.mem_map.mp hp
      have := e.2 q hq
      split
      · exact ⟨this.1, stay _ _ this.2⟩
      · exact ⟨this.1, stay _ _ this.2⟩
    · rcases List.mem_append.mp hp with q | q
      · exact ⟨(e.2 p q).1, stay _ _ (e.2 p q).2⟩
      · rw [List.mem_singleton.mp q]
        exact ⟨nkP_dep _, stay _ _ d0⟩
  · rw [wishAt_snoc, atB_put]
    by_cases c : (r.i, r.j) = p
    · rw [if_pos c, if_pos (by rw [c])]
      exact ⟨z, rfl, stay _ _ dz⟩
    · rw [if_neg c, if_neg (fun x => c (nkP_inj.mp x).symm)]
      have q := m p
      cases e1 : wishAt rows p with
      | none =>
        rw [e1] at q
        exact q
      | some x =>
        rw [e1] at q
        obtain ⟨v, f1, f2⟩ := q
        exact ⟨v, f1, stay _ _ f2⟩
theorem dc_wish {σ : L2.St} {H1 : Hp} {Q : VK} {tk tv : TE} {g : TG} {vs : List Nat} {a : Addr} (h : DtL K H1 a rows) (hn : rows.length ≤ 100000)
    (turn : ∀ (x : V) (r : Wr) H' (Nx : V → V → Hp → Prop), r ∈ rows → Dp K H' x (wrD r) → Same H1 H' → (∀ y z H4, Same H' H4 → Dp K H4 y (Gx.prD (r.i, r.j)) → Dp K H4 z (Gx.prD r.q) → Nx y z H4) → g x (wipe σ vs) H' fun σ2 H2 => wipe σ2 vs = wipe σ vs ∧ tk σ2 H2 fun y H3 => tv σ2 H3 fun z H4 => Nx y z H4)
    (done : ∀ D H', H1 D = none → Same H1 H' → WTab K P w H' D rows → Q (.ref D) H') : DCB K P w g tYes tk tv vs (Itl K a) σ H1 Q := by
  intro D hD
  obtain ⟨xs, e, dd⟩ := h
  have ln : xs.length = rows.length := by rw [dpAll_len dd, List.length_map]
  refine ⟨DictBO P w D [], .inr rfl, fun i m H => m = rows.length - i ∧ i ≤ rows.length ∧ Same H1 H ∧ WTab K P w H D (rows.take i), ⟨rows.length, rfl, Nat.zero_le _, same_new hD, [], ⟨upd_same, fun p h => by cases h⟩, Nat.le_refl _, fun p => rfl⟩, ?_⟩
  rintro i m H ⟨rfl, hi, s, keys⟩
  rcases Nat.lt_or_ge i rows.length with lt | ge
  · right
    obtain ⟨go, yl⟩ := (src_list (SqL.of e) i H s).1 (by omega)
    refine ⟨go, fun H' => i + 1 ≤ rows.length ∧ Same H1 H' ∧ WTab K P w H' D (rows.take (i + 1)), fun H' ⟨l1, q⟩ => ⟨rows.length - (i + 1), by omega, rfl, l1, q⟩, fun x H' y => ?_⟩
    obtain ⟨s2, it⟩ := yl x H' y
    have s12 := s.trans s2
    obtain ⟨b, hb, hx⟩ := datas_at (dp_sameAll s12 _ _ dd) it
    have tk : rows.take (i + 1) = rows.take i ++ [b] := by
      rw [List.take_succ, hb]
      rfl
    refine turn x b H' (fun y z H5 => PutD K P w D y z H5 fun H' => i + 1 ≤ rows.length ∧ Same H1 H' ∧ WTab K P w H' D (rows.take (i + 1))) (List.mem_of_getElem? hb) hx s12 fun y z H4 s4 dy dz => ?_
    refine (keys.same (s2.trans s4)).put (big_lt (by rw [List.length_take]; omega)) dy dz fun o q => ⟨lt, same_mut (s12.trans s4) hD, ?_⟩
    rw [tk]
    exact q
  · left
    have e0 : i = rows.length := Nat.le_antisymm hi ge
    subst e0
    rw [List.take_length] at keys
    exact ⟨(src_list (SqL.of e) _ H s).2 (by omega), done D H hD s keys⟩
theorem g_notW {y : V} {p : Pr} {Q : VK} (h : WTab K P w H D rows) (d : Dp K H y (Gx.prD p)) (q : Q (.bl (!(wishAt rows p).isSome)) H) : rKey K P w true y (.ref D) H Q := by
  obtain ⟨kvs, e, l, m⟩ := h
  have d0 := d
  obtain ⟨r, rfl, t⟩ := pr_at d
  refine .inr ⟨r, D, kvs, nkP p, rfl, rfl, e, d0, nkP_dep p, ?_⟩
  have z := m p
  cases e1 : wishAt rows p with
  | none =>
    rw [e1] at z q
    rw [z]
    exact q
  | some x =>
    rw [e1] at z q
    obtain ⟨v, f, _⟩ := z
    rw [f]
    exact q
theorem g_ixW {y : V} {p q : Pr} {Q : VK} (h : WTab K P w H D rows) (d : Dp K H y (Gx.prD p)) (e : wishAt rows p = some q) (k : ∀ v, Dp K H v (Gx.prD q) → Q v H) : rIxB K P w (.ref D) y H Q := by
  obtain ⟨kvs, e0, l, m⟩ := h
  have d0 := d
  obtain ⟨r, rfl, t⟩ := pr_at d
  have z := m p
  rw [e] at z
  obtain ⟨v, f, dv⟩ := z
  exact g_ixB (k := nkP p) e0 d0 (nkP_dep p) f (k v dv)
end
/-- a pair, as data -/
def isPrD : PyData → Bool
  | .tuple [.int _, .int _] => true
  | _ => false
theorem isPrD_two (d1 d2 : PyData) : isPrD (.tuple [d1, d2]) = (isIntD d1 && isIntD d2) := by
  cases d1 <;> cases d2 <;> rfl
theorem isPrD_some {d : PyData} (h : isPrD d = true) : d = Gx.prD (spanD d) := by
  unfold isPrD at h
  split at h
  · rfl
  · cases h
theorem prs_of : ∀ {ds : List PyData}, (∀ d ∈ ds, isPrD d = true) → ds = (ds.map spanD).map Kd.D
  | [], _ => rfl
  | d :: ds, h => by
    rw [List.map_cons, List.map_cons, ← prs_of (ds := ds) fun z hz => h z (List.mem_cons_of_mem _ hz)]
    exact congrArg (· :: ds) (isPrD_some (h d List.mem_cons_self))
theorem row_cases {K : PySem.W.Frag} {H : Hp} {x : V} {d : PyData} (h : Dp K H x d) :
    (∃ t, TyX K H x t ∧ PySem.W.kitOne K t (.type "tuple") = some false ∧ isPrD d = false) ∨ ∃ a xs ds, x = .ref a ∧ d = .tuple ds ∧ SqT K H a xs ∧ DpAll K H xs ds := by
  cases h with
  | non => exact .inl ⟨_, .base .non, kit_ty (by decide +kernel), rfl⟩
  | bl c => exact .inl ⟨_, .base (.bl c), kit_ty (by decide +kernel), rfl⟩
  | int i => exact .inl ⟨_, .base (.int i), kit_ty (by decide +kernel), rfl⟩
  | str x => exact .inl ⟨_, .base (.str x), kit_ty (by decide +kernel), rfl⟩
  | lst a b => exact .inl ⟨_, sqL_ty a, kit_ty (by decide +kernel), rfl⟩
  | @tup a xs ds e b => exact .inr ⟨a, xs, ds, rfl, rfl, e, b⟩
theorem isPrD_len {ds : List PyData} (h : ds.length ≠ 2) : isPrD (.tuple ds) = false := by
  unfold isPrD
  split
  · rename_i a b e
    injection e with e
    rw [e] at h
    exact absurd rfl h
  · rfl
theorem filt_get {β γ : Type} {f : β → Option γ} {z : γ} : ∀ {ds : List β}, (∀ d ∈ ds, (f d).isSome = true) → ds.filterMap f = ds.map fun d => (f d).getD z
  | [], _ => rfl
  | d :: ds, h => by
    obtain ⟨q, hq⟩ := Option.isSome_iff_exists.mp (h d List.mem_cons_self)
    rw [List.filterMap_cons, hq, List.map_cons, filt_get (fun u hu => h u (List.mem_cons_of_mem _ hu)), hq]
    rfl
/-- is it the pair of a wished row? -/
def rowOk (rows : List Wr) (d : PyData) : Bool := isPrD d && (wishAt rows (spanD d)).isSome
def apartL (ps : List Int) (qs : List Pr) : List Bool := (List.range qs.length).flatMap fun i => (qs.take i).map fun o => apartI ps (qs.getD i (0, 0)) o
def upP (as : List Pr) : Bool := (List.zipWith (Kd.lt (α := Pr)) as (as.drop 1)).all id
/-- does the thing show separate waits? -/
def showT (ks : List Int) (rs : List Pr) (ps : List Int) : Option (List PyData) → Bool
  | none => false
  | some ds => ds.all (rowOk (wishRows ks rs ps)) && (upP (ds.map spanD) && (apartL ps (ds.map fun d => (wishAt (wishRows ks rs ps) (spanD d)).getD (0, 0))).all id)
end Gk

/-! module gapreach.spacers: shows_separate -/
namespace Gk
open PySem L2 Gx
open C8 (Cal Met Mak pe_c pe_mt pe_mt0 pe_mk pe_gc)
local macro_rules | `(tactic| walk_at "g") => `(tactic| (first
  | with_reducible refine g_seq ?_ | with_reducible refine g_asg ?_ | ((with_reducible show tVar _ _ _ _); refine g_var rfl ?_) | with_reducible refine g_c ?_ | with_reducible refine g_name ?_ | with_reducible refine g_op ?_ | with_reducible refine g_I0 ?_
  | with_reducible refine g_cons ?_ | with_reducible refine g_nil ?_ | with_reducible refine g_exbl ?_ | with_reducible refine g_exint ?_ | with_reducible refine g_test ?_ | with_reducible refine g_B ?_ | with_reducible refine g_ifS ?_ | with_reducible refine g_ret ?_ | with_reducible refine g_retN ?_ | with_reducible refine g_next ?_
  | with_reducible refine g_CB ?_ | with_reducible refine g_sub ?_ | with_reducible refine g_drop ?_ | with_reducible refine g_not ?_ | with_reducible refine g_and ?_ | with_reducible refine g_or ?_ | with_reducible refine g_andV ?_ | with_reducible refine g_orV ?_ | with_reducible refine g_notV ?_ | with_reducible refine g_ifE ?_ | with_reducible refine g_isN ?_
  | with_reducible refine g_par ?_ | with_reducible refine g_expar ?_ | with_reducible refine g_chain ?_ | with_reducible refine g_un ?_ | with_reducible refine g_U ?_ | with_reducible refine g_bits ?_ | ((with_reducible show rEq _ _ _ _); refine g_eq rfl ?_) | ((with_reducible show rNe _ _ _ _); refine g_ne rfl ?_)
  | with_reducible refine g_for ?_ | with_reducible refine g_iRng1 ?_ | with_reducible refine g_iRng2 ?_ | with_reducible refine g_iList ?_ | with_reducible refine g_iTup ?_
  | ((with_reducible refine g_Imul ?hc ?_); (case hc => (first | (refine Or.inl ⟨?_, ?_⟩ <;> first | decide | omega) | (refine Or.inr ⟨?_, ?_⟩ <;> first | decide | omega))))
  | ((with_reducible refine g_Idiv ?hc ?_); (case hc => (first | (exact ⟨by decide, by decide⟩) | assumption)))
  | ((with_reducible refine g_Imod ?hc ?_); (case hc => (first | assumption | omega | decide)))
  | ((with_reducible refine g_exR1 ?hlo ?hhi ?_); (case hlo => omega); (case hhi => omega))
  | ((with_reducible refine g_exR2 ?hb ?_); (case hb => omega))
  | with_reducible refine g_lst ?_ | with_reducible refine g_tup ?_ | with_reducible refine g_call ?_ | with_reducible refine g_BM ?_ | with_reducible refine g_BM0 ?_
  | with_reducible refine g_intB ?_ | with_reducible refine g_lc ?_ | with_reducible refine g_yes ?_ | with_reducible refine g_iZip ?_ | with_reducible refine g_sl ?_ | with_reducible refine g_noP ?_ | with_reducible refine g_part ?_ | with_reducible refine g_gcons ?_ | with_reducible refine g_gnil ?_
  | with_reducible refine g_tfld ?_ | with_reducible refine g_tmeth ?_ | with_reducible refine g_tmake ?_ | with_reducible refine g_sfld ?_ | with_reducible refine g_tprop ?_ | with_reducible refine g_tstar ?_ | with_reducible refine g_tmethK ?_ | with_reducible refine g_isN1 ?_ | with_reducible refine g_notN1 ?_ | with_reducible refine g_callK0 ?_ | with_reducible refine g_m1 ?_ | with_reducible refine g_isstr ?_ | with_reducible refine g_iStr ?_ | with_reducible refine g_exS ?_ | with_reducible refine g_iEnum ?_))
local macro_rules | `(tactic| walk_at "gs1") => `(tactic| (first
  | with_reducible refine g_seq ?_ | with_reducible refine g_asg ?_ | ((with_reducible show tVar _ _ _ _); refine g_var rfl ?_) | with_reducible refine g_c ?_ | with_reducible refine g_name ?_ | with_reducible refine g_op ?_ | with_reducible refine g_I0 ?_
  | with_reducible refine g_cons ?_ | with_reducible refine g_nil ?_ | with_reducible refine g_exbl ?_ | with_reducible refine g_exint ?_ | with_reducible refine g_test ?_ | with_reducible refine g_B ?_ | with_reducible refine g_ifS ?_ | with_reducible refine g_retN ?_ | with_reducible refine g_next ?_
  | with_reducible refine g_CB ?_ | with_reducible refine g_sub ?_ | with_reducible refine g_drop ?_ | with_reducible refine g_not ?_ | with_reducible refine g_and ?_ | with_reducible refine g_or ?_ | with_reducible refine g_andV ?_ | with_reducible refine g_orV ?_ | with_reducible refine g_notV ?_ | with_reducible refine g_ifE ?_ | with_reducible refine g_isN ?_
  | with_reducible refine g_par ?_ | with_reducible refine g_expar ?_ | with_reducible refine g_chain ?_ | with_reducible refine g_un ?_ | with_reducible refine g_U ?_ | with_reducible refine g_bits ?_ | ((with_reducible show rEq _ _ _ _); refine g_eq rfl ?_) | ((with_reducible show rNe _ _ _ _); refine g_ne rfl ?_)
  | with_reducible refine g_for ?_ | with_reducible refine g_iRng1 ?_ | with_reducible refine g_iRng2 ?_ | with_reducible refine g_iList ?_ | with_reducible refine g_iTup ?_
  | ((with_reducible refine g_Imul ?hc ?_); (case hc => (first | (refine Or.inl ⟨?_, ?_⟩ <;> first | decide | omega) | (refine Or.inr ⟨?_, ?_⟩ <;> first | decide | omega))))
  | ((with_reducible refine g_Idiv ?hc ?_); (case hc => (first | (exact ⟨by decide, by decide⟩) | assumption)))
  | ((with_reducible refine g_Imod ?hc ?_); (case hc => (first | assumption | omega | decide)))
  | ((with_reducible refine g_exR1 ?hlo ?hhi ?_); (case hlo => omega); (case hhi => omega))
  | ((with_reducible refine g_exR2 ?hb ?_); (case hb => omega))
  | with_reducible refine g_lst ?_ | with_reducible refine g_tup ?_ | with_reducible refine g_call ?_ | with_reducible refine g_BM ?_ | with_reducible refine g_BM0 ?_
  | with_reducible refine g_intB ?_ | with_reducible refine g_lc ?_ | with_reducible refine g_yes ?_ | with_reducible refine g_iZip ?_ | with_reducible refine g_sl ?_ | with_reducible refine g_noP ?_ | with_reducible refine g_part ?_ | with_reducible refine g_gcons ?_ | with_reducible refine g_gnil ?_
  | with_reducible refine g_tfld ?_ | with_reducible refine g_tmeth ?_ | with_reducible refine g_tmake ?_ | with_reducible refine g_sfld ?_ | with_reducible refine g_tprop ?_ | with_reducible refine g_tstar ?_ | with_reducible refine g_tmethK ?_ | with_reducible refine g_isN1 ?_ | with_reducible refine g_notN1 ?_ | with_reducible refine g_callK0 ?_ | with_reducible refine g_m1 ?_ | with_reducible refine g_isstr ?_ | with_reducible refine g_iStr ?_ | with_reducible refine g_exS ?_ | with_reducible refine g_iEnum ?_))
local macro_rules | `(tactic| walk_at "gx1") => `(tactic| (first
  | with_reducible refine g_seq ?_ | with_reducible refine g_asg ?_ | ((with_reducible show tVar _ _ _ _); refine g_var rfl ?_) | with_reducible refine g_c ?_ | with_reducible refine g_name ?_ | with_reducible refine g_op ?_ | with_reducible refine g_I0 ?_
  | with_reducible refine g_cons ?_ | with_reducible refine g_nil ?_ | with_reducible refine g_exbl ?_ | with_reducible refine g_exint ?_ | with_reducible refine g_test ?_ | with_reducible refine g_B ?_ | with_reducible refine g_ifS ?_ | with_reducible refine g_retN ?_ | with_reducible refine g_next ?_
  | with_reducible refine g_CB ?_ | with_reducible refine g_sub ?_ | with_reducible refine g_drop ?_ | with_reducible refine g_not ?_ | with_reducible refine g_and ?_ | with_reducible refine g_or ?_ | with_reducible refine g_andV ?_ | with_reducible refine g_orV ?_ | with_reducible refine g_notV ?_ | with_reducible refine g_ret ?_ | with_reducible refine g_isN ?_
  | with_reducible refine g_par ?_ | with_reducible refine g_expar ?_ | with_reducible refine g_chain ?_ | with_reducible refine g_un ?_ | with_reducible refine g_U ?_ | with_reducible refine g_bits ?_ | ((with_reducible show rEq _ _ _ _); refine g_eq rfl ?_) | ((with_reducible show rNe _ _ _ _); refine g_ne rfl ?_)
  | with_reducible refine g_for ?_ | with_reducible refine g_iRng1 ?_ | with_reducible refine g_iRng2 ?_ | with_reducible refine g_iList ?_ | with_reducible refine g_iTup ?_
  | ((with_reducible refine g_Imul ?hc ?_); (case hc => (first | (refine Or.inl ⟨?_, ?_⟩ <;> first | decide | omega) | (refine Or.inr ⟨?_, ?_⟩ <;> first | decide | omega))))
  | ((with_reducible refine g_Idiv ?hc ?_); (case hc => (first | (exact ⟨by decide, by decide⟩) | assumption)))
  | ((with_reducible refine g_Imod ?hc ?_); (case hc => (first | assumption | omega | decide)))
  | ((with_reducible refine g_exR1 ?hlo ?hhi ?_); (case hlo => omega); (case hhi => omega))
  | ((with_reducible refine g_exR2 ?hb ?_); (case hb => omega))
  | with_reducible refine g_lst ?_ | with_reducible refine g_tup ?_ | with_reducible refine g_call ?_ | with_reducible refine g_BM ?_ | with_reducible refine g_BM0 ?_
  | with_reducible refine g_intB ?_ | with_reducible refine g_lc ?_ | with_reducible refine g_yes ?_ | with_reducible refine g_iZip ?_ | with_reducible refine g_sl ?_ | with_reducible refine g_noP ?_ | with_reducible refine g_part ?_ | with_reducible refine g_gcons ?_ | with_reducible refine g_gnil ?_
  | with_reducible refine g_tfld ?_ | with_reducible refine g_tmeth ?_ | with_reducible refine g_tmake ?_ | with_reducible refine g_sfld ?_ | with_reducible refine g_tprop ?_ | with_reducible refine g_tstar ?_ | with_reducible refine g_tmethK ?_ | with_reducible refine g_isN1 ?_ | with_reducible refine g_notN1 ?_ | with_reducible refine g_callK0 ?_ | with_reducible refine g_m1 ?_ | with_reducible refine g_isstr ?_ | with_reducible refine g_iStr ?_ | with_reducible refine g_exS ?_ | with_reducible refine g_iEnum ?_))
local macro_rules | `(tactic| walk_at "hp") => `(tactic| (first | assumption | exact upd_same | (refine same_get (by assumption) ?_; walk_at "hp")))
local macro_rules | `(tactic| walk_at "sm") => `(tactic| (first | assumption | exact Same.refl _ | (refine Same.trans ?ha (by assumption); walk_at "sm")))
local macro_rules | `(tactic| walk_at "nn") => `(tactic| (first | assumption | (refine same_free (by assumption) ?_; walk_at "nn")))
local macro_rules | `(tactic| walk_at "sb") => `(tactic| (first | decide | (refine small_bits ?_ ?_ <;> omega)))
local macro_rules | `(tactic| walk_at "ln") => `(tactic| (simp only [List.length_cons, List.length_nil]; omega))
local macro_rules | `(tactic| walk_at "gg") => `(tactic| (repeat walk_at "g"))
local macro_rules | `(tactic| walk_at "gs") => `(tactic| (repeat walk_at "gs1"))
local macro_rules | `(tactic| walk_at "gx") => `(tactic| (repeat walk_at "gx1"))

local macro_rules | `(tactic| walk_at "g") => `(tactic| (first | with_reducible refine g_ownE ?_ | with_reducible refine g_cX ?_ | with_reducible refine g_cKX ?_))
section
variable {P : Program} {w : World} {K : PySem.W.Frag} {mg : Str → Option Value} {base : Heap} {X : Cx} {H : Hp}
def spShowT (K : PySem.W.Frag) (CE CR : Addr) : Sp := fun vs H Q E => ∃ (x y z t : V) (k r p o : Option (List PyData)), vs = [x, y, z, t] ∧ Th K H x k ∧ Th K H y r ∧ Th K H z p ∧ Th K H t o ∧
  (chk k r p = 0 → ∀ H', Same H H' → Q (.bl (showT (kI k) (rP r) (kI p) o)) H') ∧ (chk k r p = 1 → ∀ H', Same H H' → E (.ref CE) none H') ∧ (chk k r p = 2 → ∀ H', Same H H' → E (.ref CR) none H')
abbrev s_shows_separate : Stmt := top 22
abbrev N_shows_separate : List Str := ["keys", "ranges", "puts", "thing", "intervals", "row", "found", "index", "place", "interval", "one", "other"]
theorem sc_shows_separate : FnScope N_shows_separate ["keys", "ranges", "puts", "thing"] (defScope s_shows_separate) := ⟨rfl, rfl, rfl, by decide +kernel, rfl, by decide +kernel, by decide +kernel⟩

theorem ok_showT {f CE CR : Addr} {fd : FuncData} (D : Dn K mg "shows_separate" s_shows_separate ["keys", "ranges", "puts", "thing"] f fd) (T : Bt mg) (c_check_all : CalXN P w K mg base 3 "check_all" (spCheck K CE CR)) (c_wished_rows : Cal P w K mg base 2 "wished_rows" (spWishRows K) [])
    (c_is_whole : Cal P w K mg base 1 "is_whole" (spWhole K) []) (c_is_rising : Cal P w K mg base 1 "is_rising" (spRising Pr K) []) (c_are_apart : Cal P w K mg base 2 "are_apart" (spApart K) []) : CalXN P w K mg base 4 "shows_separate" (spShowT K CE CR) := by
  refine calXN_of D (okXN D.fn sc_shows_separate (fun vs H Q E h => ?_) (fun cdv A outer s H vs Q E hr h => ?_))
  · obtain ⟨x, y, z, t, k, r, p, o, rfl, _⟩ := h
    rfl
  · obtain ⟨x, y, z, t, k, r, p, o, rfl, hx, hy, hz, ht, k0, k1, k2⟩ := h
    refine ⟨_, (pss_cons (ps_expr (pe_cXN (E := WE (fun cls d _ H => E cls d H)) c_check_all hr (by decide) (by rfl) (fun σ => L2N.passAt (L2N.takes_of rfl rfl rfl rfl) σ) (pa_cons (pv 0) (pa_cons (pv 1) (pa_cons (pv 2) pa_nil)))))
    (pss_cons (ps_if (pt_not (pt_val (pe_callB call_isi (by rfl) T.n_isinstance bt_isinstance (pa_cons (pv 3) (pa_cons (pe_bltn (v := .ty "list") (by rfl) T.n_list bt_list rfl) pa_nil))))) (pss_one (ps_ret pe_bl)) pss_nil)
    (pss_cons (ps_set (i := 4) sc_shows_separate.nd rfl (Or.inr rfl) (pe_dcB (own := [("index", 7), ("place", 8), ("interval", 9)]) (g := gTup K 3 (gCons (gName 7) (gCons (gName 8) (gCons (gName 9) gNil)))) (tt := tYes) rfl hr.units sc_shows_separate.nd (pi_list (pe_c c_wished_rows hr (by decide) (by rfl) (pa_cons (pv 0) (pa_cons (pv 1) (pa_cons (pv 2) pa_nil))))) (blkOk_by (own := [("index", 7), ("place", 8), ("interval", 9)]) (N := N_shows_separate) (sc := defScope s_shows_separate) (by decide +kernel)) (fun _ _ _ _ _ => (pg_tup (by rfl) (pgs_cons (pg_name (i := 7) sc_shows_separate.nd rfl (Or.inl rfl)) (pgs_cons (pg_name (i := 8) sc_shows_separate.nd rfl (Or.inl rfl)) (pgs_cons (pg_name (i := 9) sc_shows_separate.nd rfl (Or.inl rfl)) pgs_nil))))) (fun _ _ _ _ _ => pts_nil) (fun _ _ _ _ _ => (pe_tup (pa_cons (pv 7) (pa_cons (pv 8) pa_nil)))) (fun _ _ _ _ _ => (pv 9))))
    (pss_cons (ps_for (passes_of rfl) rfl (pi_list (pv 3)) (pg_name (i := 5) sc_shows_separate.nd rfl (Or.inl rfl)) (pss_cons (ps_if (PW.pt (pw_or (pt_not (pt_val (pe_callB call_isi (by rfl) T.n_isinstance bt_isinstance (pa_cons (pv 5) (pa_cons (pe_bltn (v := .ty "tuple") (by rfl) T.n_tuple bt_tuple rfl) pa_nil))))) (pw_or (pt_cmpR op_ne (pe_callB cr_lenQ (by rfl) T.n_len bt_len (pa_cons (pv 5) pa_nil)) pe_int (nomark _)) (pw_or (pt_not (pt_val (pe_c c_is_whole hr (by decide) (by rfl) (pa_cons (pe_ix ix_tup (pv 5) pe_int (fun _ _ => rfl)) pa_nil)))) (pw_or1 (pt_not (pt_val (pe_c c_is_whole hr (by decide) (by rfl) (pa_cons (pe_ix ix_tup (pv 5) pe_int (fun _ _ => rfl)) pa_nil))))))))) (pss_one (ps_ret pe_bl)) pss_nil)
    (pss_one (ps_if (pt_cmpR (op_keyNot hr.units) (pv 5) (pv 4) (by rfl)) (pss_one (ps_ret pe_bl)) pss_nil))))
    (pss_cons (ps_if (pt_not (pt_val (pe_c c_is_rising hr (by decide) (by rfl) (pa_cons (pv 3) pa_nil)))) (pss_one (ps_ret pe_bl)) pss_nil)
    (pss_cons (ps_asg (pe_lc (own := [("row", 5)]) (g := gName 5) (tt := tYes) rfl sc_shows_separate.nd (pi_list (pv 3)) (blkOk_by (own := [("row", 5)]) (N := N_shows_separate) (sc := defScope s_shows_separate) (by decide +kernel)) (fun _ _ _ _ _ => pg_name (i := 5) sc_shows_separate.nd rfl (Or.inl rfl)) (fun _ _ _ _ _ => pts_nil) (fun _ _ _ _ _ => (pe_ix (show IxR _ (rIxB K P w) from ix_B hr.units) (pv 4) (pv 5) (fun _ _ => rfl)))) (pg_name (i := 6) sc_shows_separate.nd rfl (Or.inr rfl)))
    (pss_one (ps_ret (pe_callB (cr_all rfl) (by rfl) T.n_all bt_all (pa_cons (pe_lc2 (own := [("index", 7), ("one", 10), ("other", 11)]) (vs1 := [11]) (g := gTup K 2 (gCons (gName 7) (gCons (gName 10) gNil))) (g1 := gName 11) (tt := tYes) (tt1 := tYes) (wi1 := iList K (tSl (rSlL K) (tVar 6) tNoPart (tPart (tVar 7)))) rfl sc_shows_separate.nd (pi_enum (by rfl) T.n_enumerate (pa_cons (pv 6) pa_nil)) (blkOk_by (own := [("index", 7), ("one", 10), ("other", 11)]) (N := N_shows_separate) (sc := defScope s_shows_separate) (by decide +kernel)) (by decide) (fun _ _ _ _ _ => (pg_tup (by rfl) (pgs_cons (pg_name (i := 7) sc_shows_separate.nd rfl (Or.inl rfl)) (pgs_cons (pg_name (i := 10) sc_shows_separate.nd rfl (Or.inl rfl)) pgs_nil)))) (fun _ _ _ _ _ => pts_nil) (fun _ _ _ _ _ => (pi_list (pe_slice (show SlR _ (rSlL K) from sl_list) (pv 6) po_none (po_some (pv 7))))) (fun _ _ _ _ _ => pg_name (i := 11) sc_shows_separate.nd rfl (Or.inl rfl)) (fun _ _ _ _ _ => pts_nil) (fun _ _ _ _ _ => (pe_c c_are_apart hr (by decide) (by rfl) (pa_cons (pv 10) (pa_cons (pv 11) (pa_cons (pv 2) pa_nil)))))) pa_nil)))))))))), ?_⟩
    walk_at "gg"
    refine ⟨x, y, z, k, r, p, rfl, hx, hy, hz, fun c0 H1 S1 => ?_, fun c1 H1 S1 => k1 c1 H1 S1, fun c2 H1 S1 => k2 c2 H1 S1⟩
    obtain ⟨a, b, c, rfl, rfl, rfl, ha, hb, hc, lk, lr, lp⟩ := th_good hx hy hz c0
    walk_at "gg"
    cases ht with
    | no hn =>
      obtain ⟨t0, ty, _, no⟩ := hn
      refine g_isi (.ty "list") (tyX_same S1 ty) no ⟨_, rfl, ?_⟩
      refine g_ifT rfl ?_
      exact k0 c0 _ S1
    | @lst d xs ds e h l =>
      refine g_isi (.ty "list") (.base (.lst (S1 _ _ e))) (b := true) (kit_ty (by decide +kernel)) ⟨_, rfl, ?_⟩
      refine g_ifF rfl ?_
      have lnx := dpAll_len h
      walk_at "gg"
      refine g_dcB ?_
      walk_at "gg"
      refine ⟨a, b, c, _, _, _, rfl, S1 _ _ ha, hb.same S1, S1 _ _ hc, by omega, lr, lp, fun q H2 n2 S2 e2 => ?_⟩
      have S02 := S1.trans S2
      have wl := wish_len (ks := kI k) lr lp
      have kr : ∀ b : Bool, showT (kI k) (rP r) (kI p) (some ds) = b → ∀ H', Same H H' → Q (.bl b) H' := fun b e => by
        rw [← e]
        exact k0 c0
      unfold showT at kr
      dsimp only at kr
      generalize hrows : wishRows (kI k) (rP r) (kI p) = rows at e2 wl kr
      refine g_exL (SqL.of (e2.choose_spec.1)) ?_
      refine dc_wish (rows := rows) (K := K) (P := P) (w := w) e2 (by omega) (fun x r H' Nx _ dx S kx => ?_) fun D H3 n3 S3 wt => ?_
      · have dx : Dp K H' x (wrD r) := dx
        obtain ⟨t0, v1, v2, v3, rfl, h0, d1, d2, d3⟩ := dp_three dx
        cases d1
        cases d2
        refine g_gtup h0 rfl ?_
        walk_at "gg"
        refine ⟨rfl, ?_⟩
        walk_at "gg"
        refine g_mkT (by walk_at "ln") fun t1 H4 n4 S4 e4 => ?_
        walk_at "gg"
        exact kx _ _ _ S4 (.tup (SqT.of e4) (.cons (.int _) (.cons (.int _) .nil))) (dp_same S4 _ _ d3)
      have S03 := S02.trans S3
      walk_at "gg"
      refine g_exL (SqL.of (S03 _ _ e)) ?_
      refine fw_list (xs := xs) (fun i σ H' => ∃ v5, σ = [some (.ref a), some (.ref b), some (.ref c), some (.ref d), some (.ref D), v5, none, none, none, none, none, none] ∧ Same H3 H' ∧ (ds.take i).all (rowOk rows) = true) ⟨_, rfl, Same.refl _, rfl⟩ (fun i σ H' _ ⟨_, _, S, _⟩ => SqL.of ((S03.trans S) _ _ e)) ?_ ?_
      · rintro i x σ H4 hx ⟨v5, rfl, S4, all4⟩
        have S04 := S03.trans S4
        obtain ⟨dx0, hd, dx⟩ := thAll_get (dp_sameAll S04 _ _ h) hx
        have bad : rowOk rows dx0 = false → ∀ H', Same H4 H' → Q (.bl false) H' := fun z H' S' => by
          refine kr false ?_ _ (S04.trans S')
          rw [List.all_eq_false.mpr ⟨dx0, List.mem_of_getElem? hd, by rw [z]; decide⟩]
          rfl
        walk_at "gg"
        rcases row_cases dx with ⟨t0, ty, no, ip⟩ | ⟨t0, ys, es, rfl, rfl, et, dt⟩
        · refine g_isi (.ty "tuple") ty no ⟨_, rfl, ?_⟩
          refine g_ifT rfl ?_
          refine g_ifT rfl ?_
          walk_at "gg"
          exact bad (by unfold rowOk; rw [ip]; rfl) _ (Same.refl _)
        · refine g_isi (.ty "tuple") (sqT_ty et) (b := true) (kit_ty (by decide +kernel)) ⟨_, rfl, ?_⟩
          refine g_ifF rfl ?_
          walk_at "gg"
          refine g_lenT et ?_
          walk_at "gg"
          have ly := dpAll_len dt
          by_cases c2 : ys.length = 2
          rotate_left
          · refine g_ifT (by rw [decide_eq_false (fun z => c2 (by injection z with z; omega))]; rfl) ?_
            walk_at "gg"
            exact bad (by unfold rowOk; rw [isPrD_len (by omega)]; rfl) _ (Same.refl _)
          refine g_ifF (by rw [decide_eq_true (by rw [c2]; rfl)]; rfl) ?_
          obtain ⟨y1, y2, rfl⟩ : ∃ y1 y2, ys = [y1, y2] := by
            rcases ys with _ | ⟨y1, _ | ⟨y2, _ | ⟨y3, r⟩⟩⟩ <;> simp at c2
            exact ⟨y1, y2, rfl⟩
          cases dt with
          | @cons _ _ d1 _ h1 dt =>
          cases dt with
          | @cons _ _ d2 _ h2 dt =>
          cases dt
          walk_at "gg"
          refine g_ix2 et rfl ?_
          walk_at "gg"
          refine ⟨y1, _, rfl, whole_dp h1, _, rfl, ?_⟩
          cases i1 : isIntD d1 with
          | false =>
            refine g_ifT rfl ?_
            walk_at "gg"
            exact bad (by unfold rowOk; rw [isPrD_two, i1]; rfl) _ (Same.refl _)
          | true =>
            refine g_ifF rfl ?_
            walk_at "gg"
            refine g_ix2 et rfl ?_
            walk_at "gg"
            refine ⟨y2, _, rfl, whole_dp h2, _, rfl, ?_⟩
            cases i2 : isIntD d2 with
            | false =>
              refine g_ifT rfl ?_
              walk_at "gg"
              exact bad (by unfold rowOk; rw [isPrD_two, i1, i2]; rfl) _ (Same.refl _)
            | true =>
              refine g_ifF rfl ?_
              have ipd : isPrD (.tuple [d1, d2]) = true := by rw [isPrD_two, i1, i2]; rfl
              have dpr : Dp K H4 (.ref t0) (Gx.prD (spanD (.tuple [d1, d2]))) := by
                rw [← isPrD_some ipd]
                exact dx
              walk_at "gg"
              refine g_notW (wt.same S4) dpr ?_
              refine ⟨_, rfl, ?_⟩
              cases c3 : (wishAt rows (spanD (.tuple [d1, d2]))).isSome with
              | false =>
                refine g_ifT rfl ?_
                walk_at "gg"
                exact bad (by unfold rowOk; rw [ipd, c3]; rfl) _ (Same.refl _)
              | true =>
                refine g_ifF rfl ?_
                walk_at "gg"
                refine ⟨_, rfl, S4, ?_⟩
                have tk : ds.take (i + 1) = ds.take i ++ [.tuple [d1, d2]] := by
                  rw [List.take_succ, hd]
                  rfl
                rw [tk, List.all_append, all4, List.all_cons, List.all_nil]
                unfold rowOk
                rw [ipd, c3]
                rfl
      · rintro σ H4 ⟨v5, rfl, S4, all4⟩
        have S04 := S03.trans S4
        rw [lnx, List.take_length] at all4
        rw [all4] at kr
        have allp : ∀ d ∈ ds, isPrD d = true ∧ (wishAt rows (spanD d)).isSome = true := fun d hd => by
          have z := List.all_eq_true.mp all4 d hd
          unfold rowOk at z
          rw [Bool.and_eq_true] at z
          exact z
        have pt : PtsL K H d (ds.map spanD) := ⟨xs, e, by rw [← prs_of fun d hd => (allp d hd).1]; exact h⟩
        walk_at "gg"
        refine ⟨d, ds.map spanD, rfl, pt.same S04, by rw [List.length_map]; omega, fun H5 S5 => ⟨_, rfl, ?_⟩⟩
        have S05 := S04.trans S5
        cases b2 : (List.zipWith (Kd.lt (α := Pr)) (ds.map spanD) ((ds.map spanD).drop 1)).all id with
        | false =>
          refine g_ifT rfl ?_
          walk_at "gg"
          exact kr false (by unfold upP; rw [b2]; rfl) _ S05
        | true =>
          refine g_ifF rfl ?_
          unfold upP at kr
          rw [b2] at kr
          walk_at "gg"
          refine ⟨d, rfl, ?_⟩
          refine lc_someL (γ := Pr) (dt_of_pts (pt.same S05)) (by rw [List.length_map]; omega) (fun p => wishAt rows p) (fun x r H' Nx No hr dx S ky kn => ?_) fun p6 H6 n6 S6 e6 => ?_
          · obtain ⟨d0, hd0, er⟩ := List.mem_map.mp hr
            obtain ⟨q0, hq0⟩ := Option.isSome_iff_exists.mp (allp d0 hd0).2
            rw [er] at hq0
            walk_at "gg"
            refine ⟨rfl, ?_⟩
            walk_at "gg"
            refine g_ifT rfl ?_
            walk_at "gg"
            refine g_ixW (wt.same ((S4.trans S5).trans S)) dx hq0 fun v dv => ?_
            exact ky _ _ _ (Same.refl _) hq0 dv
          have S06 := S05.trans S6
          have eqs : (ds.map spanD).filterMap (fun p => wishAt rows p) = ds.map fun d => (wishAt rows (spanD d)).getD (0, 0) := by
            rw [List.filterMap_map]
            exact filt_get fun u hu => (allp u hu).2
          rw [eqs] at e6
          generalize hqs : ds.map (fun d => (wishAt rows (spanD d)).getD (0, 0)) = qs at e6 kr
          have lqs : qs.length ≤ 1000 := by rw [← hqs, List.length_map]; exact l
          obtain ⟨zs, ez, dz⟩ := e6
          have lnz : zs.length = qs.length := by rw [dpAll_len dz, List.length_map]
          walk_at "gg"
          refine g_lc2 ?_
          walk_at "gg"
          refine g_exEn (SqL.of ez) ?_
          have hflat : ((List.range zs.length).flatMap fun i => (((qs.take i).map fun o => apartI (kI p) (qs.getD i (0, 0)) o).map V.bl)) = (apartL (kI p) qs).map V.bl := by
            unfold apartL
            rw [lnz, List.map_flatMap]
          refine lc2_map (n := zs.length) (src_enum2 (SqL.of ez)) (fun i => ((qs.take i).map fun o => apartI (kI p) (qs.getD i (0, 0)) o).map V.bl) ?_ (fun i x D2 H' Fin hi nD S oD it kf => ?_) fun D2 H7 n7 S7 e7 => ?_
          · rw [hflat, List.length_map]
            unfold apartL
            rw [lnz] at *
            refine Nat.le_trans (flat_le (c := 1000) (fun i => ?_) qs.length) (by omega)
            rw [List.length_map, List.length_take]
            omega
          · obtain ⟨t0, x1, rfl, h0, hx1⟩ := it
            obtain ⟨q1, hq1, dq1⟩ := datas_at (dp_sameAll S _ _ dz) hx1
            obtain ⟨u1, rfl, hu1⟩ := pr_at (p := q1) dq1
            refine g_gtup (SqT.of h0) rfl ?_
            walk_at "gg"
            refine ⟨rfl, ?_⟩
            walk_at "gg"
            refine g_slL (SqL.of (S _ _ ez)) fun p8 H8 n8 S8 e8 => ?_
            have hil : i ≤ zs.length := by omega
            rw [cut_to _ _ hil] at e8
            have dz8 := dp_sameAll (S.trans S8) _ _ dz
            have S07 := (S06.trans S).trans S8
            refine g_exL (SqL.of e8) ?_
            have nd8 : p8 ≠ D2 := fun z => by
              obtain ⟨l0, el0⟩ := oD
              rw [z, el0] at n8
              cases n8
            refine kf _ _ H8 (zs.take i).length _ S8 (src_list (SqL.of (by rw [less_ne nd8]; exact e8))) (by rw [List.length_map, List.length_map, List.length_take, List.length_take, lnz]) fun j x2 H9 Nx1 hj S9 it2 kn => ?_
            have S69 := same_past (S.trans S8) nD S9
            have S89 : Same (less D2 H8) H9 := S9
            obtain ⟨o, ho, do2⟩ := datas_at (bs := qs.take i) (dp_sameAll S69 _ _ (by rw [List.map_take]; exact dpTake dz i)) it2
            obtain ⟨u2, rfl, hu2⟩ := pr_at (p := o) do2
            have hu1' : SqT K H9 u1 [.int q1.1, .int q1.2] := by
              obtain ⟨r1, er1, hr1⟩ := pr_at (p := q1) (dp_same (same_past (S.trans S8) nD S9) _ _ (by
                obtain ⟨q2, hq2, dq2⟩ := datas_at dz hx1
                rw [hq1] at hq2
                cases hq2
                exact dq2))
              cases er1
              exact hr1
            walk_at "gg"
            refine ⟨rfl, ?_⟩
            walk_at "gg"
            refine ⟨u1, u2, c, q1, o, _, rfl, hu1', hu2, (S06.trans S69) _ _ hc, by omega, fun H10 S10 => ?_⟩
            refine kn _ _ S10 ?_
            rw [List.getElem?_map, List.getElem?_map, ho, List.getD_eq_getElem?_getD, hq1]
            rfl
          · rw [hflat] at e7
            walk_at "gg"
            refine g_all (SqL.of e7) ?_
            exact kr _ rfl _ (S06.trans S7)
end
end Gk

/-! lambda p: p[0], as a key of sorted(d.items(), key=..): the table of the maker's code object changes, all else stays -/
namespace Gx
open PySem L2 LamX PySem.Spec PyProof.Rows
/-- one object of the heap, known whole -/
def ObO (f : Addr) (ob : Obj) : HO := .ext fun h => h.get? f = some ob
theorem obO_ok {P : Program} {w : World} {H : Hp} {h : Heap} {f : Addr} {ob : Obj} (e : h.get? f = some ob) : ObjOk P w H h f (ObO f ob) := ⟨e, ⟨_, e⟩, fun _ _ p1 k => k _ p1⟩
/-- all but tables stay -/
abbrev SmT (H H' : Hp) : Prop := ExtN H H'
theorem Same.smT {H H' : Hp} (s : Same H H') : SmT H H' := fun b o e _ => s b o e
theorem SmT.lst {H H' : Hp} (s : SmT H H') {a : Addr} {xs : List V} (e : H a = some (.lst xs)) : H' a = some (.lst xs) := s a _ e nofun
theorem SmT.tup {H H' : Hp} (s : SmT H H') {a : Addr} {xs : List V} (e : H a = some (.tup xs)) : H' a = some (.tup xs) := s a _ e nofun
theorem tabs_same {T : List (Addr × Str)} {H H' : Hp} (t : Tabs T H) (s : Same H H') : Tabs T H' := t.ext s
/-- the parameters of the lambda take one value -/
def LamTakes (q : Str) (params : Arguments) (body : Expr) (scope : Scope) (x : Str) : Prop := ∀ (cl : List (Str × Addr)) (pm cdv ct v : Value), bindArgs (PySem.W.kla_fn "<lambda>" q params body scope cl pm cdv ct) ⟨[v], []⟩ = pure [(x, v)]
section
variable {X : Cx} {pins : List (Addr × Obj)} {σ : L2.St} {H : Hp} {s : Shared}
theorem lam_laid {T : List (Addr × Str)} {c P : Addr} {params : Arguments} {body : Expr} {scope : Scope} {pos : Pos} {E Q : Value → Shared → Prop} (I : Inv X pins σ H s) (tb : TabB X.base X.mg c P) (hc : X.env.code = .ref c) (inT : (P, X.env.qual ++ "<lambda>") ∈ T)
    (un : ∀ p ∈ T, p.1 = P → p.2 = X.env.qual ++ "<lambda>") (ht : Tabs T H) (df : defaultsOf params X.env = ([], [])) (fr : ∀ y ∈ scope.names, y.2 = .free → ∃ c, X.env.cells.lookup y.1 = some c)
    (go : ∀ (f c' : Addr) (pm ctv : Value) (H1 : Hp) (s' : Shared), Inv X pins σ (upd H1 f (ObO f (PySem.W.kla_obj "<lambda>" (X.env.qual ++ "<lambda>") params body scope (cloFrom X.env.cells scope.names []) pm c' ctv))) s' → ExtN H H1 → Tabs T H1 → H1 f = none → H1 c' = some (CodeO c' (X.env.qual ++ "<lambda>")) → Q (.ref f) s') :
    wpAny (model X.prog X.w) X.A (eval (.Lambda params body scope pos) X.env) Q E s := by
  obtain ⟨ps, eP, tr, al⟩ := ht _ inT
  have bmP : s.heap.BuiltinsAt X.mg P := tb.bm.keeps I.bk
  have atP : s.heap.get? P = some { cls := .none, data := .fields ps } := I.hok P _ eP
  refine PySem.W.kla_eval df ?_
  cases hf : codeAmong pos ps.toList with
  | some cv =>
    obtain ⟨c', rfl, co⟩ := al pos cv hf
    refine PySem.W.kla_makeFunctionHit (mg := X.mg) (c := c) (P := P) (ps := ps) (closure_ok fr) I.ok.glob (I.mod.glob.keeps I.bk) hc (tb.code.keeps I.bk) atP tr hf bmP fun ctv h1 tk keep ge => ?_
    have J : Inv X pins σ H { s with heap := h1, toks := tk } := I.kept keep
    have nf : H h1.objs.size = none := J.hok.fresh (Nat.le_refl _)
    refine go h1.objs.size c' _ ctv H _ (J.laid (t' := tk) (fun b u e => Heap.get?_push_of_some _ e) (Nat.le_refl _) (obO_ok (Heap.get?_push_size _ rfl))) (ExtN.refl H) ht nf co
  | none =>
    refine PySem.W.kla_makeFunction (mg := X.mg) (c := c) (P := P) (ps := ps) (closure_ok fr) I.ok.glob (I.mod.glob.keeps I.bk) hc (tb.code.keeps I.bk) atP tr hf tb.gP bmP fun c' ctv h1 tk bx lo lt rec tab => ?_
    obtain ⟨c2, oc, vs, t, q2, get2, dat, nam⟩ := rec
    obtain rfl : c' = c2 := by injection q2
    have nc : H c' = none := I.hok.fresh lo
    have J := inv_table (t' := tk) (more := #[rawInt pos.line, rawInt pos.col, .ref c']) (h' := h1) I eP bx tab lo ⟨oc, vs, t, get2, dat, nam⟩
    have ext : ExtN H (upd (upd H P (.tbl (ps ++ #[rawInt pos.line, rawInt pos.col, .ref c']))) c' (CodeO c' (X.env.qual ++ "<lambda>"))) := fun b o e nt => by
      have n1 : b ≠ c' := ne_of_none e nc
      have n2 : b ≠ P := fun z => by
        subst z
        exact nt ps (Option.some.inj (e.symm.trans eP))
      rw [upd_ne n1, upd_ne n2]
      exact e
    have nf : upd (upd H P (.tbl (ps ++ #[rawInt pos.line, rawInt pos.col, .ref c']))) c' (CodeO c' (X.env.qual ++ "<lambda>")) h1.objs.size = none := J.hok.fresh (Nat.le_refl _)
    have lst : (ps ++ #[rawInt pos.line, rawInt pos.col, .ref c']).toList = ps.toList ++ [rawInt pos.line, rawInt pos.col, .ref c'] := by simp
    refine go h1.objs.size c' _ ctv _ _ (J.laid (t' := tk) (fun b u e => Heap.get?_push_of_some _ e) (Nat.le_refl _) (obO_ok (Heap.get?_push_size _ rfl))) ext (fun p hp => ?_) nf upd_same
    by_cases hb : p.1 = P
    · rw [un p hp hb, hb]
      refine ⟨_, by rw [upd_ne (ne_of_none eP nc), upd_same], by rw [lst]; exact TriplesOk_snoc _ _ _ _ tr, fun p2 cv e2 => ?_⟩
      rw [lst] at e2
      rcases among_app _ tr e2 with z | z
      · obtain ⟨c0, z1, z2⟩ := al p2 cv z
        exact ⟨c0, z1, ext _ _ z2 codeO_ne⟩
      · exact ⟨c', z, upd_same⟩
    · obtain ⟨qs, b1, b2, b3⟩ := ht p hp
      refine ⟨qs, by rw [upd_ne (ne_of_none b1 nc), upd_ne hb]; exact b1, b2, fun p2 cv e2 => ?_⟩
      obtain ⟨c0, z1, z2⟩ := b3 p2 cv e2
      exact ⟨c0, z1, ext _ _ z2 codeO_ne⟩
/-- a lambda as a value -/
def tLamV (T : List (Addr × Str)) (q : Str) (ob : Value → Addr → Value → Obj) : TE := fun _ H Q => Tabs T H ∧ ∀ (f c' : Addr) (pm ctv : Value) (H1 : Hp), ExtN H H1 → Tabs T H1 → H1 f = none → H1 c' = some (CodeO c' q) → Q (.ref f) (upd H1 f (ObO f (ob pm c' ctv)))
abbrev lamOb (X : Cx) (params : Arguments) (body : Expr) (scope : Scope) (pm : Value) (c' : Addr) (ctv : Value) : Obj := PySem.W.kla_obj "<lambda>" (X.env.qual ++ "<lambda>") params body scope (cloFrom X.env.cells scope.names []) pm c' ctv
theorem pe_lamV {T : List (Addr × Str)} {c P : Addr} {params : Arguments} {body : Expr} {scope : Scope} {pos : Pos} (tb : TabB X.base X.mg c P) (hc : X.env.code = .ref c) (inT : (P, X.env.qual ++ "<lambda>") ∈ T)
    (un : ∀ p ∈ T, p.1 = P → p.2 = X.env.qual ++ "<lambda>") (df : defaultsOf params X.env = ([], [])) (fr : ∀ y ∈ scope.names, y.2 ≠ .free) : PE X (.Lambda params body scope pos) (tLamV T (X.env.qual ++ "<lambda>") (lamOb X params body scope)) := by
  refine ⟨fun pins s σ H Q I h => ?_⟩
  obtain ⟨ht, k⟩ := h
  refine lam_laid I tb hc inT un ht df (fun y hy e => absurd e (fr y hy)) fun f c' pm ctv H1 s' J e1 t1 nf co => ?_
  exact ⟨.ref f, _, J, rfl, k f c' pm ctv H1 e1 t1 nf co⟩
end
end Gx

/-! sorted(d.items()) and sorted(d.items(), key=lambda p: p[0]), d a dict of whole numbers -/
namespace Gx
open PySem L2 LamX PySem.Spec PyProof.Rows
/-- a dict of whole numbers by anything, in the sequence of the dict -/
abbrev ITab := List (Int × V)
def itK (t : ITab) : List (Key × V) := t.map fun p => (.inl p.1, p.2)
section
variable {X : Cx} {pins : List (Addr × Obj)} {σ : L2.St} {H : Hp} {s : Shared}
end
/-- a new list of new pairs -/
def PairsAt (H : Hp) (l : Addr) (fs : ITab) : Prop := ∃ ts : List Addr, H l = some (.lst (ts.map V.ref)) ∧ ts.length = fs.length ∧ ∀ (j : Nat) b, ts[j]? = some b → ∃ q, fs[j]? = some q ∧ H b = some (.tup [.int q.1, q.2])
/-- a lambda that tells the first item -/
def LamAt (H : Hp) (f : Addr) : Prop := ∃ (q x : Str) (params : Arguments) (scope : Scope) (p1 p2 p3 : Pos) (j : Nat) (cl : List (Str × Addr)) (pm ctv : Value) (c' : Addr),
  H f = some (ObO f (PySem.W.kla_obj "<lambda>" q params (.Subscript (.Name x p1) (.Constant (.int 0) j p2) p3) scope cl pm c' ctv)) ∧ H c' = some (CodeO c' q) ∧ LamTakes q params (.Subscript (.Name x p1) (.Constant (.int 0) j p2) p3) scope x ∧
  scope.names.lookup x = some .local ∧ scope.kind = .function ∧ scope.isCoroutine = false ∧ scope.isGenerator = false ∧ (∀ y ∈ scope.names, y.2 ≠ .cell) ∧ (x == ("__debug__" : Str)) = false
/-- sorted(v, key=f), v the items of a dict of whole numbers -/
def rSortLam : List V → List V → Hp → VK → Prop := fun vs zs H Q => ∃ (p a f : Addr) (t : ITab), vs = [.ref p] ∧ zs = [.ref f] ∧ H p = some (L2.DX.itemsO p a) ∧ H a = some (.dK (itK t)) ∧ LamAt H f ∧
  ∀ (l : Addr) (fs : ITab) (H' : Hp), fs.Perm t → fs.Pairwise (fun x y => x.1 ≤ y.1) → H l = none → Same H H' → PairsAt H' l fs → Q (.ref l) H'
section
variable {X : Cx} {j : Nat}
end
end Gx

/-! sorted(rows, key=lambda row: row[2][1]), rows a list of tuples -/
namespace Gx
open PySem L2 LamX PySem.Spec PyProof.Rows
abbrev rowBody (x : Str) (p1 p2 p3 p4 p5 : Pos) (j1 j2 : Nat) : Expr := .Subscript (.Subscript (.Name x p1) (.Constant (.int 2) j1 p2) p3) (.Constant (.int 1) j2 p4) p5
theorem lam_row {prog : Program} {w : World} {A : Around} {s : Shared} {f c' t t2 : Addr} {q x : Str} {params : Arguments} {scope : Scope} {p1 p2 p3 p4 p5 : Pos} {j1 j2 : Nat} {cl : List (Str × Addr)} {pm ctv v0 v1 u0 : Value} {n : Int} {u : Tok}
    (hf : s.heap.get? f = some (PySem.W.kla_obj "<lambda>" q params (rowBody x p1 p2 p3 p4 p5 j1 j2) scope cl pm c' ctv)) (code : s.heap.CodeRec (.ref c') q) (lt : LamTakes q params (rowBody x p1 p2 p3 p4 p5 j1 j2) scope x)
    (loc : scope.names.lookup x = some .local) (kf : scope.kind = .function) (co : scope.isCoroutine = false) (ge : scope.isGenerator = false) (nc : ∀ y ∈ scope.names, y.2 ≠ .cell) (hdb : (x == ("__debug__" : Str)) = false) (room : A.depth < recursionLimit) (lim : s.heap.NoLimit)
    (tup : IsTup s.heap t #[v0, v1, .ref t2]) (tup2 : IsTup s.heap t2 #[u0, .int n u]) : wpAny (model prog w) A (PySem.call (.ref f) [.ref t]) (PySem.W.KeyPure (.int n) s) (fun _ _ => False) s := by
  refine wpAny_call (PySem.W.kla_callFunE room hf rfl co ge rfl code ?_)
  show wpAny _ _ (bindArgs (PySem.W.kla_fn "<lambda>" q params _ scope cl pm (.ref c') ctv) ⟨[.ref t], []⟩) _ _ _
  rw [lt cl pm (.ref c') ctv (.ref t)]
  refine wpAny_pure (wpAny_newFunctionEnv nc (fun y hy => by rw [List.mem_singleton.mp hy]; exact loc) (fun h1 ns sb => ?_) kf)
  have k1 : ∀ b o, s.heap.get? b = some o → h1.get? b = some o := fun b o e => sb.extBut b o (Nat.ne_of_lt (Heap.lt_size e)) (Heap.get?_push_of_some _ e)
  refine ⟨lim.keeps k1, PySem.W.kla_codeExpr ?_⟩
  refine Subscript_ ?_
  refine Subscript_ ?_
  have look : (fun y => [(x, Value.ref t)].reverse.lookup y) x = some (.ref t) := by simp [List.lookup]
  refine wpAny_Name (wpAny_loadName_local kf loc ns look ?_) hdb
  refine wpAny_Constant_int ?_
  refine subscriptTail_builtinR (x := Value.ref t2) (IsTup.typeIs (s := { s with heap := h1, toks := _ }) (tup.keeps k1)) slot_tuple_getitem.lookup
    (getItem_tuple (j := 2) (tup.keeps k1) (by decide) (by decide) rfl rfl ⟨rfl, ?_⟩)
  refine wpAny_Constant_int ?_
  refine subscriptTail_builtinR (x := Value.int n u) (IsTup.typeIs (s := { s with heap := h1, toks := _ }) (tup2.keeps k1)) slot_tuple_getitem.lookup
    (getItem_tuple (j := 1) (Q := fun r s' => r = Value.int n u ∧ PySem.W.KeyPure (.int n) s r s') (tup2.keeps k1) (by decide) (by decide) rfl rfl ⟨rfl, _, _, rfl, k1, .int n u⟩)
/-- a lambda that tells row[2][1] -/
def LamRow (H : Hp) (f : Addr) : Prop := ∃ (q x : Str) (params : Arguments) (scope : Scope) (p1 p2 p3 p4 p5 : Pos) (j1 j2 : Nat) (cl : List (Str × Addr)) (pm ctv : Value) (c' : Addr),
  H f = some (ObO f (PySem.W.kla_obj "<lambda>" q params (rowBody x p1 p2 p3 p4 p5 j1 j2) scope cl pm c' ctv)) ∧ H c' = some (CodeO c' q) ∧ LamTakes q params (rowBody x p1 p2 p3 p4 p5 j1 j2) scope x ∧
  scope.names.lookup x = some .local ∧ scope.kind = .function ∧ scope.isCoroutine = false ∧ scope.isGenerator = false ∧ (∀ y ∈ scope.names, y.2 ≠ .cell) ∧ (x == ("__debug__" : Str)) = false
theorem vals_3 {x y z : V} {us : List Value} (r : Vals [x, y, z] us) : ∃ u w' t', us = [u, w', t'] ∧ RelV x u ∧ RelV y w' ∧ RelV z t' := by
  cases r with
  | cons r1 r2 =>
    obtain ⟨u, v, rfl, a, b⟩ := vals2 r2
    exact ⟨_, u, v, rfl, r1, a, b⟩
/-- rows by a number of their third item -/
class Rw (β : Type) extends Da β where
  key : β → Int
  shape : ∀ b, ∃ d0 d1 d2, D b = .tuple [d0, d1, .tuple [d2, .int (key b)]]
def rSortRow (β : Type) [Rw β] (K : PySem.W.Frag) : List V → List V → Hp → VK → Prop := fun vs zs H Q => ∃ (p f : Addr) (rows : List β), vs = [.ref p] ∧ zs = [.ref f] ∧ DtL K H p rows ∧ LamRow H f ∧
  ∀ (l : Addr) (H' : Hp), H l = none → Same H H' → DtL K H' l (rows.mergeSort fun a b => decide (Rw.key a ≤ Rw.key b)) → Q (.ref l) H'
section
variable {X : Cx} {j : Nat} {β : Type} [Rw β]
theorem cr_sortRow (calm : X.calm = true) (hr : Room j X.A) : CallRK X (.builtin "sorted") [Str.ofString "key"] (rSortRow β X.K) := by
  intro pins s σ H vs zs us ws Q I r rz h
  obtain ⟨p, f, rows, rfl, rfl, ⟨xs, hp, dd⟩, ⟨qn, x, params, scope, p1, p2, p3, p4, p5, j1, j2, cl, pm, ctv, c', ef, ec, lt, loc, kf, co, ge, nc, hdb⟩, go⟩ := h
  obtain rfl := Vals.ref1 r
  obtain rfl := Vals.ref1 rz
  have gf : s.heap.get? f = some _ := (I.hok f _ ef).1
  obtain ⟨oc, vs, tq, gc, dc, nq⟩ := (I.hok c' _ ec).1
  have code : s.heap.CodeRec (.ref c') qn := ⟨c', oc, vs, tq, rfl, gc, dc, nq⟩
  obtain ⟨its, rv, hl, hz⟩ := I.list (SqL.of hp)
  have lx := dts_len dd
  have li : its.length = xs.length := rv.length.symm
  have hz' : its.length ≤ sizeLine := by rw [li]; exact hz
  refine call_function_entry_kw kind_sorted plain_sorted entry_sorted (ksk_s1 _ _) ?_
  unfold Builtin.«sorted»
  refine wpAny_bind (m := checkCount "sorted" 1 1 _) (wpAny_pure ?_)
  refine wpAny_bind (collect_list hl.isList ?_ hz')
  refine wpAny_bind (wpAny_newList ?_ hz')
  have keep0 : ∀ b o, s.heap.get? b = some o → ((s.heap.push (seqObj "list" #[] 0)).update s.heap.objs.size (Obj.mapSeq (· ++ its.toArray))).get? b = some o := fun b o q => by
    have hlt : b < s.heap.objs.size := Heap.lt_size q
    rw [Heap.get?_update_ne _ _ _ _ (Nat.ne_of_lt hlt)]
    exact Heap.get?_push_of_some _ q
  generalize (s.heap.push (seqObj "list" #[] 0)).update s.heap.objs.size (Obj.mapSeq (· ++ its.toArray)) = h2 at keep0 ⊢
  have laid : (h2.push (seqObj "list" its.toArray 0)).get? h2.objs.size = some (seqObj "list" its.toArray 0) := Heap.get?_push_size _ rfl
  have eachR : PySem.W.EachIs (fun (v : Value) (q : β) => ∃ y, RelV y v ∧ Dp X.K H y (Da.D q)) its rows := by
    clear laid hz hz' hl hp lx li go
    induction rv generalizing rows with
    | nil =>
      cases rows with
      | nil => exact .nil
      | cons b bs => cases dd
    | cons h _ ih =>
      cases rows with
      | nil => cases dd
      | cons b bs =>
        cases dd with
        | cons d ds => exact .cons ⟨_, h, d⟩ (ih _ ds)
  have up : ∀ {g : Heap}, PySem.W.KeepsBut h2.objs.size (h2.push (seqObj "list" its.toArray 0)) g → ∀ b o, h2.get? b = some o → g.get? b = some o := fun {g} kp b o e => kp b o (Nat.ne_of_lt (Heap.lt_size e)) (Heap.get?_push_of_some _ e)
  have shaped : ∀ d ∈ rows.map fun q : β => PyData.int (Rw.key q), ∃ n, d = .int n := fun d hd => by
    obtain ⟨q, _, rfl⟩ := List.mem_map.mp hd
    exact ⟨_, rfl⟩
  have un := hr.un
  have dp := hr.dp
  have lr : its.length = rows.length := by rw [li, lx]
  refine wpAny_bind (wpAny_holding ?_)
  refine PySem.W.list_sort_key_data (s := { s with heap := h2.push (seqObj "list" its.toArray 0) }) (b := false) (fun q : β => PyData.int (Rw.key q)) laid eachR (fun d hd d' hd' => ?_) (.inr fun d hd => ?_) (by rw [← lr]; exact hz') (fun q _ => ?_) (ksk_l1 _ _) (ksk_t1 f _) (fun v q hR hq g tk2 kp => ?_) fun out c g tk2 kp gl lo each2 => ?_
  · obtain ⟨n, rfl⟩ := shaped d hd
    obtain ⟨m, rfl⟩ := shaped d' hd'
    rfl
  · obtain ⟨n, rfl⟩ := shaped d hd
    exact ⟨nofun, nofun⟩
  · have d0 : (PyData.int (Rw.key q)).depth = 0 := by simp [PyData.depth]
    rw [d0]
    show X.A.units + 1 + 1 + 0 < cLine
    omega
  · obtain ⟨y, ry, dy⟩ := hR
    have all : ∀ b o, s.heap.get? b = some o → g.get? b = some o := fun b o e => up kp b o (keep0 b o e)
    obtain ⟨d0, d1, d2, eD⟩ := Rw.shape q
    rw [eD] at dy
    cases dy with
    | @tup a ys _ e hd =>
    cases hd with
    | @cons y0 _ _ _ a0 hd =>
    cases hd with
    | @cons y1 _ _ _ a1 hd =>
    cases hd with
    | @cons y2 _ _ _ a2 hd =>
    cases hd
    cases a2 with
    | @tup b2 zs _ e2 hd2 =>
    cases hd2 with
    | @cons z0 _ _ _ c0 hd2 =>
    cases hd2 with
    | @cons z1 _ _ _ c1 hd2 =>
    cases hd2
    cases c1
    cases ry
    obtain ⟨its1, r1, t1, _⟩ := I.tuple e
    obtain ⟨w0, w1, w2, rfl, rw0, rw1, rw2⟩ := vals_3 r1
    cases rw2
    obtain ⟨its2, r2, t2, _⟩ := I.tuple e2
    obtain ⟨x0, x1, rfl, rx0, rx1⟩ := vals2 r2
    obtain ⟨u, rfl⟩ := rx1
    exact lam_row (s := { s with heap := g, toks := tk2 }) (all _ _ gf) (code.keeps all) lt loc kf co ge nc hdb (by show X.A.depth < _; omega) (I.nolimit.keeps all) (t1.keeps all) (t2.keeps all)
  · rw [PySem.W.dataLe_int] at each2
    generalize hfs : rows.mergeSort (fun a b => decide (Rw.key a ≤ Rw.key b)) = fs at each2 go
    have ys : ∃ ys, Vals ys out ∧ DpAll X.K H ys (fs.map Da.D) := by
      clear go hfs gl lo
      induction each2 with
      | nil => exact ⟨[], .nil, .nil⟩
      | cons h _ ih =>
        obtain ⟨y, r1, d1⟩ := h
        obtain ⟨ys, r2, d2⟩ := ih
        exact ⟨y :: ys, .cons r1 r2, .cons d1 d2⟩
    obtain ⟨ys, ry, dy⟩ := ys
    have I2 : Inv X pins σ H { s with heap := h2 } := I.kept keep0
    have fr : H h2.objs.size = none := I2.hok.fresh (Nat.le_refl _)
    have ly : ys.length ≤ sizeLine := by rw [ry.length, lo, ← lr]; exact hz'
    have I3 : Inv X pins σ (upd H h2.objs.size (.lst ys)) { s with heap := g, toks := tk2 } :=
      I2.laid (h' := g) (t' := tk2) (fun b o e => up kp b o e) (Nat.le_refl _) ⟨ly, _, c, ry, gl⟩
    exact wpAny_pure ⟨_, rfl, .ref h2.objs.size, _, I3, rfl, go _ _ fr (same_new fr) ⟨ys, upd_same, dp_sameAll (same_new fr) _ _ dy⟩⟩
end
end Gx

/-! sorted(d.items()), d a table of whole numbers -/
namespace Gx
open PySem L2 LamX PySem.Spec PyProof.Rows
/-- sorted(v), v the items of a table -/
def rSortItems (K : PySem.W.Frag) : List V → Hp → VK → Prop := fun vs H Q => ∃ (p a : Addr) (t : Tab), vs = [.ref p] ∧ H p = some (L2.DX.itemsO p a) ∧ H a = some (.dK (tabK t)) ∧
  ∀ (l : Addr) (fs : Tab) (H' : Hp), fs.Perm t → fs.Pairwise (fun x y => x.1 < y.1) → H l = none → Same H H' → PtsL K H' l fs → Q (.ref l) H'
section
variable {X : Cx}
end
end Gx

set_option maxHeartbeats 1000000
/-! the items of any dict; defs whose code object is known (they make lambdas) -/
namespace Gx
open PySem L2 LamX PySem.Spec PyProof.Rows
/-- d.items(), d any dict of whole numbers and texts -/
def rItemsD : V → List V → Hp → VK → Prop := fun x xs H Q => ∃ (a : Addr) (kvs : List (Key × V)), x = .ref a ∧ xs = [] ∧ H a = some (.dK kvs) ∧ ∀ p, H p = none → Q (.ref p) (upd H p (L2.DX.itemsO p a))
/-- a def whose code object stands at cc -/
structure FunC (K : PySem.W.Frag) (x qual : Str) (st : Stmt) (f : Addr) (fd : FuncData) (cc : Addr) : Prop where
  ex : ∃ (oc : Value) (od : Option Addr) (kV doc pm : Value) (an : Option Addr) (ct : Value) (osl : Array (Option Value)),
    fd = PySem.W.fnOf x qual (defArgs st) (defBody st) (defScope st) .none kV doc pm an (.ref cc) ct ∧ K.lookup f = some ⟨oc, od, .func fd, osl⟩ ∧ PySem.W.codeIn K (.ref cc) qual = true
theorem FunC.ok {P : Program} {w : World} {K : PySem.W.Frag} {mg : Str → Option Value} {base : Heap} {x qual : Str} {st : Stmt} {f cc : Addr} {fd : FuncData} {N ps : List Str} {k : Nat} {sp : Sp} (F : FunC K x qual st f fd cc) (S : FnScope N ps (defScope st)) (size : ∀ vs H Q E, sp vs H Q E → vs.length = ps.length)
    (body : ∀ (A : Around) (outer : List Env) (s : Shared) (H : Hp) (vs : List V) (Q : VK) (E : XK), Room k (A.deeper (envOfC qual (defScope st) s.heap.objs.size f (.ref cc))) → sp vs H Q E →
      ∃ t, PSs (cxOf CX0 P w K mg base N qual (defScope st) f (.ref cc) A outer s H E).nox (defBody st) t ∧ t { nx := fun _ H' => Q .non H', rt := Q } (start N vs) H) : FnOk P w K mg base CX0 (k + 1) f fd ps sp := by
  obtain ⟨oc, od, kV, doc, pm, an, ct, osl, rfl, lk, code⟩ := F.ex
  refine fn_of lk code S size fun A outer s H vs Q E room q => ?_
  obtain ⟨t, d, r⟩ := body A outer s H vs Q E room q
  exact ⟨t, d.nox, r⟩
theorem g_lamV {T : List (Addr × Str)} {q : Str} {ob : Value → Addr → Value → Obj} {σ : L2.St} {H : Hp} {Q : VK} (t : Tabs T H) (k : ∀ (f c' : Addr) (pm ctv : Value) (H1 : Hp), ExtN H H1 → Tabs T H1 → H1 f = none → H1 c' = some (CodeO c' q) → Q (.ref f) (upd H1 f (ObO f (ob pm c' ctv)))) : tLamV T q ob σ H Q := ⟨t, k⟩
/-- a builtin called with keywords -/
theorem g_cKw {r : List V → List V → Hp → VK → Prop} {t tk : TA} {σ : L2.St} {H : Hp} {Q : VK} (q : t σ H fun vs H1 => tk σ H1 fun zs H2 => r vs zs H2 Q) : tCKw r t tk σ H Q := q
end Gx

set_option maxHeartbeats 4000000
/-! raising an own error whose __init__ stores one attribute -/
namespace Gx
open PySem L2 PySem.Spec PyProof.Rows
/-- an error of the class at C is made: its attribute -/
def spExcI (C : Addr) (nm : Str) : Sp := fun vs H Q _ => ∃ (a : Addr) (v : V), vs = [.ref a, v] ∧ H a = some (exo a C none) ∧ ∀ (d : Addr), H d = none → d ≠ a → Q .non (upd (upd H d (exd d [(nm, v)])) a (exo a C (some d)))
structure BadC (P : Program) (w : World) (K : PySem.W.Frag) (mg : Str → Option Value) (base : Heap) (k : Nat) (x : Str) (C : Addr) (nm : Str) : Prop where
  ox : OexC K C
  named : mg x = some (.ref C)
  init : ∃ (fI : Addr) (fd : FuncData), PySem.W.findIn K (.ref C) "__init__" = some (some (.ref fI)) ∧ PySem.W.typeIn K (.ref fI) = some (.type "function") ∧ FnOk P w K mg base CX0 k fI fd ["self", nm] (spExcI C nm) ∧ Binds K fd ["self", nm] []
section
variable {X : Cx} {e : Expr} {es : List Expr} {x nm : Str} {ta : TA} {p pos pos2 : Pos} {C : Addr}
def tBad (C : Addr) (nm : Str) (W : WX) (ta : TA) : TS := fun _ σ H => tMkO C (spExcI C nm) [] ta σ H fun cls d H' => W cls d σ H'
theorem ps_bad {k j : Nat} {W : WX} (B : BadC X.prog X.w X.K X.mg X.base k x C nm) (hr : Room j X.A) (hk : k + 1 ≤ j) (hc : X.calm = true) (tk : Takes X W) (hg : Gl X x) (ha : PA X (e :: es) ta)
    (hdb : (x == ("__debug__" : Str)) = false := by decide) (he : starEach (e :: es) X.env = (false, eval e X.env) :: starEach es X.env := by rfl) (hpl : (backTo pos (starEach es X.env)).any (·.1) = false := by rfl) :
    PS X (.Raise (some (.Call (.Name x p) (e :: es) [] pos)) none pos2) (tBad C nm W ta) := by
  obtain ⟨fI, fd, h1, h2, F, b⟩ := B.init
  exact ps_raise hc tk (pmk_oex (CX := CX0) B.ox h1 h2 F (hr.mono hk) b .nil pass0 hg B.named ha hdb he hpl)
end
section
variable {σ : L2.St} {H : Hp} {ta : TA} {D : Ends} {C : Addr} {nm : Str} {W : WX}
theorem g_bad (q : ta σ H fun vs H1 => vs.length ≤ 1000 ∧ ∀ a, H1 a = none → spExcI C nm (.ref a :: (vs ++ [])) (upd H1 a (exo a C none))
    (fun v H2 => v = .non ∧ ∃ (d : Addr) (fs : List (Str × V)), H2 a = some (exo a C (some d)) ∧ H2 d = some (exd d fs) ∧ H1 d = none ∧ W (.ref C) (some d) σ (upd (del H2 a) d (.xd fs))) (fun _ _ _ => False)) : tBad C nm W ta D σ H := q
theorem bad_end {v : V} {H1 : Hp} {E : Value → Option Addr → Hp → Prop} (q : ∀ (d : Addr) (H' : Hp), Same H1 H' → H1 d = none → H' d = some (.xd [(nm, v)]) → E (.ref C) (some d) H') :
    [v].length ≤ 1000 ∧ ∀ a, H1 a = none → spExcI C nm (.ref a :: ([v] ++ [])) (upd H1 a (exo a C none))
      (fun v H2 => v = .non ∧ ∃ (d : Addr) (fs : List (Str × V)), H2 a = some (exo a C (some d)) ∧ H2 d = some (exd d fs) ∧ H1 d = none ∧ E (.ref C) (some d) (upd (del H2 a) d (.xd fs))) (fun _ _ _ => False) := by
  refine ⟨(by show 1 ≤ 1000; decide), fun a ha => ⟨a, v, rfl, upd_same, fun d nd ne => ⟨rfl, d, [(nm, v)], upd_same, ?_, ?_, ?_⟩⟩⟩
  · rw [upd_ne ne, upd_same]
  · rw [upd_ne ne] at nd
    exact nd
  · rw [upd_ne ne] at nd
    refine q d _ (fun b o e => ?_) nd upd_same
    have b1 : b ≠ a := ne_of_none e ha
    have b2 : b ≠ d := ne_of_none e nd
    rw [upd_ne b2, del_ne b1, upd_ne b1, upd_ne b2, upd_ne b1]
    exact e
end
end Gx

/-! dict(d), list(d), [*d] of dicts of whole numbers and texts; list(d) of dicts of tuples -/
namespace Gx
open PySem L2 PySem.Spec PyProof.Rows
def keysV (kvs : List (Key × V)) : List V := kvs.map fun p => kV p.1
section
variable {X : Cx} {pins : List (Addr × Obj)} {σ : L2.St} {H : Hp} {s : Shared}
end
/-- dict(d) -/
def rDictOf : List V → Hp → VK → Prop := fun xs H Q => ∃ (a : Addr) (kvs : List (Key × V)), xs = [.ref a] ∧ Rd H a (.dK kvs) ∧ ∀ p, H p = none → Q (.ref p) (upd H p (.dK kvs))
/-- list(d) -/
def rListD : List V → Hp → VK → Prop := fun xs H Q => ∃ (a : Addr) (kvs : List (Key × V)), xs = [.ref a] ∧ Rd H a (.dK kvs) ∧ ∀ p, H p = none → Q (.ref p) (upd H p (.lst (keysV kvs)))
section
variable {X : Cx}
/-- *d in a display -/
def tStarD (te : TE) (t : TA) : TA := fun σ H Q => te σ H fun x H1 => ∃ (p : Addr) (kvs : List (Key × V)), x = V.ref p ∧ Rd H1 p (.dK kvs) ∧ t σ H1 fun ys H2 => Q (keysV kvs ++ ys) H2
end
section
variable {σ : L2.St} {H : Hp} {Q : VK} {te : TE} {t : TA}
theorem g_tstarD {Q : List V → Hp → Prop} (q : te σ H fun x H1 => ∃ (p : Addr) (kvs : List (Key × V)), x = V.ref p ∧ Rd H1 p (.dK kvs) ∧ t σ H1 fun ys H2 => Q (keysV kvs ++ ys) H2) : tStarD te t σ H Q := q
end
end Gx

set_option maxHeartbeats 200000
/-! Stores: what they hold (plain), and how it stands in the heap -/
namespace Gx
open PySem L2 LamX PySem.Spec PyProof.Rows
/-- a point of either line -/
inductive Pt where
  | k (i : Int)
  | v (p : Pr)
  deriving DecidableEq
namespace Pt
def D : Pt → PyData
  | .k i => .int i
  | .v p => prD p
def isV : Pt → Bool
  | .k _ => false
  | .v _ => true
/-- the number that ranges are about -/
def val : Pt → Int
  | .k i => i
  | .v p => p.1
def lt : Pt → Pt → Bool
  | .k i, .k j => decide (i < j)
  | .v p, .v q => prLt p q
  | _, _ => false
end Pt
theorem prD_inj {p q : Pr} (h : prD p = prD q) : p = q := Kd.inj p q h
instance daPt : Da Pt where
  dec := inferInstance
  D := Pt.D
  inj a b h := by
    cases a <;> cases b
    · exact congrArg Pt.k (by simpa [Pt.D] using h)
    · simp [Pt.D, prD] at h
    · simp [Pt.D, prD] at h
    · exact congrArg Pt.v (prD_inj h)
  bar a := by cases a <;> simp [Pt.D, prD, bare, bareAll]
  lay a := by cases a <;> simp [Pt.D, prD, PyData.canLay0, PyData.canLayAll0]
  dep a := by cases a <;> simp [Pt.D, prD, PyData.depth, PyData.depthAll]
  nol a := by cases a <;> simp [Pt.D, prD, noLst, noLstAll]
def lineS (vals : Bool) : Str := if vals then "values" else "keys"
/-- a read that is kept -/
structure RdS where
  vals : Bool
  lo : Int
  hi : Int
  kept : List Pt
  inner : List Pt
/-- a request -/
inductive Rq where
  | read (lo hi : Int)
  | readv (lo hi : Int)
  | put (k v : Int)
  | erase (k : Int)
  deriving DecidableEq
namespace Rq
def word : Rq → Str
  | .read .. => "read"
  | .readv .. => "read_values"
  | .put .. => "put"
  | .erase .. => "erase"
def args : Rq → List Int
  | .read lo hi => [lo, hi]
  | .readv lo hi => [lo, hi]
  | .put k v => [k, v]
  | .erase k => [k]
def D (q : Rq) : PyData := .tuple (.str q.word :: q.args.map PyData.int)
end Rq
def oRq : Option Rq → PyData
  | none => .none
  | some q => q.D
inductive Res where
  | rows (l : List Pr)
  | truth (b : Bool)
def Res.D : Res → PyData
  | .rows l => .list (l.map prD)
  | .truth b => .bool b
/-- a row of the log -/
inductive Row where
  | beg (n : Int)
  | fin (ab : Bool) (n : Int)
  | done (n : Int) (q : Rq) (r : Res)
def Row.D : Row → PyData
  | .beg n => .tuple [.str "begin", .int n]
  | .fin ab n => .tuple [.str (if ab then "abort" else "end"), .int n]
  | .done n q r => .tuple (.str q.word :: .int n :: (q.args.map PyData.int ++ [r.D]))
/-- a living transaction -/
structure WkS where
  reads : List RdS
  wk : List Int
  wv : List Pr
  old : List (Int × Option Int)
  req : Option Rq
inductive Kn where
  | gap
  | range
  | key
  deriving DecidableEq
/-- a store -/
structure St where
  kind : Kn
  table : Tab
  spacers : List Int
  works : List (Int × WkS)
  begun : Int
  queue : List Int
  told : List Row
namespace St
def work (s : St) (n : Int) : Option WkS := (s.works.find? fun p => decide (p.1 = n)).map (·.2)
def setW (s : St) (n : Int) (w : WkS) : St := { s with works := s.works.map fun p => if p.1 = n then (n, w) else p }
end St
/-- the parts of a store -/
inductive Ro where
  | self | tab | spc | wks | que | tld
  | wk (n : Int) | rrs (n : Int) | wri (n : Int) | wrk (n : Int) | wrv (n : Int) | old (n : Int)
  | rd (n : Int) (j : Nat) | kep (n : Int) (j : Nat) | inn (n : Int) (j : Nat)
  | trow (i : Nat)
  deriving DecidableEq
/-- the classes of stores, works, reads -/
structure SCls where
  st : Kn → Addr
  wk : Addr
  rd : Addr
def St.dom (s : St) : Ro → Prop
  | .self | .tab | .spc | .wks | .que | .tld => True
  | .wk n | .rrs n | .wri n | .wrk n | .wrv n | .old n => ∃ w, s.work n = some w
  | .rd n j | .kep n j | .inn n j => ∃ w r, s.work n = some w ∧ w.reads[j]? = some r
  | .trow i => ∃ n q l, s.told[i]? = some (.done n q (.rows l))
abbrev oVi : Option Int → V
  | none => .non
  | some n => .int n
def stF (ad : Ro → Addr) (begun : Int) : List (Str × V) := [("table", .ref (ad .tab)), ("spacer_keys", .ref (ad .spc)), ("works", .ref (ad .wks)), ("begun_many", .int begun), ("queue", .ref (ad .que)), ("told_rows", .ref (ad .tld))]
def wkF (ad : Ro → Addr) (n : Int) (rq : V) : List (Str × V) := [("read_rows", .ref (ad (.rrs n))), ("written", .ref (ad (.wri n))), ("old_values", .ref (ad (.old n))), ("request", rq)]
def rdF (ad : Ro → Addr) (n : Int) (j : Nat) (r : RdS) : List (Str × V) := [("line_kind", .str (lineS r.vals)), ("low", .int r.lo), ("high", .int r.hi), ("kept_points", .ref (ad (.kep n j))), ("inner_points", .ref (ad (.inn n j)))]
def wksT (ad : Ro → Addr) (s : St) : ITab := s.works.map fun p => (p.1, V.ref (ad (.wk p.1)))
/-- a row of the log in the heap: its list stands apart -/
def RowV (K : PySem.W.Frag) (H : Hp) (ad : Ro → Addr) (i : Nat) (v : V) : Row → Prop
  | .done n q (.rows _) => ∃ t, v = .ref t ∧ SqT K H t (.str q.word :: .int n :: (q.args.map V.int ++ [.ref (ad (.trow i))]))
  | r => Dp K H v r.D
/-- what stands at a part -/
def RoOk (K : PySem.W.Frag) (c : SCls) (H : Hp) (ad : Ro → Addr) (s : St) : Ro → Prop
  | .self => ∃ dx, H (ad .self) = some (.ins (c.st s.kind) dx (stF ad s.begun))
  | .tab => H (ad .tab) = some (.dK (tabK s.table))
  | .spc => H (ad .spc) = some (.lst (s.spacers.map V.int))
  | .wks => H (ad .wks) = some (.dK (itK (wksT ad s)))
  | .que => H (ad .que) = some (.lst (s.queue.map V.int))
  | .tld => ∃ vs, H (ad .tld) = some (.lst vs) ∧ vs.length = s.told.length ∧ ∀ (i : Nat) v r, vs[i]? = some v → s.told[i]? = some r → RowV K H ad i v r
  | .wk n => ∀ w, s.work n = some w → ∃ dx rq, H (ad (.wk n)) = some (.ins c.wk dx (wkF ad n rq)) ∧ Dp K H rq (oRq w.req)
  | .rrs n => ∀ w, s.work n = some w → H (ad (.rrs n)) = some (.lst ((List.range w.reads.length).map fun j => V.ref (ad (.rd n j))))
  | .wri n => ∀ w, s.work n = some w → H (ad (.wri n)) = some (.dK [(.inr "keys", .ref (ad (.wrk n))), (.inr "values", .ref (ad (.wrv n)))])
  | .wrk n => ∀ w, s.work n = some w → H (ad (.wrk n)) = some (.dK (w.wk.map fun i => (.inl i, .bl true)))
  | .wrv n => ∀ w, s.work n = some w → H (ad (.wrv n)) = some (.dT (w.wv.map fun p => ([.inl p.1, .inl p.2], .bl true)))
  | .old n => ∀ w, s.work n = some w → H (ad (.old n)) = some (.dK (w.old.map fun p => (.inl p.1, oVi p.2)))
  | .rd n j => ∀ w r, s.work n = some w → w.reads[j]? = some r → ∃ dx, H (ad (.rd n j)) = some (.ins c.rd dx (rdF ad n j r))
  | .kep n j => ∀ w r, s.work n = some w → w.reads[j]? = some r → DtL K H (ad (.kep n j)) r.kept
  | .inn n j => ∀ w r, s.work n = some w → w.reads[j]? = some r → DtL K H (ad (.inn n j)) r.inner
  | .trow i => ∀ n q l, s.told[i]? = some (.done n q (.rows l)) → PtsL K H (ad (.trow i)) l
/-- the store stands, its parts at ad -/
structure StoL (K : PySem.W.Frag) (c : SCls) (H : Hp) (ad : Ro → Addr) (s : St) : Prop where
  inj : ∀ ρ ρ', s.dom ρ → s.dom ρ' → ad ρ = ad ρ' → ρ = ρ'
  ok : ∀ ρ, s.dom ρ → RoOk K c H ad s ρ
/-- tuples stay -/
def TupK (H H' : Hp) : Prop := ∀ t xs, H t = some (.tup xs) ∨ (∃ o, H t = some (.frz o (.tup xs))) → H' t = some (.tup xs) ∨ ∃ o, H' t = some (.frz o (.tup xs))
theorem TupK.same {H H' : Hp} (s : Same H H') : TupK H H' := fun t xs h => by
  rcases h with h | ⟨o, h⟩
  · exact .inl (s _ _ h)
  · exact .inr ⟨o, s _ _ h⟩
theorem TupK.smT {H H' : Hp} (s : SmT H H') : TupK H H' := fun t xs h => by
  rcases h with h | ⟨o, h⟩
  · exact .inl (s _ _ h nofun)
  · exact .inr ⟨o, s _ _ h nofun⟩
theorem TupK.but {H H' : Hp} {a : Addr} {o : HO} (e : H a = some o) (odd : Odd o) (s : But a H H') : TupK H H' := fun t xs h => by
  rcases h with h | ⟨o', h⟩
  · exact .inl (s _ _ (fun z => by rw [z, e] at h; exact odd.2.1 xs (Option.some.inj h)) h)
  · exact .inr ⟨o', s _ _ (fun z => by rw [z, e] at h; exact odd.2.2 _ _ (Option.some.inj h)) h⟩
section
variable {K : PySem.W.Frag} {c : SCls} {H H' : Hp} {ad ad' : Ro → Addr} {s s' : St}
theorem TupK.trans {H2 : Hp} (a : TupK H H') (b : TupK H' H2) : TupK H H2 := fun t xs h => b t xs (a t xs h)
theorem sqT_tup (k : TupK H H') {a : Addr} {xs : List V} (h : SqT K H a xs) : SqT K H' a xs := by
  rcases h with h | h
  · exact .inl (k a xs h)
  · exact .inr h
mutual
theorem dp_tup (k : TupK H H') : ∀ (d : PyData) (v : V), noLst d = true → Dp K H v d → Dp K H' v d
  | .none, _, _, h => by cases h; exact .non
  | .bool b, _, _, h => by cases h; exact .bl b
  | .int i, _, _, h => by cases h; exact .int i
  | .str x, _, _, h => by cases h; exact .str x
  | .list ds, _, n, _ => by simp [noLst] at n
  | .dict _, _, _, h => by cases h
  | .tuple ds, _, n, h => by
    cases h with
    | tup a b => exact .tup (sqT_tup k a) (dp_tupAll k ds _ (by simpa [noLst] using n) b)
theorem dp_tupAll (k : TupK H H') : ∀ (ds : List PyData) (vs : List V), noLstAll ds = true → DpAll K H vs ds → DpAll K H' vs ds
  | [], _, _, h => by cases h; exact .nil
  | d :: ds, _, n, h => by
    simp only [noLstAll, Bool.and_eq_true] at n
    cases h with
    | cons a b => exact .cons (dp_tup k d _ n.1 a) (dp_tupAll k ds _ n.2 b)
end
theorem dtL_tup {β : Type} [Da β] (k : TupK H H') {p : Addr} {as : List β} (e : H' p = H p) (h : DtL K H p as) : DtL K H' p as := by
  obtain ⟨xs, e1, d⟩ := h
  exact ⟨xs, e.trans e1, dp_tupAll k _ _ (da_nols as) d⟩
theorem ptsL_tup {α : Type} [Kd α] (k : TupK H H') {p : Addr} {as : List α} (e : H' p = H p) (h : PtsL K H p as) : PtsL K H' p as := by
  obtain ⟨xs, e1, d⟩ := h
  exact ⟨xs, e.trans e1, dp_tupAll k _ _ (noLstAll_iff.mpr fun d hd => by
    obtain ⟨a, _, rfl⟩ := List.mem_map.mp hd
    exact Kd.nol a) d⟩
theorem noLst_rq (q : Option Rq) : noLst (oRq q) = true := by
  cases q with
  | none => simp [oRq, noLst]
  | some q => cases q <;> simp [oRq, Rq.D, Rq.args, noLst, noLstAll]
theorem rowV_tup (k : TupK H H') {i : Nat} {v : V} {r : Row} (e : ∀ n q l, r = .done n q (.rows l) → ad' (.trow i) = ad (.trow i)) (h : RowV K H ad i v r) : RowV K H' ad' i v r := by
  cases r with
  | beg n => exact dp_tup k _ _ (by simp [Row.D, noLst, noLstAll]) h
  | fin ab n => exact dp_tup k _ _ (by simp [Row.D, noLst, noLstAll]) h
  | done n q r =>
    cases r with
    | rows l =>
      obtain ⟨t, e1, h1⟩ := h
      refine ⟨t, e1, ?_⟩
      rw [e n q l rfl]
      exact sqT_tup k h1
    | truth b => exact dp_tup k _ _ (by cases q <;> simp [Row.D, Rq.args, Res.D, noLst, noLstAll]) h
/-- the parts that a part names -/
def Ro.ptr : Ro → Ro → Bool
  | .self, .tab | .self, .spc | .self, .wks | .self, .que | .self, .tld => true
  | .wks, .wk _ => true
  | .wk n, .rrs m | .wk n, .wri m | .wk n, .old m => decide (n = m)
  | .wri n, .wrk m | .wri n, .wrv m => decide (n = m)
  | .rrs n, .rd m _ => decide (n = m)
  | .rd n i, .kep m j | .rd n i, .inn m j => decide (n = m ∧ i = j)
  | .tld, .trow _ => true
  | _, _ => false
/-- two stores are alike at a part -/
def Agr (s s' : St) : Ro → Prop
  | .self => s'.kind = s.kind ∧ s'.begun = s.begun
  | .tab => s'.table = s.table
  | .spc => s'.spacers = s.spacers
  | .wks => s'.works.map (·.1) = s.works.map (·.1)
  | .que => s'.queue = s.queue
  | .tld => s'.told = s.told
  | .wk n => ∀ w', s'.work n = some w' → ∃ w, s.work n = some w ∧ w'.req = w.req
  | .rrs n => ∀ w', s'.work n = some w' → ∃ w, s.work n = some w ∧ w'.reads.length = w.reads.length
  | .wri n => ∀ w', s'.work n = some w' → ∃ w, s.work n = some w
  | .wrk n => ∀ w', s'.work n = some w' → ∃ w, s.work n = some w ∧ w'.wk = w.wk
  | .wrv n => ∀ w', s'.work n = some w' → ∃ w, s.work n = some w ∧ w'.wv = w.wv
  | .old n => ∀ w', s'.work n = some w' → ∃ w, s.work n = some w ∧ w'.old = w.old
  | .rd n j => ∀ w' r', s'.work n = some w' → w'.reads[j]? = some r' → ∃ w r, s.work n = some w ∧ w.reads[j]? = some r ∧ r'.vals = r.vals ∧ r'.lo = r.lo ∧ r'.hi = r.hi
  | .kep n j => ∀ w' r', s'.work n = some w' → w'.reads[j]? = some r' → ∃ w r, s.work n = some w ∧ w.reads[j]? = some r ∧ r'.kept = r.kept
  | .inn n j => ∀ w' r', s'.work n = some w' → w'.reads[j]? = some r' → ∃ w r, s.work n = some w ∧ w.reads[j]? = some r ∧ r'.inner = r.inner
  | .trow i => ∀ n q l, s'.told[i]? = some (.done n q (.rows l)) → s.told[i]? = some (.done n q (.rows l))
theorem RoOk.move {ρ : Ro} (h : RoOk K c H ad s ρ) (k : TupK H H') (e : H' (ad ρ) = H (ad ρ)) (ea : ad' ρ = ad ρ) (ep : ∀ ρ2, s'.dom ρ2 → ρ.ptr ρ2 = true → ad' ρ2 = ad ρ2) (g : Agr s s' ρ) : RoOk K c H' ad' s' ρ := by
  cases ρ with
  | self =>
    obtain ⟨dx, h⟩ := h
    obtain ⟨g1, g2⟩ := g
    refine ⟨dx, ?_⟩
    rw [ea, e, h, g1, g2]
    unfold stF
    rw [ep .tab trivial rfl, ep .spc trivial rfl, ep .wks trivial rfl, ep .que trivial rfl, ep .tld trivial rfl]
  | tab =>
    show H' _ = _
    rw [ea, e, show s'.table = s.table from g]
    exact h
  | spc =>
    show H' _ = _
    rw [ea, e, show s'.spacers = s.spacers from g]
    exact h
  | wks =>
    show H' _ = _
    rw [ea, e]
    have g : s'.works.map (·.1) = s.works.map (·.1) := g
    have eq : wksT ad' s' = wksT ad s := by
      have : ∀ (t : St) (a : Ro → Addr), wksT a t = (t.works.map (·.1)).map fun n => (n, V.ref (a (.wk n))) := fun t a => by simp [wksT, Function.comp_def]
      rw [this, this, g]
      refine List.map_congr_left fun n hn => ?_
      rw [← g] at hn
      obtain ⟨p, hp, rfl⟩ := List.mem_map.mp hn
      have dm : s'.dom (.wk p.1) := by
        unfold St.dom St.work
        cases hf : s'.works.find? fun q => decide (q.1 = p.1) with
        | none =>
          have := List.find?_eq_none.mp hf p hp
          simp at this
        | some q => exact ⟨q.2, by rw [hf]; rfl⟩
      rw [ep _ dm rfl]
    rw [eq]
    exact h
  | que =>
    show H' _ = _
    rw [ea, e, show s'.queue = s.queue from g]
    exact h
  | tld =>
    obtain ⟨vs, h1, h2, h3⟩ := h
    have g : s'.told = s.told := g
    refine ⟨vs, by rw [ea, e, h1], by rw [g]; exact h2, fun i v r hv hr => rowV_tup k (fun n q l z => ep _ ⟨n, q, l, by rw [hr, z]⟩ rfl) (h3 i v r hv (by rw [← g]; exact hr))⟩
  | wk n =>
    intro w' hw'
    obtain ⟨w, hw, er⟩ := g w' hw'
    obtain ⟨dx, rq, h1, h2⟩ := h w hw
    refine ⟨dx, rq, ?_, by rw [er]; exact dp_tup k _ _ (noLst_rq _) h2⟩
    rw [ea, e, h1]
    unfold wkF
    rw [ep (.rrs n) ⟨_, hw'⟩ (by simp [Ro.ptr]), ep (.wri n) ⟨_, hw'⟩ (by simp [Ro.ptr]), ep (.old n) ⟨_, hw'⟩ (by simp [Ro.ptr])]
  | rrs n =>
    intro w' hw'
    obtain ⟨w, hw, er⟩ := g w' hw'
    rw [ea, e, h w hw, er]
    congr 2
    refine List.map_congr_left fun j hj => ?_
    have lj : j < w'.reads.length := by rw [er]; exact List.mem_range.mp hj
    rw [ep (.rd n j) ⟨w', _, hw', List.getElem?_eq_getElem lj⟩ (by simp [Ro.ptr])]
  | wri n =>
    intro w' hw'
    obtain ⟨w, hw⟩ := g w' hw'
    rw [ea, e, h w hw, ep (.wrk n) ⟨_, hw'⟩ (by simp [Ro.ptr]), ep (.wrv n) ⟨_, hw'⟩ (by simp [Ro.ptr])]
  | wrk n =>
    intro w' hw'
    obtain ⟨w, hw, er⟩ := g w' hw'
    rw [ea, e, h w hw, er]
  | wrv n =>
    intro w' hw'
    obtain ⟨w, hw, er⟩ := g w' hw'
    rw [ea, e, h w hw, er]
  | old n =>
    intro w' hw'
    obtain ⟨w, hw, er⟩ := g w' hw'
    rw [ea, e, h w hw, er]
  | rd n j =>
    intro w' r' hw' hr'
    obtain ⟨w, r, hw, hr, e1, e2, e3⟩ := g w' r' hw' hr'
    obtain ⟨dx, h1⟩ := h w r hw hr
    refine ⟨dx, ?_⟩
    rw [ea, e, h1]
    unfold rdF
    rw [ep (.kep n j) ⟨w', r', hw', hr'⟩ (by simp [Ro.ptr]), ep (.inn n j) ⟨w', r', hw', hr'⟩ (by simp [Ro.ptr]), e1, e2, e3]
  | kep n j =>
    intro w' r' hw' hr'
    obtain ⟨w, r, hw, hr, e1⟩ := g w' r' hw' hr'
    rw [ea, e1]
    exact dtL_tup k e (h w r hw hr)
  | inn n j =>
    intro w' r' hw' hr'
    obtain ⟨w, r, hw, hr, e1⟩ := g w' r' hw' hr'
    rw [ea, e1]
    exact dtL_tup k e (h w r hw hr)
  | trow i =>
    intro n q l hl
    rw [ea]
    exact ptsL_tup k e (h n q l (g n q l hl))
/-- THE RULE: some parts are set anew, the others stay -/
theorem StoL.step (h : StoL K c H ad s) (new : Ro → Prop) (k : TupK H H') (inj : ∀ ρ ρ', s'.dom ρ → s'.dom ρ' → ad' ρ = ad' ρ' → ρ = ρ') (h1 : ∀ ρ, s'.dom ρ → new ρ → RoOk K c H' ad' s' ρ)
    (h2 : ∀ ρ, s'.dom ρ → ¬ new ρ → s.dom ρ ∧ H' (ad ρ) = H (ad ρ) ∧ ad' ρ = ad ρ ∧ (∀ ρ2, s'.dom ρ2 → ρ.ptr ρ2 = true → ad' ρ2 = ad ρ2) ∧ Agr s s' ρ) : StoL K c H' ad' s' := by
  refine ⟨inj, fun ρ d => ?_⟩
  by_cases n : new ρ
  · exact h1 ρ d n
  · obtain ⟨d0, e, ea, ep, g⟩ := h2 ρ d n
    exact (h.ok ρ d0).move k e ea ep g
theorem agr_refl (s : St) : ∀ ρ, Agr s s ρ := by
  intro ρ
  cases ρ with
  | self => exact ⟨rfl, rfl⟩
  | tab | spc | wks | que | tld => exact rfl
  | wk n | rrs n | wrk n | wrv n | old n => exact fun w hw => ⟨w, hw, rfl⟩
  | wri n => exact fun w hw => ⟨w, hw⟩
  | rd n j => exact fun w r hw hr => ⟨w, r, hw, hr, rfl, rfl, rfl⟩
  | kep n j | inn n j => exact fun w r hw hr => ⟨w, r, hw, hr, rfl⟩
  | trow i => exact fun n q l e => e
/-- an object that is no table and no tuple -/
structure Own3 (o : HO) : Prop where
  tbl : ∀ ps, o ≠ .tbl ps
  tup : ∀ xs, o ≠ .tup xs
  frz : ∀ ob u, o ≠ .frz ob u
  ext : ∀ p, o ≠ .ext p
theorem own3_ins {C dx : Addr} {fs : List (Str × V)} : Own3 (.ins C dx fs) := ⟨fun _ z => (by cases z), fun _ z => (by cases z), fun _ _ z => (by cases z), fun _ z => (by cases z)⟩
theorem own3_dK {kvs : List (Key × V)} : Own3 (.dK kvs) := ⟨fun _ z => (by cases z), fun _ z => (by cases z), fun _ _ z => (by cases z), fun _ z => (by cases z)⟩
theorem own3_dT {kvs : List (List Key × V)} : Own3 (.dT kvs) := ⟨fun _ z => (by cases z), fun _ z => (by cases z), fun _ _ z => (by cases z), fun _ z => (by cases z)⟩
theorem own3_lst {xs : List V} : Own3 (.lst xs) := ⟨fun _ z => (by cases z), fun _ z => (by cases z), fun _ _ z => (by cases z), fun _ z => (by cases z)⟩
/-- each part stands somewhere -/
theorem roOk_there {ρ : Ro} (h : RoOk K c H ad s ρ) (d : s.dom ρ) : ∃ o, H (ad ρ) = some o ∧ Own3 o := by
  cases ρ with
  | self =>
    obtain ⟨dx, h⟩ := h
    exact ⟨_, h, own3_ins⟩
  | tab => exact ⟨_, h, own3_dK⟩
  | spc => exact ⟨_, h, own3_lst⟩
  | wks => exact ⟨_, h, own3_dK⟩
  | que => exact ⟨_, h, own3_lst⟩
  | tld =>
    obtain ⟨vs, h, _⟩ := h
    exact ⟨_, h, own3_lst⟩
  | wk n =>
    obtain ⟨w, hw⟩ := d
    obtain ⟨dx, rq, h, _⟩ := h w hw
    exact ⟨_, h, own3_ins⟩
  | rrs n =>
    obtain ⟨w, hw⟩ := d
    exact ⟨_, h w hw, own3_lst⟩
  | wri n =>
    obtain ⟨w, hw⟩ := d
    exact ⟨_, h w hw, own3_dK⟩
  | wrk n =>
    obtain ⟨w, hw⟩ := d
    exact ⟨_, h w hw, own3_dK⟩
  | wrv n =>
    obtain ⟨w, hw⟩ := d
    exact ⟨_, h w hw, own3_dT⟩
  | old n =>
    obtain ⟨w, hw⟩ := d
    exact ⟨_, h w hw, own3_dK⟩
  | rd n j =>
    obtain ⟨w, r, hw, hr⟩ := d
    obtain ⟨dx, h⟩ := h w r hw hr
    exact ⟨_, h, own3_ins⟩
  | kep n j =>
    obtain ⟨w, r, hw, hr⟩ := d
    obtain ⟨xs, h, _⟩ := h w r hw hr
    exact ⟨_, h, own3_lst⟩
  | inn n j =>
    obtain ⟨w, r, hw, hr⟩ := d
    obtain ⟨xs, h, _⟩ := h w r hw hr
    exact ⟨_, h, own3_lst⟩
  | trow i =>
    obtain ⟨n, q, l, e⟩ := d
    obtain ⟨xs, h, _⟩ := h n q l e
    exact ⟨_, h, own3_lst⟩
theorem StoL.smT (h : StoL K c H ad s) (e : SmT H H') : StoL K c H' ad s :=
  h.step (fun _ => False) (TupK.smT e) h.inj (fun _ _ z => z.elim) fun ρ d _ => by
    obtain ⟨o, ho, nt⟩ := roOk_there (h.ok ρ d) d
    exact ⟨d, by rw [ho]; exact e _ _ ho nt.tbl, rfl, fun _ _ _ => rfl, agr_refl s ρ⟩
theorem StoL.same (h : StoL K c H ad s) (e : Same H H') : StoL K c H' ad s := h.smT (Same.smT e)
end
/-- the addresses of a store -/
def Reg (ad : Ro → Addr) (s : St) (b : Addr) : Prop := ∃ ρ, s.dom ρ ∧ ad ρ = b
/-- what a call on a store leaves alone -/
structure Stp (ad : Ro → Addr) (s : St) (H : Hp) (ad' : Ro → Addr) (s' : St) (H' : Hp) : Prop where
  keep : ∀ b o, H b = some o → ¬ Reg ad s b → (∀ ps, o ≠ .tbl ps) → H' b = some o
  reg : ∀ b, Reg ad' s' b → Reg ad s b ∨ H b = none ∨ ∃ ps, H b = some (.tbl ps)
  row : ∀ i n q l, s.told[i]? = some (.done n q (.rows l)) → s'.told[i]? = some (.done n q (.rows l)) ∧ ad' (.trow i) = ad (.trow i) ∧ ∀ o, H (ad (.trow i)) = some o → (∀ ps, o ≠ .tbl ps) → H' (ad (.trow i)) = some o
end Gx

set_option maxHeartbeats 400000
/-! what is neither hidden nor a table stays -/
namespace Gx
open PySem L2
def plainO : HO → Bool
  | .ext _ => false
  | .tbl _ => false
  | _ => true
def Kp (H H' : Hp) : Prop := ∀ a o, plainO o = true → H a = some o → H' a = some o
section
variable {K : PySem.W.Frag} {c : SCls} {H H' H2 : Hp} {ad ad' : Ro → Addr} {s s' : St}
theorem Kp.refl (H : Hp) : Kp H H := fun _ _ _ e => e
theorem Kp.trans (a : Kp H H') (b : Kp H' H2) : Kp H H2 := fun p o v e => b p o v (a p o v e)
theorem Same.kp (s : Same H H') : Kp H H' := fun a o _ e => s a o e
theorem SmV.kp (s : SmV H H') : Kp H H' := fun a o v e => s a o (by cases o <;> first | rfl | cases v) e
theorem SmT.kp (s : SmT H H') : Kp H H' := fun a o v e => s a o e (fun ps z => by subst z; cases v)
theorem Kp.lst (k : Kp H H') {a : Addr} {xs : List V} (e : H a = some (.lst xs)) : H' a = some (.lst xs) := k a _ rfl e
theorem Kp.tup (k : Kp H H') {a : Addr} {xs : List V} (e : H a = some (.tup xs)) : H' a = some (.tup xs) := k a _ rfl e
theorem Kp.dK (k : Kp H H') {a : Addr} {xs : List (Key × V)} (e : H a = some (.dK xs)) : H' a = some (.dK xs) := k a _ rfl e
theorem Kp.tupK (k : Kp H H') : TupK H H' := fun t xs h => by
  rcases h with h | ⟨o, h⟩
  · exact .inl (k _ _ rfl h)
  · exact .inr ⟨o, k _ _ rfl h⟩
theorem Own3.plain {o : HO} (h : Own3 o) : plainO o = true := by
  cases o with
  | ext p => exact absurd rfl (h.ext p)
  | tbl ps => exact absurd rfl (h.tbl ps)
  | _ => rfl
theorem StoL.kp (h : StoL K c H ad s) (e : Kp H H') : StoL K c H' ad s :=
  h.step (fun _ => False) (Kp.tupK e) h.inj (fun _ _ z => z.elim) fun ρ d _ => by
    obtain ⟨o, ho, nt⟩ := roOk_there (h.ok ρ d) d
    exact ⟨d, by rw [ho]; exact e _ _ nt.plain ho, rfl, fun _ _ _ => rfl, agr_refl s ρ⟩
theorem PtsL.kp {α : Type} [Kd α] (k : Kp H H') {p : Addr} {as : List α} (h : PtsL K H p as) : PtsL K H' p as := by
  obtain ⟨xs, e, d⟩ := h
  exact ⟨xs, k.lst e, dp_tupAll k.tupK _ _ (noLstAll_iff.mpr fun d hd => by
    obtain ⟨a, _, rfl⟩ := List.mem_map.mp hd
    exact Kd.nol a) d⟩
theorem DtL.kp {β : Type} [Da β] (k : Kp H H') {p : Addr} {as : List β} (h : DtL K H p as) : DtL K H' p as := by
  obtain ⟨xs, e, d⟩ := h
  exact ⟨xs, k.lst e, dp_tupAll k.tupK _ _ (da_nols as) d⟩
/-- a store stands where nothing plain is lost -/
theorem Kp.reg (k : Kp H H') (h : StoL K c H ad s) {b : Addr} (n : H' b = none) : ¬ Reg ad s b := fun ⟨ρ, d, e⟩ => by
  obtain ⟨o, ho, nt⟩ := roOk_there (h.ok ρ d) d
  have := k _ _ nt.plain ho
  rw [e, n] at this
  cases this
end
end Gx

set_option maxHeartbeats 4000000
/-! module gapreach.spacers: chosen_rows -/
namespace Gk
open PySem L2 Gx LamX
open C8 (Cal Met Mak pe_c pe_mt pe_mt0 pe_mk pe_gc)
local macro_rules | `(tactic| walk_at "g") => `(tactic| (first
  | with_reducible refine g_seq ?_ | with_reducible refine g_asg ?_ | ((with_reducible show tVar _ _ _ _); refine g_var rfl ?_) | with_reducible refine g_c ?_ | with_reducible refine g_name ?_ | with_reducible refine g_op ?_ | with_reducible refine g_I0 ?_
  | with_reducible refine g_cons ?_ | with_reducible refine g_nil ?_ | with_reducible refine g_exbl ?_ | with_reducible refine g_exint ?_ | with_reducible refine g_test ?_ | with_reducible refine g_B ?_ | with_reducible refine g_ifS ?_ | with_reducible refine g_ret ?_ | with_reducible refine g_retN ?_ | with_reducible refine g_next ?_
  | with_reducible refine g_CB ?_ | with_reducible refine g_sub ?_ | with_reducible refine g_drop ?_ | with_reducible refine g_not ?_ | with_reducible refine g_and ?_ | with_reducible refine g_or ?_ | with_reducible refine g_andV ?_ | with_reducible refine g_orV ?_ | with_reducible refine g_notV ?_ | with_reducible refine g_ifE ?_ | with_reducible refine g_isN ?_
  | with_reducible refine g_par ?_ | with_reducible refine g_expar ?_ | with_reducible refine g_chain ?_ | with_reducible refine g_un ?_ | with_reducible refine g_U ?_ | with_reducible refine g_bits ?_ | ((with_reducible show rEq _ _ _ _); refine g_eq rfl ?_) | ((with_reducible show rNe _ _ _ _); refine g_ne rfl ?_)
  | with_reducible refine g_for ?_ | with_reducible refine g_iRng1 ?_ | with_reducible refine g_iRng2 ?_ | with_reducible refine g_iList ?_ | with_reducible refine g_iTup ?_
  | ((with_reducible refine g_Imul ?hc ?_); (case hc => (first | (refine Or.inl ⟨?_, ?_⟩ <;> first | decide | omega) | (refine Or.inr ⟨?_, ?_⟩ <;> first | decide | omega))))
  | ((with_reducible refine g_Idiv ?hc ?_); (case hc => (first | (exact ⟨by decide, by decide⟩) | assumption)))
  | ((with_reducible refine g_Imod ?hc ?_); (case hc => (first | assumption | omega | decide)))
  | ((with_reducible refine g_exR1 ?hlo ?hhi ?_); (case hlo => omega); (case hhi => omega))
  | ((with_reducible refine g_exR2 ?hb ?_); (case hb => omega))
  | with_reducible refine g_lst ?_ | with_reducible refine g_tup ?_ | with_reducible refine g_call ?_ | with_reducible refine g_BM ?_ | with_reducible refine g_BM0 ?_
  | with_reducible refine g_intB ?_ | with_reducible refine g_lc ?_ | with_reducible refine g_yes ?_ | with_reducible refine g_iZip ?_ | with_reducible refine g_sl ?_ | with_reducible refine g_noP ?_ | with_reducible refine g_part ?_ | with_reducible refine g_gcons ?_ | with_reducible refine g_gnil ?_
  | with_reducible refine g_tfld ?_ | with_reducible refine g_tmeth ?_ | with_reducible refine g_tmake ?_ | with_reducible refine g_sfld ?_ | with_reducible refine g_tprop ?_ | with_reducible refine g_tstar ?_ | with_reducible refine g_tmethK ?_ | with_reducible refine g_isN1 ?_ | with_reducible refine g_notN1 ?_ | with_reducible refine g_callK0 ?_ | with_reducible refine g_m1 ?_ | with_reducible refine g_isstr ?_ | with_reducible refine g_iStr ?_ | with_reducible refine g_exS ?_ | with_reducible refine g_iEnum ?_))
local macro_rules | `(tactic| walk_at "gs1") => `(tactic| (first
  | with_reducible refine g_seq ?_ | with_reducible refine g_asg ?_ | ((with_reducible show tVar _ _ _ _); refine g_var rfl ?_) | with_reducible refine g_c ?_ | with_reducible refine g_name ?_ | with_reducible refine g_op ?_ | with_reducible refine g_I0 ?_
  | with_reducible refine g_cons ?_ | with_reducible refine g_nil ?_ | with_reducible refine g_exbl ?_ | with_reducible refine g_exint ?_ | with_reducible refine g_test ?_ | with_reducible refine g_B ?_ | with_reducible refine g_ifS ?_ | with_reducible refine g_retN ?_ | with_reducible refine g_next ?_
  | with_reducible refine g_CB ?_ | with_reducible refine g_sub ?_ | with_reducible refine g_drop ?_ | with_reducible refine g_not ?_ | with_reducible refine g_and ?_ | with_reducible refine g_or ?_ | with_reducible refine g_andV ?_ | with_reducible refine g_orV ?_ | with_reducible refine g_notV ?_ | with_reducible refine g_ifE ?_ | with_reducible refine g_isN ?_
  | with_reducible refine g_par ?_ | with_reducible refine g_expar ?_ | with_reducible refine g_chain ?_ | with_reducible refine g_un ?_ | with_reducible refine g_U ?_ | with_reducible refine g_bits ?_ | ((with_reducible show rEq _ _ _ _); refine g_eq rfl ?_) | ((with_reducible show rNe _ _ _ _); refine g_ne rfl ?_)
  | with_reducible refine g_for ?_ | with_reducible refine g_iRng1 ?_ | with_reducible refine g_iRng2 ?_ | with_reducible refine g_iList ?_ | with_reducible refine g_iTup ?_
  | ((with_reducible refine g_Imul ?hc ?_); (case hc => (first | (refine Or.inl ⟨?_, ?_⟩ <;> first | decide | omega) | (refine Or.inr ⟨?_, ?_⟩ <;> first | decide | omega))))
  | ((with_reducible refine g_Idiv ?hc ?_); (case hc => (first | (exact ⟨by decide, by decide⟩) | assumption)))
  | ((with_reducible refine g_Imod ?hc ?_); (case hc => (first | assumption | omega | decide)))
  | ((with_reducible refine g_exR1 ?hlo ?hhi ?_); (case hlo => omega); (case hhi => omega))
  | ((with_reducible refine g_exR2 ?hb ?_); (case hb => omega))
  | with_reducible refine g_lst ?_ | with_reducible refine g_tup ?_ | with_reducible refine g_call ?_ | with_reducible refine g_BM ?_ | with_reducible refine g_BM0 ?_
  | with_reducible refine g_intB ?_ | with_reducible refine g_lc ?_ | with_reducible refine g_yes ?_ | with_reducible refine g_iZip ?_ | with_reducible refine g_sl ?_ | with_reducible refine g_noP ?_ | with_reducible refine g_part ?_ | with_reducible refine g_gcons ?_ | with_reducible refine g_gnil ?_
  | with_reducible refine g_tfld ?_ | with_reducible refine g_tmeth ?_ | with_reducible refine g_tmake ?_ | with_reducible refine g_sfld ?_ | with_reducible refine g_tprop ?_ | with_reducible refine g_tstar ?_ | with_reducible refine g_tmethK ?_ | with_reducible refine g_isN1 ?_ | with_reducible refine g_notN1 ?_ | with_reducible refine g_callK0 ?_ | with_reducible refine g_m1 ?_ | with_reducible refine g_isstr ?_ | with_reducible refine g_iStr ?_ | with_reducible refine g_exS ?_ | with_reducible refine g_iEnum ?_))
local macro_rules | `(tactic| walk_at "gx1") => `(tactic| (first
  | with_reducible refine g_seq ?_ | with_reducible refine g_asg ?_ | ((with_reducible show tVar _ _ _ _); refine g_var rfl ?_) | with_reducible refine g_c ?_ | with_reducible refine g_name ?_ | with_reducible refine g_op ?_ | with_reducible refine g_I0 ?_
  | with_reducible refine g_cons ?_ | with_reducible refine g_nil ?_ | with_reducible refine g_exbl ?_ | with_reducible refine g_exint ?_ | with_reducible refine g_test ?_ | with_reducible refine g_B ?_ | with_reducible refine g_ifS ?_ | with_reducible refine g_retN ?_ | with_reducible refine g_next ?_
  | with_reducible refine g_CB ?_ | with_reducible refine g_sub ?_ | with_reducible refine g_drop ?_ | with_reducible refine g_not ?_ | with_reducible refine g_and ?_ | with_reducible refine g_or ?_ | with_reducible refine g_andV ?_ | with_reducible refine g_orV ?_ | with_reducible refine g_notV ?_ | with_reducible refine g_ret ?_ | with_reducible refine g_isN ?_
  | with_reducible refine g_par ?_ | with_reducible refine g_expar ?_ | with_reducible refine g_chain ?_ | with_reducible refine g_un ?_ | with_reducible refine g_U ?_ | with_reducible refine g_bits ?_ | ((with_reducible show rEq _ _ _ _); refine g_eq rfl ?_) | ((with_reducible show rNe _ _ _ _); refine g_ne rfl ?_)
  | with_reducible refine g_for ?_ | with_reducible refine g_iRng1 ?_ | with_reducible refine g_iRng2 ?_ | with_reducible refine g_iList ?_ | with_reducible refine g_iTup ?_
  | ((with_reducible refine g_Imul ?hc ?_); (case hc => (first | (refine Or.inl ⟨?_, ?_⟩ <;> first | decide | omega) | (refine Or.inr ⟨?_, ?_⟩ <;> first | decide | omega))))
  | ((with_reducible refine g_Idiv ?hc ?_); (case hc => (first | (exact ⟨by decide, by decide⟩) | assumption)))
  | ((with_reducible refine g_Imod ?hc ?_); (case hc => (first | assumption | omega | decide)))
  | ((with_reducible refine g_exR1 ?hlo ?hhi ?_); (case hlo => omega); (case hhi => omega))
  | ((with_reducible refine g_exR2 ?hb ?_); (case hb => omega))
  | with_reducible refine g_lst ?_ | with_reducible refine g_tup ?_ | with_reducible refine g_call ?_ | with_reducible refine g_BM ?_ | with_reducible refine g_BM0 ?_
  | with_reducible refine g_intB ?_ | with_reducible refine g_lc ?_ | with_reducible refine g_yes ?_ | with_reducible refine g_iZip ?_ | with_reducible refine g_sl ?_ | with_reducible refine g_noP ?_ | with_reducible refine g_part ?_ | with_reducible refine g_gcons ?_ | with_reducible refine g_gnil ?_
  | with_reducible refine g_tfld ?_ | with_reducible refine g_tmeth ?_ | with_reducible refine g_tmake ?_ | with_reducible refine g_sfld ?_ | with_reducible refine g_tprop ?_ | with_reducible refine g_tstar ?_ | with_reducible refine g_tmethK ?_ | with_reducible refine g_isN1 ?_ | with_reducible refine g_notN1 ?_ | with_reducible refine g_callK0 ?_ | with_reducible refine g_m1 ?_ | with_reducible refine g_isstr ?_ | with_reducible refine g_iStr ?_ | with_reducible refine g_exS ?_ | with_reducible refine g_iEnum ?_))
local macro_rules | `(tactic| walk_at "hp") => `(tactic| (first | assumption | exact upd_same | (refine same_get (by assumption) ?_; walk_at "hp")))
local macro_rules | `(tactic| walk_at "sm") => `(tactic| (first | assumption | exact Same.refl _ | (refine Same.trans ?ha (by assumption); walk_at "sm")))
local macro_rules | `(tactic| walk_at "nn") => `(tactic| (first | assumption | (refine same_free (by assumption) ?_; walk_at "nn")))
local macro_rules | `(tactic| walk_at "sb") => `(tactic| (first | decide | (refine small_bits ?_ ?_ <;> omega)))
local macro_rules | `(tactic| walk_at "ln") => `(tactic| (simp only [List.length_cons, List.length_nil]; omega))
local macro_rules | `(tactic| walk_at "gg") => `(tactic| (repeat walk_at "g"))
local macro_rules | `(tactic| walk_at "gs") => `(tactic| (repeat walk_at "gs1"))
local macro_rules | `(tactic| walk_at "gx") => `(tactic| (repeat walk_at "gx1"))

local macro_rules | `(tactic| walk_at "g") => `(tactic| (first | with_reducible refine g_tpropF ?_ | with_reducible refine g_tmethF ?_ | with_reducible refine g_tmethKF ?_ | with_reducible refine g_keysI ?_ | with_reducible refine g_valsI ?_ | with_reducible refine g_itemsI ?_ | with_reducible refine g_dget ?_ | with_reducible refine g_tstarD ?_))

instance rwWr : Rw Wr where
  toDa := inferInstance
  key r := r.q.2
  shape r := ⟨_, _, _, rfl⟩
/-- the first row that no number may end -/
def blockedR (ps : List Int) (rows : List Wr) : Option Wr := rows.find? fun r => (greatI ps r.q.1 r.q.2).isNone
def stepC (ps : List Int) (st : List Int × List Pr) (r : Wr) : List Int × List Pr := if st.1.any (fun s => decide (r.q.1 ≤ s ∧ s ≤ r.q.2)) = true then st else (st.1 ++ [(greatI ps r.q.1 r.q.2).getD 0], st.2 ++ [rowPr r])
def srtW (rows : List Wr) : List Wr := rows.mergeSort fun a b => decide (a.q.2 ≤ b.q.2)
def chosen (ps : List Int) (rows : List Wr) : List Int × List Pr := (srtW rows).foldl (stepC ps) ([], [])
abbrev choQ : Str := ("chosen_rows" : Str) ++ ".<locals>." ++ "<lambda>"
def spChosen (K : PySem.W.Frag) (CI : Addr) (TT : List (Addr × Str)) : Sp := fun vs H Q E => ∃ (a b c : Addr) (ks : List Int) (rs : List Pr) (ps : List Int), vs = [.ref a, .ref b, .ref c] ∧ H a = some (.lst (ks.map V.int)) ∧ PtsL K H b rs ∧ H c = some (.lst (ps.map V.int)) ∧ ks.length ≤ 1000 ∧ rs.length ≤ 30 ∧ ps.length ≤ 30 ∧ Tabs TT H ∧
  (∀ r, blockedR ps (wishRows ks rs ps) = some r → ∀ (d : Addr) (H' : Hp), Same H H' → H d = none → H' d = some (.xd [("index", .int r.i)]) → E (.ref CI) (some d) H') ∧
  (blockedR ps (wishRows ks rs ps) = none → ∀ (t p q : Addr) (H' : Hp), SmT H H' → Tabs TT H' → H' t = some (.tup [.ref p, .ref q]) → H' p = some (.lst ((chosen ps (wishRows ks rs ps)).1.map V.int)) → PtsL K H' q (chosen ps (wishRows ks rs ps)).2 → Q (.ref t) H')
section
variable {P : Program} {w : World} {K : PySem.W.Frag} {mg : Str → Option Value} {base : Heap} {X : Cx} {H H' : Hp}
theorem FunC.okX {x qual : Str} {st : Stmt} {f cc : Addr} {fd : FuncData} {N ps : List Str} {k : Nat} {sp : Sp} (F : FunC K x qual st f fd cc) (S : FnScope N ps (defScope st)) (size : ∀ vs H Q E, sp vs H Q E → vs.length = ps.length)
    (body : ∀ (A : Around) (outer : List Env) (s : Shared) (H : Hp) (vs : List V) (Q : VK) (E : XK), Room k (A.deeper (PyProof.Rows.envOfC qual (defScope st) s.heap.objs.size f (.ref cc))) → sp vs H Q E →
      ∃ t, PSs (cxOf (L2.CX P w) P w K mg base N qual (defScope st) f (.ref cc) A outer s H E) (defBody st) t ∧ t { nx := fun _ H' => Q .non H', rt := Q } (L2.start N vs) H) : FnOk P w K mg base (L2.CX P w) (k + 1) f fd ps sp := by
  obtain ⟨oc, od, kV, doc, pm, an, ct, osl, rfl, lk, code⟩ := F.ex
  exact fn_of lk code S size fun A outer s H vs Q E room q => body A outer s H vs Q E room q
theorem tabs_butL {T : List (Addr × Str)} {x : Addr} {xs : List V} (t : Tabs T H) (hx : H x = some (.lst xs)) (b : But x H H') : Tabs T H' := fun p hp => by
  obtain ⟨ps, h1, h2, h3⟩ := t p hp
  refine ⟨ps, b _ _ (fun z => by rw [z, hx] at h1; cases h1) h1, h2, fun pos cv hc => ?_⟩
  obtain ⟨c, e1, e2⟩ := h3 pos cv hc
  exact ⟨c, e1, b _ _ (fun z => by rw [z, hx] at e2; cases e2) e2⟩
theorem dtl_but {β : Type} [Da β] {x p : Addr} {xs : List V} {as : List β} (hx : H x = some (.lst xs)) (b : But x H H') (n : p ≠ x) (h : DtL K H p as) : DtL K H' p as := by
  obtain ⟨ys, e, d⟩ := h
  exact ⟨ys, b _ _ n e, dp_butAll hx b _ _ (da_nols _) d⟩
theorem smT_but {H0 : Hp} {x : Addr} (s : SmT H0 H) (n : H0 x = none) (b : But x H H') : SmT H0 H' := fun a o e nt => b _ _ (fun z => by rw [z, n] at e; cases e) (s a o e nt)
abbrev s_chosen_rows : Stmt := top 16
abbrev N_chosen_rows : List Str := ["keys", "ranges", "puts", "rows", "index", "place", "interval", "spacers", "taken", "spacer"]
theorem sc_chosen_rows : FnScope N_chosen_rows ["keys", "ranges", "puts"] (defScope s_chosen_rows) := ⟨rfl, rfl, rfl, by decide +kernel, rfl, by decide +kernel, by decide +kernel⟩

theorem ok_chosen {f cc Pt0 CI : Addr} {fd : FuncData} {TT : List (Addr × Str)} (F : FunC K "chosen_rows" "chosen_rows" s_chosen_rows f fd cc) (tb : LamX.TabB base mg cc Pt0) (inT : (Pt0, choQ) ∈ TT) (un : ∀ p ∈ TT, p.1 = Pt0 → p.2 = choQ) (T : Bt mg) (b_Impossible : BadC P w K mg base 1 "Impossible" CI "index")
    (c_wished_rows : Cal P w K mg base 2 "wished_rows" (spWishRows K) []) (c_greatest_allowed : Cal P w K mg base 1 "greatest_allowed" (spGreat K) []) : FnOk P w K mg base (L2.CX P w) 3 f fd ["keys", "ranges", "puts"] (spChosen K CI TT) := by
  refine FunC.okX F sc_chosen_rows (fun vs H Q E h => ?_) (fun A outer s0 H vs Q E hr h => ?_)
  · obtain ⟨a, b, c, ks, rs, ps, rfl, _⟩ := h
    rfl
  · obtain ⟨a, b, c, ks, rs, ps, rfl, ha, hb, hps, lk, lr, lp, hT, kE, kQ⟩ := h
    have hc : (cxOf (L2.CX P w) P w K mg base N_chosen_rows "chosen_rows" (defScope s_chosen_rows) f (.ref cc) A outer s0 H E).env.code = .ref cc := rfl
    refine ⟨_, (pss_cons (ps_set (i := 3) sc_chosen_rows.nd rfl (Or.inl rfl) (pe_c c_wished_rows hr (by decide) (by rfl) (pa_cons (pv 0) (pa_cons (pv 1) (pa_cons (pv 2) pa_nil)))))
    (pss_cons (ps_for (passes_of rfl) rfl (pi_list (pv 3)) (pg_tup (by rfl) (pgs_cons (pg_name (i := 4) sc_chosen_rows.nd rfl (Or.inl rfl)) (pgs_cons (pg_name (i := 5) sc_chosen_rows.nd rfl (Or.inl rfl)) (pgs_cons (pg_name (i := 6) sc_chosen_rows.nd rfl (Or.inr rfl)) pgs_nil)))) (pss_one (ps_if (pt_cmpR op_isN1 (pe_c c_greatest_allowed hr (by decide) (by rfl) (pa_cons (pv 6) (pa_cons (pv 2) pa_nil))) pe_non (nomark _)) (pss_one (ps_bad b_Impossible hr (by decide) rfl (takes_of rfl rfl rfl rfl) (by rfl) (pa_cons (pv 4) pa_nil))) pss_nil)))
    (pss_cons (ps_par (i := 7) (j := 8) (by rfl) sc_chosen_rows.nd rfl rfl (by decide) rfl rfl (pa_cons (pe_lst pa_nil) (pa_cons (pe_lst pa_nil) pa_nil)) (by rfl))
    (pss_cons (ps_for (passes_of rfl) rfl (pi_list (pe_callBK (cr_sortRow (β := Wr) rfl hr) (by rfl) T.n_sorted bt_sorted (pa_cons (pv 3) pa_nil) (pk_cons (pe_lamV tb hc inT un rfl (by decide +kernel)) pk_nil))) (pg_tup (by rfl) (pgs_cons (pg_name (i := 4) sc_chosen_rows.nd rfl (Or.inl rfl)) (pgs_cons (pg_name (i := 5) sc_chosen_rows.nd rfl (Or.inl rfl)) (pgs_cons (pg_name (i := 6) sc_chosen_rows.nd rfl (Or.inr rfl)) pgs_nil)))) (pss_one (ps_if (pt_not (pt_val (pe_callB (cr_any rfl) (by rfl) T.n_any bt_any (pa_cons (pe_lc (own := [("spacer", 9)]) (g := gName 9) (tt := tYes) rfl sc_chosen_rows.nd (pi_list (pv 7)) (blkOk_by (own := [("spacer", 9)]) (N := N_chosen_rows) (sc := defScope s_chosen_rows) (by decide +kernel)) (fun _ _ _ _ _ => pg_name (i := 9) sc_chosen_rows.nd rfl (Or.inl rfl)) (fun _ _ _ _ _ => pts_nil) (fun _ _ _ _ _ => (pe_chain op_le op_le (pe_ix (show IxR _ (rIxT K) from ix_tup) (pv 6) pe_int (fun _ _ => rfl)) (pv 9) (pe_ix (show IxR _ (rIxT K) from ix_tup) (pv 6) pe_int (fun _ _ => rfl))))) pa_nil)))) (pss_cons (ps_expr (pe_bm PySem.F.plainAttrs_list PySem.F.slot_list_append PySem.F.type_list_append mt_append (pv 7) (pa_cons (pe_c c_greatest_allowed hr (by decide) (by rfl) (pa_cons (pv 6) (pa_cons (pv 2) pa_nil))) pa_nil)))
    (pss_one (ps_expr (pe_bm PySem.F.plainAttrs_list PySem.F.slot_list_append PySem.F.type_list_append mt_append (pv 8) (pa_cons (pe_tup (pa_cons (pv 4) (pa_cons (pv 5) pa_nil))) pa_nil))))) pss_nil)))
    (pss_one (ps_ret (pe_tup (pa_cons (pv 7) (pa_cons (pv 8) pa_nil))))))))), ?_⟩
    walk_at "gg"
    refine ⟨a, b, c, ks, rs, ps, rfl, ha, hb, hps, lk, lr, lp, fun l H1 n1 S1 e1 => ?_⟩
    have wl := wish_len (ks := ks) lr lp
    generalize wishRows ks rs ps = rows at e1 wl kE kQ
    walk_at "gg"
    have l1 := e1
    obtain ⟨xs, ex, dx⟩ := e1
    have lnx : xs.length = rows.length := by rw [dpAll_len dx, List.length_map]
    refine g_exL (SqL.of ex) ?_
    refine fw_dts l1 (fun i σ H' => ∃ (v4 v5 v6 : Option V), σ = [some (.ref a), some (.ref b), some (.ref c), some (.ref l), v4, v5, v6, none, none, none] ∧ Same H1 H' ∧ (rows.take i).find? (fun r => (greatI ps r.q.1 r.q.2).isNone) = none) (fun i σ H' ⟨_, _, _, _, S, _⟩ => S) ⟨_, _, _, rfl, Same.refl _, rfl⟩ ?_ ?_
    · rintro i x r σ H2 hr0 ⟨v4, v5, v6, rfl, S2, no2⟩ dr
      have dr : Dp K H2 x (wrD r) := dr
      obtain ⟨t0, v1, v2, v3, rfl, h0, d1, d2, d3⟩ := dp_three dr
      obtain ⟨t3, rfl, h3⟩ := pr_at d3
      cases d1
      cases d2
      have S02 := S1.trans S2
      refine g_gtup h0 rfl ?_
      walk_at "gg"
      refine ⟨t3, c, r.q.1, r.q.2, ps, rfl, h3, S02 _ _ hps, by omega, fun v dv => ?_⟩
      have tk : rows.take (i + 1) = rows.take i ++ [r] := by
        rw [List.take_succ, hr0]
        rfl
      cases eg : greatI ps r.q.1 r.q.2 with
      | none =>
        rw [eg] at dv
        cases dv
        walk_at "gg"
        refine g_ifT rfl ?_
        with_reducible refine g_bad ?_
        walk_at "gg"
        refine bad_end fun d H3 S3 nd e3 => ?_
        refine kE r ?_ d H3 (S02.trans S3) (same_free S02 nd) e3
        unfold blockedR
        have sp : rows = rows.take i ++ r :: rows.drop (i + 1) := by
          obtain ⟨hl, rfl⟩ := List.getElem?_eq_some_iff.mp hr0
          rw [← List.drop_eq_getElem_cons hl, List.take_append_drop]
        rw [sp, List.find?_append, no2]
        simp [eg]
      | some n =>
        rw [eg] at dv
        cases dv
        walk_at "gg"
        refine g_ifF (decide_eq_false (by intro z; cases z)) ?_
        walk_at "gg"
        refine ⟨_, _, _, rfl, S2, ?_⟩
        rw [tk, List.find?_append, no2]
        simp [eg]
    rintro σ H2 ⟨v4, v5, v6, rfl, S2, no2⟩
    rw [List.take_length] at no2
    have kQ := kQ no2
    walk_at "gg"
    refine g_mkL (by walk_at "ln") fun p7 H3 n3 S3 e3 => ?_
    walk_at "gg"
    refine g_mkL (by walk_at "ln") fun p8 H4 n4 S4 e4 => ?_
    walk_at "gg"
    have S14 := (S2.trans S3).trans S4
    have S04 := S1.trans S14
    have l4 := l1.same S14
    refine g_cKw ?_
    walk_at "gg"
    refine g_lamV (tabs_same hT S04) fun lf c' pm ctv H5 X5 t5 n5 e5 => ?_
    walk_at "gg"
    refine ⟨l, lf, rows, rfl, rfl, (l4.kp (SmT.kp X5)).same (same_new n5), ?_, fun l7 H7 n7 S7 e7 => ?_⟩
    · exact ⟨_, _, _, _, _, _, _, _, _, _, _, _, pm, ctv, c', upd_same, same_new n5 _ _ e5, (fun _ _ _ _ _ => rfl), (by decide +kernel), rfl, rfl, rfl, (by decide +kernel), (by decide +kernel)⟩
    have S57 : Same H5 H7 := (same_new n5).trans S7
    have X47 : SmT H4 H7 := ExtN.trans X5 (Same.smT S57)
    have X07 : SmT H H7 := ExtN.trans (Same.smT S04) X47
    have t7 := tabs_same t5 S57
    have n7' : H p7 = none := same_free (S1.trans S2) n3
    have n8' : H p8 = none := same_free ((S1.trans S2).trans S3) n4
    have ne78 : p7 ≠ p8 := fun z => by
      rw [← z, e3] at n4
      cases n4
    have f7 : H7 p7 = some (.lst []) := SmT.lst X47 (S4 _ _ e3)
    have f8 : H7 p8 = some (.lst []) := SmT.lst X47 e4
    have nel7 : l7 ≠ p7 ∧ l7 ≠ p8 := by
      constructor
      · intro z
        rw [z] at n7
        have h5 : H5 p7 = some (.lst []) := SmT.lst X5 (S4 _ _ e3)
        cases n7.symm.trans (same_new n5 _ _ h5)
      · intro z
        rw [z] at n7
        have h5 : H5 p8 = some (.lst []) := SmT.lst X5 e4
        cases n7.symm.trans (same_new n5 _ _ h5)
    have e7' : DtL K H7 l7 (srtW rows) := e7
    have lsr : (srtW rows).length = rows.length := List.length_mergeSort _
    obtain ⟨ys, ey, dy⟩ := e7'
    refine ⟨l7, rfl, ⟨ys, SqL.of ey⟩, ?_⟩
    have lny : ys.length = (srtW rows).length := by rw [dpAll_len dy, List.length_map]
    refine fw_list (xs := ys) (fun i σ H' => ∃ (v4 v5 v6 v9 : Option V), σ = [some (.ref a), some (.ref b), some (.ref c), some (.ref l), v4, v5, v6, some (.ref p7), some (.ref p8), v9] ∧ SmT H H' ∧ Tabs TT H' ∧ H' p7 = some (.lst ((((srtW rows).take i).foldl (stepC ps) ([], [])).1.map V.int)) ∧
        PtsL K H' p8 (((srtW rows).take i).foldl (stepC ps) ([], [])).2 ∧ H' l7 = some (.lst ys) ∧ DpAll K H' ys ((srtW rows).map Da.D) ∧ (((srtW rows).take i).foldl (stepC ps) ([], [])).1.length ≤ i ∧ (((srtW rows).take i).foldl (stepC ps) ([], [])).2.length ≤ i)
      ⟨_, _, _, _, rfl, X07, t7, f7, ⟨[], f8, .nil⟩, ey, dy, Nat.le_refl _, Nat.le_refl _⟩ (fun i σ H' _ ⟨_, _, _, _, _, _, _, _, _, e, _⟩ => SqL.of e) ?_ ?_
    · rintro i x σ H8 hx ⟨v4, v5, v6, v9, rfl, X8, t8, a8, b8, c8, d8, l8, m8⟩
      obtain ⟨r, hr0, dr⟩ := datas_at d8 hx
      have dr : Dp K H8 x (wrD r) := dr
      have il : i < (srtW rows).length := (List.getElem?_eq_some_iff.mp hr0).1
      have tk : (srtW rows).take (i + 1) = (srtW rows).take i ++ [r] := by
        rw [List.take_succ, hr0]
        rfl
      rw [tk, List.foldl_append, List.foldl_cons, List.foldl_nil]
      generalize hst : ((srtW rows).take i).foldl (stepC ps) ([], []) = st at a8 b8 l8 m8 ⊢
      obtain ⟨sp, tkn⟩ := st
      obtain ⟨t0, v1, v2, v3, rfl, h0, d1, d2, d3⟩ := dp_three dr
      obtain ⟨t3, rfl, h3⟩ := pr_at d3
      cases d1
      cases d2
      refine g_gtup h0 rfl ?_
      walk_at "gg"
      refine g_exL (SqL.of a8) ?_
      refine lc_map (src_list (SqL.of a8)) (by rw [List.length_map]; omega) (fun i y => ∃ b, (sp.map fun s => decide (r.q.1 ≤ s ∧ s ≤ r.q.2))[i]? = some b ∧ y = V.bl b) (fun i x H' Nx hi S it kx => ?_) fun D9 acc H9 n9 S9 e9 hl9 hacc => ?_
      · obtain ⟨n, hn, rfl⟩ := int_at it
        walk_at "gg"
        refine ⟨rfl, ?_⟩
        walk_at "gg"
        have get : (sp.map fun s => decide (r.q.1 ≤ s ∧ s ≤ r.q.2))[i]? = some (decide (r.q.1 ≤ n ∧ n ≤ r.q.2)) := by rw [List.getElem?_map, hn]; rfl
        refine g_ix2 (same_sqT S h3) rfl ?_
        walk_at "gg"
        by_cases c1 : r.q.1 ≤ n
        · refine g_ifT (decide_eq_true c1) ?_
          walk_at "gg"
          refine g_ix2 (same_sqT S h3) rfl ?_
          walk_at "gg"
          refine kx _ _ (Same.refl _) ⟨_, get, ?_⟩
          simp [c1]
        · refine g_ifF (decide_eq_false c1) ?_
          refine kx _ _ (Same.refl _) ⟨_, get, ?_⟩
          simp [c1]
      have ea := bls (by rw [List.length_map]; rw [List.length_map] at hl9; exact hl9) hacc
      rw [ea] at e9
      walk_at "gg"
      refine g_any (SqL.of e9) ?_
      rw [List.any_map]
      refine ⟨_, rfl, ?_⟩
      have S89 : SmT H8 H9 := Same.smT S9
      have X9 : SmT H H9 := ExtN.trans X8 S89
      cases an : sp.any (fun s => decide (r.q.1 ≤ s ∧ s ≤ r.q.2)) with
      | true =>
        have st1 : stepC ps (sp, tkn) r = (sp, tkn) := if_pos an
        rw [st1]
        refine g_ifF (by rw [show sp.any (id ∘ fun s => decide (r.q.1 ≤ s ∧ s ≤ r.q.2)) = true from an]; rfl) ?_
        walk_at "gg"
        exact ⟨_, _, _, _, rfl, X9, tabs_same t8 S9, S9 _ _ a8, b8.same S9, S9 _ _ c8, dp_sameAll S9 _ _ d8, Nat.le_succ_of_le l8, Nat.le_succ_of_le m8⟩
      | false =>
        have hgr : ∃ n, greatI ps r.q.1 r.q.2 = some n := by
          have z := List.find?_eq_none.mp no2 r ((List.mergeSort_perm rows _).mem_iff.mp (List.mem_of_getElem? hr0))
          cases e : greatI ps r.q.1 r.q.2 with
          | none => rw [e] at z; exact absurd rfl z
          | some n => exact ⟨n, rfl⟩
        obtain ⟨n, hn⟩ := hgr
        have st1 : stepC ps (sp, tkn) r = (sp ++ [n], tkn ++ [rowPr r]) := by
          unfold stepC
          rw [if_neg (by show ¬ sp.any (fun s => decide (r.q.1 ≤ s ∧ s ≤ r.q.2)) = true; rw [an]; decide), hn]
          rfl
        rw [st1]
        refine g_ifT (by rw [show sp.any (id ∘ fun s => decide (r.q.1 ≤ s ∧ s ≤ r.q.2)) = false from an]; rfl) ?_
        walk_at "gg"
        have a9 := S9 _ _ a8
        refine g_tyL a9 ?_
        walk_at "gg"
        refine ⟨t3, c, r.q.1, r.q.2, ps, rfl, same_sqT S9 h3, SmT.lst X9 hps, by omega, fun v dv => ?_⟩
        rw [hn] at dv
        cases dv
        walk_at "gg"
        refine g_appB a9 (by rw [List.length_map]; show sp.length < 100000; have : (srtW rows).length ≤ 100000 := by rw [lsr]; omega
                             have := l8; simp only at this; omega) fun H10 B10 e10 => ?_
        walk_at "gg"
        have b9 := b8.same S9
        obtain ⟨qs, eq, dq⟩ := b9
        have eq10 := B10 _ _ (Ne.symm ne78) eq
        refine g_tyL eq10 ?_
        walk_at "gg"
        refine g_mkT (by walk_at "ln") fun t11 H11 n11 S11 e11 => ?_
        walk_at "gg"
        have lq : qs.length = tkn.length := by rw [dpAll_len dq, List.length_map]
        refine g_appB (S11 _ _ eq10) (by rw [lq]; have : (srtW rows).length ≤ 100000 := by rw [lsr]; omega
                                         have := m8; simp only at this; omega) fun H12 B12 e12 => ?_
        walk_at "gg"
        have nt : t11 ≠ p8 := fun z => by
          rw [z, eq10] at n11
          cases n11
        have X10 : SmT H H10 := smT_but X9 n7' B10
        have X12 : SmT H H12 := smT_but (ExtN.trans X10 (Same.smT S11)) n8' B12
        have T10 : Tabs TT H10 := tabs_butL (tabs_same t8 S9) a9 B10
        have T12 : Tabs TT H12 := tabs_butL (tabs_same T10 S11) (S11 _ _ eq10) B12
        have dl10 : DpAll K H10 ys ((srtW rows).map Da.D) := dp_butAll a9 B10 _ _ (da_nols _) (dp_sameAll S9 _ _ d8)
        have dl12 : DpAll K H12 ys ((srtW rows).map Da.D) := dp_butAll (S11 _ _ eq10) B12 _ _ (da_nols _) (dp_sameAll S11 _ _ dl10)
        have dq10 : DpAll K H10 qs (tkn.map Kd.D) := dp_butAll a9 B10 _ _ (kd_nols _) dq
        have dq12 : DpAll K H12 qs (tkn.map Kd.D) := dp_butAll (S11 _ _ eq10) B12 _ _ (kd_nols _) (dp_sameAll S11 _ _ dq10)
        refine ⟨_, _, _, _, rfl, X12, T12, ?_, ⟨_, e12, ?_⟩, B12 _ _ nel7.2 (S11 _ _ (B10 _ _ nel7.1 (S9 _ _ c8))), dl12, ?_, ?_⟩
        · rw [List.map_append]
          exact B12 _ _ ne78 (S11 _ _ e10)
        · rw [List.map_append]
          exact dpAll_append dq12 (.cons (.tup (SqT.of (B12 _ _ nt e11)) (.cons (.int _) (.cons (.int _) .nil))) .nil)
        · rw [List.length_append]
          exact Nat.succ_le_succ l8
        · rw [List.length_append]
          exact Nat.succ_le_succ m8
    · rintro σ H8 ⟨v4, v5, v6, v9, rfl, X8, t8, a8, b8, c8, d8, l8, m8⟩
      rw [lny, List.take_length] at a8 b8
      walk_at "gg"
      refine g_mkT (by walk_at "ln") fun t9 H9 n9 S9 e9 => ?_
      exact kQ t9 p7 p8 H9 (ExtN.trans X8 (Same.smT S9)) (tabs_same t8 S9) e9 (S9 _ _ a8) (b8.same S9)
end
end Gk

set_option maxHeartbeats 1000000
/-! plain: the chosen spacers end all needless waits, and the waits at which they were chosen are separate -/
namespace Gk
open PySem L2 Gx
theorem great_some {ps : List Int} {a : Int} : ∀ (k : Nat) {b n : Int}, (b - a + 1).toNat ≤ k → greatI ps a b = some n → a ≤ n ∧ n ≤ b ∧ n ∉ ps ∧ ∀ m, n < m → m ≤ b → m ∈ ps
  | 0, b, n, hk, h => by
    rw [great_end (by omega)] at h
    cases h
  | k + 1, b, n, hk, h => by
    by_cases c : a ≤ b
    · rw [great_step c] at h
      by_cases m : b ∈ ps
      · rw [if_pos m] at h
        obtain ⟨h1, h2, h3, h4⟩ := great_some k (by omega) h
        refine ⟨h1, by omega, h3, fun x hx hb => ?_⟩
        by_cases e : x = b
        · rw [e]
          exact m
        · exact h4 x hx (by omega)
      · rw [if_neg m] at h
        obtain rfl := Option.some.inj h
        exact ⟨c, Int.le_refl _, m, fun x hx hb => by omega⟩
    · rw [great_end c] at h
      cases h
theorem great_of {ps : List Int} {a b n : Int} (h : greatI ps a b = some n) : a ≤ n ∧ n ≤ b ∧ n ∉ ps ∧ ∀ m, n < m → m ≤ b → m ∈ ps := great_some _ (Nat.le_refl _) h
theorem great_no {ps : List Int} {a : Int} : ∀ (k : Nat) {b : Int}, (b - a + 1).toNat ≤ k → greatI ps a b = none → ∀ m, a ≤ m → m ≤ b → m ∈ ps
  | 0, b, hk, h => fun m h1 h2 => by omega
  | k + 1, b, hk, h => fun m h1 h2 => by
    have c : a ≤ b := Int.le_trans h1 h2
    rw [great_step c] at h
    by_cases q : b ∈ ps
    · rw [if_pos q] at h
      by_cases e : m = b
      · rw [e]
        exact q
      · exact great_no k (by omega) h m h1 (by omega)
    · rw [if_neg q] at h
      cases h
theorem great_none {ps : List Int} {a b : Int} : greatI ps a b = none ↔ ∀ m, a ≤ m → m ≤ b → m ∈ ps := by
  constructor
  · exact great_no _ (Nat.le_refl _)
  · intro h
    cases e : greatI ps a b with
    | none => rfl
    | some n =>
      obtain ⟨h1, h2, h3, _⟩ := great_of e
      exact absurd (h n h1 h2) h3
def spanL (a b : Int) : List Int := (List.range (b - a + 1).toNat).map fun i => a + (i : Nat)
theorem span_mem {a b m : Int} : m ∈ spanL a b ↔ a ≤ m ∧ m ≤ b := by
  unfold spanL
  rw [List.mem_map]
  constructor
  · rintro ⟨i, hi, rfl⟩
    have := List.mem_range.mp hi
    omega
  · rintro ⟨h1, h2⟩
    exact ⟨(m - a).toNat, List.mem_range.mpr (by omega), by omega⟩
theorem span_nodup (a b : Int) : (spanL a b).Nodup := by
  unfold spanL
  exact List.pairwise_map.mpr (List.Pairwise.imp (fun h e => h (by omega)) List.nodup_range)
theorem span_len (a b : Int) : (spanL a b).length = (b - a + 1).toNat := by simp [spanL]
/-- an interval has a number that is not put exactly if there is a greatest one -/
theorem free_great {ps : List Int} {a b : Int} : freeI ps a b = (greatI ps a b).isSome := by
  unfold freeI
  cases e : greatI ps a b with
  | none =>
    have all := great_none.mp e
    have le : (spanL a b).length ≤ (dd (ps.filter fun x => decide (a ≤ x ∧ x ≤ b))).length := nodup_le (span_nodup a b) fun x hx => by
      have h := span_mem.mp hx
      exact dd_mem.mpr (List.mem_filter.mpr ⟨all x h.1 h.2, decide_eq_true h⟩)
    rw [span_len] at le
    rw [decide_eq_false (by omega)]
    rfl
  | some n =>
    obtain ⟨h1, h2, h3, _⟩ := great_of e
    have le : (n :: dd (ps.filter fun x => decide (a ≤ x ∧ x ≤ b))).length ≤ (spanL a b).length := nodup_le (List.nodup_cons.mpr ⟨fun z => h3 (List.mem_filter.mp (dd_mem.mp z)).1, dd_nodup _⟩) fun x hx => by
      rcases List.mem_cons.mp hx with rfl | hx
      · exact span_mem.mpr ⟨h1, h2⟩
      · exact span_mem.mpr (of_decide_eq_true (List.mem_filter.mp (dd_mem.mp hx)).2)
    rw [span_len, List.length_cons] at le
    rw [decide_eq_true (by omega)]
    rfl
/-! ### the rows' pairs ascend -/
theorem rowsOf_mem {ks : List Int} {rs : List Pr} {i : Nat} {p : Int} {r : Wr} (h : r ∈ rowsOf ks rs i p) : r.i = (i : Nat) := by
  unfold rowsOf at h
  obtain ⟨z, _, hz⟩ := List.mem_filterMap.mp h
  obtain ⟨q, _, rfl⟩ := Option.map_eq_some_iff.mp hz
  rfl
theorem rowsOf_up (ks : List Int) (rs : List Pr) (i : Nat) (p : Int) : ∀ k, k ≤ rs.length → (rowsOf ks (rs.take k) i p).Pairwise (fun a b => a.j < b.j) ∧ ∀ r ∈ rowsOf ks (rs.take k) i p, r.j < (k : Nat)
  | 0, _ => ⟨.nil, nofun⟩
  | k + 1, hk => by
    obtain ⟨h1, h2⟩ := rowsOf_up ks rs i p k (by omega)
    obtain ⟨r, hr⟩ : ∃ r, rs[k]? = some r := ⟨_, List.getElem?_eq_getElem (by omega)⟩
    rw [rows_next hr]
    cases e : wishI ks r.1 r.2 p with
    | none =>
      refine ⟨by simpa using h1, fun x hx => ?_⟩
      have := h2 x (by simpa using hx)
      omega
    | some q =>
      refine ⟨List.pairwise_append.mpr ⟨h1, List.pairwise_singleton _ _, fun x hx y hy => ?_⟩, fun x hx => ?_⟩
      · rw [List.mem_singleton.mp hy]
        exact h2 x hx
      · rcases List.mem_append.mp hx with hx | hx
        · have := h2 x hx
          omega
        · rw [List.mem_singleton.mp hx]
          show ((k : Nat) : Int) < ((k + 1 : Nat) : Int)
          omega
theorem wish_up (ks : List Int) (rs : List Pr) (ps : List Int) : ∀ k, k ≤ ps.length → (wishRows ks rs (ps.take k)).Pairwise (fun a b => Kd.lt (rowPr a) (rowPr b) = true) ∧ ∀ r ∈ wishRows ks rs (ps.take k), r.i < (k : Nat)
  | 0, _ => ⟨.nil, nofun⟩
  | k + 1, hk => by
    obtain ⟨h1, h2⟩ := wish_up ks rs ps k (by omega)
    obtain ⟨p, hp⟩ : ∃ p, ps[k]? = some p := ⟨_, List.getElem?_eq_getElem (by omega)⟩
    rw [wish_next hp]
    have up := (rowsOf_up ks rs k p rs.length (Nat.le_refl _)).1
    rw [List.take_length] at up
    refine ⟨List.pairwise_append.mpr ⟨h1, up.imp_of_mem fun {x y} hx hy l => decide_eq_true (.inr ⟨(rowsOf_mem hx).trans (rowsOf_mem hy).symm, l⟩), fun x hx y hy => decide_eq_true (.inl ?_)⟩, fun x hx => ?_⟩
    · have a := h2 x hx
      have b := rowsOf_mem hy
      show x.i < y.i
      omega
    · rcases List.mem_append.mp hx with hx | hx
      · have := h2 x hx
        omega
      · have := rowsOf_mem hx
        omega
theorem rows_up (ks : List Int) (rs : List Pr) (ps : List Int) : (wishRows ks rs ps).Pairwise (fun a b => Kd.lt (rowPr a) (rowPr b) = true) := by
  have z := (wish_up ks rs ps ps.length (Nat.le_refl _)).1
  rwa [List.take_length] at z
/-- rows with the same pair are the same -/
def RowsOk (rows : List Wr) : Prop := rows.Pairwise fun a b => Kd.lt (rowPr a) (rowPr b) = true
theorem rows_inj {rows : List Wr} (h : RowsOk rows) : ∀ {a b : Wr}, a ∈ rows → b ∈ rows → rowPr a = rowPr b → a = b := by
  induction h with
  | nil => exact fun ha => nomatch ha
  | @cons r rs hr _ ih =>
    intro a b ha hb e
    rcases List.mem_cons.mp ha with ea | ha2
    · rcases List.mem_cons.mp hb with eb | hb2
      · rw [ea, eb]
      · have l := hr b hb2
        rw [← ea, e, Kd.irr] at l
        cases l
    · rcases List.mem_cons.mp hb with eb | hb2
      · have l := hr a ha2
        rw [e, ← eb, Kd.irr] at l
        cases l
      · exact ih ha2 hb2 e
/-! ### the greedy choice -/
def gr (ps : List Int) (r : Wr) : Int := (greatI ps r.q.1 r.q.2).getD 0
structure Chose (ps : List Int) (done : List Wr) (st : List Int × List Pr) (sel : List Wr) : Prop where
  sub : sel.Sublist done
  pairs : st.2 = sel.map rowPr
  nums : st.1 = sel.map (gr ps)
  up : sel.Pairwise fun a b => gr ps a < b.q.1
  hit : ∀ r ∈ done, ∃ s ∈ st.1, r.q.1 ≤ s ∧ s ≤ r.q.2
theorem chose_fold {ps : List Int} : ∀ (L done : List Wr) (st : List Int × List Pr) (sel : List Wr), Chose ps done st sel → (∀ r ∈ done ++ L, ∃ n, greatI ps r.q.1 r.q.2 = some n) → (done ++ L).Pairwise (fun a b => a.q.2 ≤ b.q.2) →
    ∃ sel, Chose ps (done ++ L) (L.foldl (stepC ps) st) sel
  | [], done, st, sel, h, _, _ => ⟨sel, by rw [List.append_nil]; exact h⟩
  | r :: L, done, st, sel, h, ok, up => by
    rw [List.foldl_cons]
    have ap : done ++ r :: L = (done ++ [r]) ++ L := by simp
    have next : ∃ sel', Chose ps (done ++ [r]) (stepC ps st r) sel' := by
      obtain ⟨n, hn⟩ := ok r (by simp)
      obtain ⟨g1, g2, g3, g4⟩ := great_of hn
      unfold stepC
      by_cases c : st.1.any (fun s => decide (r.q.1 ≤ s ∧ s ≤ r.q.2)) = true
      · rw [if_pos c]
        refine ⟨sel, h.sub.trans (List.sublist_append_left _ _), h.pairs, h.nums, h.up, fun x hx => ?_⟩
        rcases List.mem_append.mp hx with hx | hx
        · exact h.hit x hx
        · rw [List.mem_singleton.mp hx]
          obtain ⟨s, hs, e⟩ := List.any_eq_true.mp c
          exact ⟨s, hs, of_decide_eq_true e⟩
      · rw [if_neg c]
        refine ⟨sel ++ [r], List.Sublist.append h.sub (List.Sublist.refl _), ?_, ?_, ?_, fun x hx => ?_⟩
        · show st.2 ++ [rowPr r] = _
          rw [h.pairs, List.map_append]
          rfl
        · show st.1 ++ [(greatI ps r.q.1 r.q.2).getD 0] = _
          rw [h.nums, List.map_append]
          rfl
        · refine List.pairwise_append.mpr ⟨h.up, List.pairwise_singleton _ _, fun x hx y hy => ?_⟩
          rw [List.mem_singleton.mp hy]
          have xd : x ∈ done := h.sub.subset hx
          obtain ⟨m, hm⟩ := ok x (List.mem_append_left _ xd)
          obtain ⟨m1, m2, _, _⟩ := great_of hm
          have le : x.q.2 ≤ r.q.2 := (List.pairwise_append.mp up).2.2 x xd r List.mem_cons_self
          have eg : gr ps x = m := by unfold gr; rw [hm]; rfl
          have nin : ¬ (r.q.1 ≤ m ∧ m ≤ r.q.2) := fun z => c (List.any_eq_true.mpr ⟨m, by rw [h.nums, ← eg]; exact List.mem_map.mpr ⟨x, hx, rfl⟩, decide_eq_true z⟩)
          omega
        · rcases List.mem_append.mp hx with hx | hx
          · obtain ⟨s, hs, e⟩ := h.hit x hx
            exact ⟨s, List.mem_append_left _ hs, e⟩
          · rw [List.mem_singleton.mp hx]
            refine ⟨n, List.mem_append_right _ ?_, g1, g2⟩
            rw [hn]
            exact List.mem_singleton.mpr rfl
    obtain ⟨sel', h'⟩ := next
    rw [ap] at ok up ⊢
    exact chose_fold L (done ++ [r]) _ sel' h' ok up
theorem srtW_mem {rows : List Wr} {r : Wr} : r ∈ srtW rows ↔ r ∈ rows := (List.mergeSort_perm rows _).mem_iff
theorem srtW_up (rows : List Wr) : (srtW rows).Pairwise fun a b => a.q.2 ≤ b.q.2 := by
  refine (List.pairwise_mergeSort (le := fun (a b : Wr) => decide (a.q.2 ≤ b.q.2)) (fun a b c h1 h2 => ?_) (fun a b => ?_) rows).imp fun h => of_decide_eq_true h
  · simp only [decide_eq_true_eq] at *
    omega
  · simp only [Bool.or_eq_true, decide_eq_true_eq]
    omega
theorem chosen_sel {ps : List Int} {rows : List Wr} (no : blockedR ps rows = none) : ∃ sel, Chose ps (srtW rows) (chosen ps rows) sel ∧ ∀ r ∈ rows, ∃ n, greatI ps r.q.1 r.q.2 = some n := by
  have ok : ∀ r ∈ rows, ∃ n, greatI ps r.q.1 r.q.2 = some n := fun r hr => by
    have z := List.find?_eq_none.mp no r hr
    cases e : greatI ps r.q.1 r.q.2 with
    | none => rw [e] at z; exact absurd rfl z
    | some n => exact ⟨n, rfl⟩
  obtain ⟨sel, h⟩ := chose_fold (srtW rows) [] ([], []) [] ⟨List.Sublist.refl _, rfl, rfl, .nil, nofun⟩ (fun r hr => ok r (srtW_mem.mp hr)) (srtW_up rows)
  exact ⟨sel, h, ok⟩
/-! ### what is chosen is judged well -/
theorem sel_up {ps : List Int} {sel : List Wr} (h : sel.Pairwise fun a b => gr ps a < b.q.1) (ok : ∀ r ∈ sel, ∃ n, greatI ps r.q.1 r.q.2 = some n) : (sel.map (gr ps)).Pairwise (· < ·) := by
  refine List.pairwise_map.mpr (h.imp_of_mem fun {x y} hx hy l => ?_)
  obtain ⟨n, hn⟩ := ok y hy
  have g := great_of hn
  have e : gr ps y = n := by unfold gr; rw [hn]; rfl
  omega
/-- two that were chosen share no number that may be taken -/
theorem sel_sep {ps : List Int} {a b : Wr} (ha : ∃ n, greatI ps a.q.1 a.q.2 = some n) (l : gr ps a < b.q.1) : ∀ m, max a.q.1 b.q.1 ≤ m → m ≤ min a.q.2 b.q.2 → m ∈ ps := fun m h1 h2 => by
  obtain ⟨n, hn⟩ := ha
  have g := great_of hn
  have e : gr ps a = n := by unfold gr; rw [hn]; rfl
  exact g.2.2.2 m (by omega) (by omega)
theorem sepI_of {ps : List Int} {p q : Pr} (h : ∀ m, max p.1 q.1 ≤ m → m ≤ min p.2 q.2 → m ∈ ps) : sepI ps p q = true ∧ apartI ps p q = true := by
  have g := great_none.mpr h
  constructor
  · unfold sepI
    rw [free_great, g]
    simp
  · unfold apartI
    rw [g]
    rfl
theorem sep_comm {ps : List Int} {p q : Pr} (h : ∀ m, max p.1 q.1 ≤ m → m ≤ min p.2 q.2 → m ∈ ps) : ∀ m, max q.1 p.1 ≤ m → m ≤ min q.2 p.2 → m ∈ ps := fun m h1 h2 => h m (by omega) (by omega)
/-- rows of which both pairs were chosen -/
theorem two_sep {ps : List Int} {rows : List Wr} {sel : List Wr} (ro : RowsOk rows) (no : ∀ r ∈ rows, ∃ n, greatI ps r.q.1 r.q.2 = some n) (h : Chose ps (srtW rows) (chosen ps rows) sel) {a b : Wr} (ha : a ∈ rows) (hb : b ∈ rows) (ne : a ≠ b) (ca : rowPr a ∈ (chosen ps rows).2) (cb : rowPr b ∈ (chosen ps rows).2) :
    ∀ m, max a.q.1 b.q.1 ≤ m → m ≤ min a.q.2 b.q.2 → m ∈ ps := by
  have mem : ∀ {x : Wr}, x ∈ rows → rowPr x ∈ (chosen ps rows).2 → x ∈ sel := fun {x} hx cx => by
    rw [h.pairs] at cx
    obtain ⟨y, hy, e⟩ := List.mem_map.mp cx
    have yr : y ∈ rows := srtW_mem.mp (h.sub.subset hy)
    rw [← rows_inj ro yr hx e]
    exact hy
  have sa := mem ha ca
  have sb := mem hb cb
  have up := h.up
  clear mem ca cb h
  induction up with
  | nil => cases sa
  | @cons r rs hr _ ih =>
    rcases List.mem_cons.mp sa with ea | sa2
    · rcases List.mem_cons.mp sb with eb | sb2
      · exact absurd (ea.trans eb.symm) ne
      · rw [ea]
        exact sel_sep (by rw [← ea]; exact no a ha) (hr b sb2)
    · rcases List.mem_cons.mp sb with eb | sb2
      · rw [eb]
        exact sep_comm (sel_sep (by rw [← eb]; exact no b hb) (hr a sa2))
      · exact ih sa2 sb2
section
variable {ps : List Int} {rows : List Wr} {ns : List Int} {ts : List Pr}
theorem pairwise_idx {α : Type} {l : List α} {z : α} {R : α → α → Bool} (h : l.Pairwise fun x y => R x y = true ∧ R y x = true) : ∀ i < l.length, ∀ o ∈ l.take i, R (l.getD i z) o = true := fun i hi o ho => by
  obtain ⟨j, hj⟩ := List.getElem?_of_mem ho
  have lj : j < (l.take i).length := (List.getElem?_eq_some_iff.mp hj).1
  rw [List.length_take] at lj
  have e1 : l[j]? = some o := by rw [← hj, List.getElem?_take_of_lt (by omega)]
  obtain ⟨hl, rfl⟩ := List.getElem?_eq_some_iff.mp e1
  rw [List.getD_eq_getElem?_getD, List.getElem?_eq_getElem hi]
  exact (List.pairwise_iff_getElem.mp h j i hl hi (by omega)).2
theorem good_hits (ro : RowsOk rows) (no : blockedR ps rows = none) (pm : ns.Perm (chosen ps rows).1) (up : ns.Pairwise (· ≤ ·)) : hitsL rows ps ns = true ∧ ns.length = (chosen ps rows).2.length := by
  obtain ⟨sel, h, ok⟩ := chosen_sel no
  have oks : ∀ r ∈ sel, ∃ n, greatI ps r.q.1 r.q.2 = some n := fun r hr => ok r (srtW_mem.mp (h.sub.subset hr))
  have su := sel_up h.up oks
  rw [← h.nums] at su
  have nd : ns.Nodup := pm.nodup_iff.mpr (su.imp fun l e => by omega)
  have us : Up ns := (List.Pairwise.and up nd).imp fun {x y} z => decide_eq_true (by have := z.1; have := z.2; omega)
  refine ⟨?_, by rw [pm.length_eq, h.nums, h.pairs, List.length_map, List.length_map]⟩
  unfold hitsL
  rw [zip_iff.mpr us, Bool.true_and, Bool.and_eq_true]
  constructor
  · have : (ns.any fun n => decide (n ∈ ps)) = false := List.any_eq_false.mpr fun n hn => by
      have hn := pm.mem_iff.mp hn
      rw [h.nums] at hn
      obtain ⟨r, hr, rfl⟩ := List.mem_map.mp hn
      obtain ⟨m, hm⟩ := oks r hr
      have e : gr ps r = m := by unfold gr; rw [hm]; rfl
      rw [e]
      simpa using (great_of hm).2.2.1
    rw [this]
    rfl
  · refine List.all_eq_true.mpr fun r hr => ?_
    obtain ⟨s, hs, e⟩ := h.hit r (srtW_mem.mpr hr)
    exact List.any_eq_true.mpr ⟨s, pm.mem_iff.mpr hs, decide_eq_true e⟩
theorem chosen_nodup (ro : RowsOk rows) (no : blockedR ps rows = none) : (chosen ps rows).2.Nodup ∧ ∀ p ∈ (chosen ps rows).2, ∃ r ∈ rows, rowPr r = p := by
  obtain ⟨sel, h, ok⟩ := chosen_sel no
  rw [h.pairs]
  have nd : (rows.map rowPr).Nodup := List.pairwise_map.mpr (ro.imp fun {x y} l e => by rw [e, Kd.irr] at l; cases l)
  have nd2 : ((srtW rows).map rowPr).Nodup := ((List.mergeSort_perm rows _).map rowPr).nodup_iff.mpr nd
  refine ⟨List.Nodup.sublist (h.sub.map rowPr) nd2, fun p hp => ?_⟩
  obtain ⟨r, hr, rfl⟩ := List.mem_map.mp hp
  exact ⟨r, srtW_mem.mp (h.sub.subset hr), rfl⟩
theorem good_apart (ro : RowsOk rows) (no : blockedR ps rows = none) (pm : ts.Perm (chosen ps rows).2) (up : Up ts) : apartW rows ps ts = true := by
  obtain ⟨sel, h, ok⟩ := chosen_sel no
  obtain ⟨nd, inr⟩ := chosen_nodup ro no
  unfold apartW
  rw [zip_iff.mpr up, Bool.true_and, Bool.and_eq_true]
  constructor
  · refine List.all_eq_true.mpr fun t ht => decide_eq_true ?_
    obtain ⟨r, hr, e⟩ := inr t (pm.mem_iff.mp ht)
    exact List.mem_map.mpr ⟨r, hr, e⟩
  · have pw : (ownW rows ts).Pairwise fun x y => sepI ps x y = true ∧ sepI ps y x = true := by
      unfold ownW
      refine List.pairwise_filterMap.mpr (List.Pairwise.imp_of_mem (fun {a b} ha hb l x hx y hy => ?_) ro)
      have ex : wpr a ∈ ts ∧ wiv a = x := by
        split at hx
        · rename_i z
          exact ⟨z, Option.some.inj hx⟩
        · cases hx
      have ey : wpr b ∈ ts ∧ wiv b = y := by
        split at hy
        · rename_i z
          exact ⟨z, Option.some.inj hy⟩
        · cases hy
      have ne : a ≠ b := fun z => by
        rw [z, Kd.irr] at l
        cases l
      have s := two_sep ro ok h ha hb ne (pm.mem_iff.mp ex.1) (pm.mem_iff.mp ey.1)
      rw [← ex.2, ← ey.2]
      exact ⟨(sepI_of s).1, (sepI_of (sep_comm s)).1⟩
    exact List.all_eq_true.mpr fun i hi => List.all_eq_true.mpr fun o ho => pairwise_idx (R := sepI ps) pw i (List.mem_range.mp hi) o ho
end
end Gk

/-! plain: what was chosen shows itself -/
namespace Gk
open PySem L2 Gx
theorem showS_hits (ks : List Int) (rs : List Pr) (ps ns : List Int) : showS ks rs ps (some (ns.map PyData.int)) = hitsL (wishRows ks rs ps) ps ns := by
  have h1 : (ns.map PyData.int).all isIntD = true := by
    rw [List.all_map]
    exact List.all_eq_true.mpr fun _ _ => rfl
  have h2 : (ns.map PyData.int).map intD = ns := by
    rw [List.map_map]
    exact List.map_id _
  unfold showS hitsL upI hitsS
  dsimp only
  rw [h1, h2]
  rfl
theorem wishAt_mem {rows : List Wr} (ro : RowsOk rows) {r : Wr} (hr : r ∈ rows) : wishAt rows (rowPr r) = some r.q := by
  unfold wishAt
  cases e : rows.reverse.find? fun x => decide ((x.i, x.j) = rowPr r) with
  | none =>
    have z := List.find?_eq_none.mp e r (List.mem_reverse.mpr hr)
    exact absurd (decide_eq_true (rfl : (r.i, r.j) = rowPr r)) z
  | some x =>
    have h1 := List.find?_some e
    have h2 := List.mem_reverse.mp (List.mem_of_find?_eq_some e)
    rw [rows_inj ro h2 hr (of_decide_eq_true h1)]
    rfl
theorem good_showT {ks : List Int} {rs : List Pr} {ps : List Int} {ts : List Pr} (no : blockedR ps (wishRows ks rs ps) = none) (pm : ts.Perm (chosen ps (wishRows ks rs ps)).2) (up : Up ts) : showT ks rs ps (some (ts.map Gx.prD)) = true := by
  have ro := rows_up ks rs ps
  unfold showT
  dsimp only
  generalize wishRows ks rs ps = rows at no pm ro ⊢
  have ro : RowsOk rows := ro
  obtain ⟨sel, h, ok⟩ := chosen_sel no
  obtain ⟨nd, inr⟩ := chosen_nodup ro no
  have sp : (ts.map Gx.prD).map spanD = ts := by
    rw [List.map_map]
    exact List.map_id _
  have row : ∀ t ∈ ts, ∃ r ∈ rows, rowPr r = t ∧ wishAt rows t = some r.q ∧ rowPr r ∈ (chosen ps rows).2 := fun t ht => by
    obtain ⟨r, hr, e⟩ := inr t (pm.mem_iff.mp ht)
    exact ⟨r, hr, e, by rw [← e]; exact wishAt_mem ro hr, by rw [e]; exact pm.mem_iff.mp ht⟩
  rw [Bool.and_eq_true, Bool.and_eq_true]
  refine ⟨?_, ?_, ?_⟩
  · rw [List.all_map]
    refine List.all_eq_true.mpr fun t ht => ?_
    obtain ⟨r, _, _, e, _⟩ := row t ht
    show (isPrD (Gx.prD t) && (wishAt rows (spanD (Gx.prD t))).isSome) = true
    rw [show spanD (Gx.prD t) = t from rfl, e]
    rfl
  · unfold upP
    rw [sp]
    exact zip_iff.mpr up
  · have pw : ((ts.map Gx.prD).map fun d => (wishAt rows (spanD d)).getD (0, 0)).Pairwise fun x y => apartI ps x y = true ∧ apartI ps y x = true := by
      rw [List.map_map]
      refine List.pairwise_map.mpr (List.Pairwise.imp_of_mem (fun {a b} ha hb l => ?_) up)
      obtain ⟨ra, ha1, ha2, ha3, ha4⟩ := row a ha
      obtain ⟨rb, hb1, hb2, hb3, hb4⟩ := row b hb
      have ne : ra ≠ rb := fun z => by
        rw [← ha2, ← hb2, z, Kd.irr] at l
        cases l
      have s := two_sep ro ok h ha1 hb1 ne ha4 hb4
      show apartI ps ((wishAt rows a).getD (0, 0)) ((wishAt rows b).getD (0, 0)) = true ∧ apartI ps ((wishAt rows b).getD (0, 0)) ((wishAt rows a).getD (0, 0)) = true
      rw [ha3, hb3]
      exact ⟨(sepI_of s).2, (sepI_of (sep_comm s)).2⟩
    generalize (ts.map Gx.prD).map (fun d => (wishAt rows (spanD d)).getD (0, 0)) = qs at pw ⊢
    unfold apartL
    refine List.all_eq_true.mpr fun b hb => ?_
    obtain ⟨i, hi, hb⟩ := List.mem_flatMap.mp hb
    obtain ⟨o, ho, rfl⟩ := List.mem_map.mp hb
    exact pairwise_idx (R := apartI ps) pw i (List.mem_range.mp hi) o ho
/-- the first row without a number that may be taken -/
theorem blocked_free {ps : List Int} {rows : List Wr} : blockedR ps rows = rows.find? fun r => !freeI ps r.q.1 r.q.2 := by
  unfold blockedR
  congr 1
  funext r
  rw [free_great]
  cases greatI ps r.q.1 r.q.2 <;> rfl
end Gk

/-! sorted of lists of points, any number of them -/
namespace Gx
open PySem L2 PySem.Spec PyProof.Rows
def rSortedPL (K : PySem.W.Frag) : List V → Hp → VK → Prop := fun vs H Q => ∃ (a : Addr) (ks : List (Addr × List Int)), vs = [V.ref a] ∧ SqL K H a (ks.map fun p => V.ref p.1) ∧ (∀ p ∈ ks, p.2.length = 2 ∧ SqT K H p.1 (p.2.map V.int)) ∧
  ∀ (L' : List (Addr × List Int)) (p : Addr), L'.Perm ks → L'.Pairwise (fun q r => ltPr (pr2 r.2) (pr2 q.2) = false) → H p = none → Q (.ref p) (upd H p (.lst (L'.map fun q => V.ref q.1)))
def rSortPts (K : PySem.W.Frag) : List V → Hp → VK → Prop := fun vs H Q => rSortedI K vs H Q ∨ rSortedPL K vs H Q
section
variable {X : Cx}
theorem cr_sortedPL : CallR X (.builtin "sorted") (rSortedPL X.K) := by
  intro pins s σ H vs us Q I r h
  obtain ⟨a, ks, rfl, hs, tu, q⟩ := h
  obtain ⟨its, rv, hl, hz⟩ := I.list hs
  rw [Vals.ref1 r]
  have eits := refs_of_vals rv
  have tups : TupsB X.prog X.w s.heap ks := fun p hp => I.isT (tu p hp).2
  subst eits
  refine SrtO.sorted_pairsO (k := keyR ks) hl.isList (by rw [List.length_map]; rw [List.length_map] at hz; exact hz) (fun v hv => ?_) fun h' d out h1 h2 kp hd hn => ?_
  · obtain ⟨p, hp, rfl⟩ := List.mem_map.mp hv
    rw [keyR_mem tups hp]
    exact pair_of (tu p hp).1 (tups p hp)
  · obtain ⟨L', pL, rfl⟩ := perm_map_back h2.perm rfl
    obtain ⟨n, hn⟩ := hn
    refine ⟨.ref d, upd H d (.lst (L'.map fun q => V.ref q.1)), I.laid (t' := s.toks) kp hd ⟨?_, L'.map fun p => Value.ref p.1, n, vals_of_refs L', hn⟩, rfl, q L' d pL ?_ (I.hok.fresh hd)⟩
    · rw [List.length_map, pL.length_eq]
      rw [List.length_map] at hz
      exact hz
    · have srt : (L'.map fun p => Value.ref p.1).Pairwise fun x y => SrtO.lexB (keyR ks y) (keyR ks x) = false := h1
      rw [List.pairwise_map] at srt
      refine srt.imp_of_mem fun {x y} hx hy le => ?_
      rw [keyR_mem tups (pL.mem_iff.mp hx), keyR_mem tups (pL.mem_iff.mp hy)] at le
      exact le
theorem cr_sortPts : CallR X (.builtin "sorted") (rSortPts X.K) := by
  intro pins s σ H xs us Q I rel h
  rcases h with h | h
  · exact cr_sortedI pins s σ H xs us Q I rel h
  · exact cr_sortedPL pins s σ H xs us Q I rel h
end
/-- points of which lists are sorted -/
class Sl (α : Type) extends Sk α where
  srtL : ∀ {K : PySem.W.Frag} {H : Hp} {a : Addr} {as : List α} {Q : VK}, PtsL K H a as → as.Nodup → (∀ (bs : List α) p H', Up bs → bs.Perm as → H p = none → Same H H' → PtsL K H' p bs → Q (.ref p) H') → rSortPts K [.ref a] H Q
instance : Sl Int where
  srtL := fun {K H a as Q} h nd k => by
    refine .inl ⟨a, as, rfl, SqL.of (ptsI_of h), fun ns p pm le n => k ns p _ ?_ pm n (same_new n) (ptsI upd_same)⟩
    refine (List.Pairwise.and le (pm.nodup_iff.mpr nd)).imp fun {x y} ⟨l, ne⟩ => decide_eq_true ?_
    omega
instance : Sl Pr where
  srtL := fun {K H a as Q} h nd k => by
    obtain ⟨xs, e, d⟩ := h
    obtain ⟨ks, rfl, tu, ek⟩ := pairs_keys d
    refine .inr ⟨a, ks, rfl, SqL.of e, tu, fun L' p perm up hp => ?_⟩
    have tu' : ∀ q ∈ L', q.2.length = 2 ∧ SqT K (upd H p (.lst (L'.map fun q => V.ref q.1))) q.1 (q.2.map V.int) := fun q hq => by
      obtain ⟨l2, t⟩ := tu q (perm.mem_iff.mp hq)
      exact ⟨l2, same_sqT (same_new hp) t⟩
    have pm : (L'.map fun q => pr2 q.2).Perm as := by
      rw [← ek]
      exact perm.map _
    refine k (L'.map fun q => pr2 q.2) p _ ?_ pm hp (same_new hp) ⟨_, upd_same, keys_pairs tu'⟩
    have nd' : (L'.map fun q => pr2 q.2).Nodup := pm.nodup_iff.mpr nd
    have up' : (L'.map fun q => pr2 q.2).Pairwise fun x y => ltPr y x = false := List.pairwise_map.mpr up
    refine (List.Pairwise.and up' nd').imp fun {x y} ⟨l, ne⟩ => ?_
    rcases Kd.tri x y ne with z | z
    · exact z
    · exact absurd z (by rw [show Kd.lt y x = ltPr y x from (ltPr_eq y x).symm, l]; exact Bool.false_ne_true)
end Gx

set_option maxHeartbeats 4000000
/-! module gapreach.spacers: fewest_spacers and separate where the arguments are good -/
namespace Gk
open PySem L2 Gx LamX
open C8 (Cal Met Mak pe_c pe_mt pe_mt0 pe_mk pe_gc)
local macro_rules | `(tactic| walk_at "g") => `(tactic| (first
  | with_reducible refine g_seq ?_ | with_reducible refine g_asg ?_ | ((with_reducible show tVar _ _ _ _); refine g_var rfl ?_) | with_reducible refine g_c ?_ | with_reducible refine g_name ?_ | with_reducible refine g_op ?_ | with_reducible refine g_I0 ?_
  | with_reducible refine g_cons ?_ | with_reducible refine g_nil ?_ | with_reducible refine g_exbl ?_ | with_reducible refine g_exint ?_ | with_reducible refine g_test ?_ | with_reducible refine g_B ?_ | with_reducible refine g_ifS ?_ | with_reducible refine g_ret ?_ | with_reducible refine g_retN ?_ | with_reducible refine g_next ?_
  | with_reducible refine g_CB ?_ | with_reducible refine g_sub ?_ | with_reducible refine g_drop ?_ | with_reducible refine g_not ?_ | with_reducible refine g_and ?_ | with_reducible refine g_or ?_ | with_reducible refine g_andV ?_ | with_reducible refine g_orV ?_ | with_reducible refine g_notV ?_ | with_reducible refine g_ifE ?_ | with_reducible refine g_isN ?_
  | with_reducible refine g_par ?_ | with_reducible refine g_expar ?_ | with_reducible refine g_chain ?_ | with_reducible refine g_un ?_ | with_reducible refine g_U ?_ | with_reducible refine g_bits ?_ | ((with_reducible show rEq _ _ _ _); refine g_eq rfl ?_) | ((with_reducible show rNe _ _ _ _); refine g_ne rfl ?_)
  | with_reducible refine g_for ?_ | with_reducible refine g_iRng1 ?_ | with_reducible refine g_iRng2 ?_ | with_reducible refine g_iList ?_ | with_reducible refine g_iTup ?_
  | ((with_reducible refine g_Imul ?hc ?_); (case hc => (first | (refine Or.inl ⟨?_, ?_⟩ <;> first | decide | omega) | (refine Or.inr ⟨?_, ?_⟩ <;> first | decide | omega))))
  | ((with_reducible refine g_Idiv ?hc ?_); (case hc => (first | (exact ⟨by decide, by decide⟩) | assumption)))
  | ((with_reducible refine g_Imod ?hc ?_); (case hc => (first | assumption | omega | decide)))
  | ((with_reducible refine g_exR1 ?hlo ?hhi ?_); (case hlo => omega); (case hhi => omega))
  | ((with_reducible refine g_exR2 ?hb ?_); (case hb => omega))
  | with_reducible refine g_lst ?_ | with_reducible refine g_tup ?_ | with_reducible refine g_call ?_ | with_reducible refine g_BM ?_ | with_reducible refine g_BM0 ?_
  | with_reducible refine g_intB ?_ | with_reducible refine g_lc ?_ | with_reducible refine g_yes ?_ | with_reducible refine g_iZip ?_ | with_reducible refine g_sl ?_ | with_reducible refine g_noP ?_ | with_reducible refine g_part ?_ | with_reducible refine g_gcons ?_ | with_reducible refine g_gnil ?_
  | with_reducible refine g_tfld ?_ | with_reducible refine g_tmeth ?_ | with_reducible refine g_tmake ?_ | with_reducible refine g_sfld ?_ | with_reducible refine g_tprop ?_ | with_reducible refine g_tstar ?_ | with_reducible refine g_tmethK ?_ | with_reducible refine g_isN1 ?_ | with_reducible refine g_notN1 ?_ | with_reducible refine g_callK0 ?_ | with_reducible refine g_m1 ?_ | with_reducible refine g_isstr ?_ | with_reducible refine g_iStr ?_ | with_reducible refine g_exS ?_ | with_reducible refine g_iEnum ?_))
local macro_rules | `(tactic| walk_at "gs1") => `(tactic| (first
  | with_reducible refine g_seq ?_ | with_reducible refine g_asg ?_ | ((with_reducible show tVar _ _ _ _); refine g_var rfl ?_) | with_reducible refine g_c ?_ | with_reducible refine g_name ?_ | with_reducible refine g_op ?_ | with_reducible refine g_I0 ?_
  | with_reducible refine g_cons ?_ | with_reducible refine g_nil ?_ | with_reducible refine g_exbl ?_ | with_reducible refine g_exint ?_ | with_reducible refine g_test ?_ | with_reducible refine g_B ?_ | with_reducible refine g_ifS ?_ | with_reducible refine g_retN ?_ | with_reducible refine g_next ?_
  | with_reducible refine g_CB ?_ | with_reducible refine g_sub ?_ | with_reducible refine g_drop ?_ | with_reducible refine g_not ?_ | with_reducible refine g_and ?_ | with_reducible refine g_or ?_ | with_reducible refine g_andV ?_ | with_reducible refine g_orV ?_ | with_reducible refine g_notV ?_ | with_reducible refine g_ifE ?_ | with_reducible refine g_isN ?_
  | with_reducible refine g_par ?_ | with_reducible refine g_expar ?_ | with_reducible refine g_chain ?_ | with_reducible refine g_un ?_ | with_reducible refine g_U ?_ | with_reducible refine g_bits ?_ | ((with_reducible show rEq _ _ _ _); refine g_eq rfl ?_) | ((with_reducible show rNe _ _ _ _); refine g_ne rfl ?_)
  | with_reducible refine g_for ?_ | with_reducible refine g_iRng1 ?_ | with_reducible refine g_iRng2 ?_ | with_reducible refine g_iList ?_ | with_reducible refine g_iTup ?_
  | ((with_reducible refine g_Imul ?hc ?_); (case hc => (first | (refine Or.inl ⟨?_, ?_⟩ <;> first | decide | omega) | (refine Or.inr ⟨?_, ?_⟩ <;> first | decide | omega))))
  | ((with_reducible refine g_Idiv ?hc ?_); (case hc => (first | (exact ⟨by decide, by decide⟩) | assumption)))
  | ((with_reducible refine g_Imod ?hc ?_); (case hc => (first | assumption | omega | decide)))
  | ((with_reducible refine g_exR1 ?hlo ?hhi ?_); (case hlo => omega); (case hhi => omega))
  | ((with_reducible refine g_exR2 ?hb ?_); (case hb => omega))
  | with_reducible refine g_lst ?_ | with_reducible refine g_tup ?_ | with_reducible refine g_call ?_ | with_reducible refine g_BM ?_ | with_reducible refine g_BM0 ?_
  | with_reducible refine g_intB ?_ | with_reducible refine g_lc ?_ | with_reducible refine g_yes ?_ | with_reducible refine g_iZip ?_ | with_reducible refine g_sl ?_ | with_reducible refine g_noP ?_ | with_reducible refine g_part ?_ | with_reducible refine g_gcons ?_ | with_reducible refine g_gnil ?_
  | with_reducible refine g_tfld ?_ | with_reducible refine g_tmeth ?_ | with_reducible refine g_tmake ?_ | with_reducible refine g_sfld ?_ | with_reducible refine g_tprop ?_ | with_reducible refine g_tstar ?_ | with_reducible refine g_tmethK ?_ | with_reducible refine g_isN1 ?_ | with_reducible refine g_notN1 ?_ | with_reducible refine g_callK0 ?_ | with_reducible refine g_m1 ?_ | with_reducible refine g_isstr ?_ | with_reducible refine g_iStr ?_ | with_reducible refine g_exS ?_ | with_reducible refine g_iEnum ?_))
local macro_rules | `(tactic| walk_at "gx1") => `(tactic| (first
  | with_reducible refine g_seq ?_ | with_reducible refine g_asg ?_ | ((with_reducible show tVar _ _ _ _); refine g_var rfl ?_) | with_reducible refine g_c ?_ | with_reducible refine g_name ?_ | with_reducible refine g_op ?_ | with_reducible refine g_I0 ?_
  | with_reducible refine g_cons ?_ | with_reducible refine g_nil ?_ | with_reducible refine g_exbl ?_ | with_reducible refine g_exint ?_ | with_reducible refine g_test ?_ | with_reducible refine g_B ?_ | with_reducible refine g_ifS ?_ | with_reducible refine g_retN ?_ | with_reducible refine g_next ?_
  | with_reducible refine g_CB ?_ | with_reducible refine g_sub ?_ | with_reducible refine g_drop ?_ | with_reducible refine g_not ?_ | with_reducible refine g_and ?_ | with_reducible refine g_or ?_ | with_reducible refine g_andV ?_ | with_reducible refine g_orV ?_ | with_reducible refine g_notV ?_ | with_reducible refine g_ret ?_ | with_reducible refine g_isN ?_
  | with_reducible refine g_par ?_ | with_reducible refine g_expar ?_ | with_reducible refine g_chain ?_ | with_reducible refine g_un ?_ | with_reducible refine g_U ?_ | with_reducible refine g_bits ?_ | ((with_reducible show rEq _ _ _ _); refine g_eq rfl ?_) | ((with_reducible show rNe _ _ _ _); refine g_ne rfl ?_)
  | with_reducible refine g_for ?_ | with_reducible refine g_iRng1 ?_ | with_reducible refine g_iRng2 ?_ | with_reducible refine g_iList ?_ | with_reducible refine g_iTup ?_
  | ((with_reducible refine g_Imul ?hc ?_); (case hc => (first | (refine Or.inl ⟨?_, ?_⟩ <;> first | decide | omega) | (refine Or.inr ⟨?_, ?_⟩ <;> first | decide | omega))))
  | ((with_reducible refine g_Idiv ?hc ?_); (case hc => (first | (exact ⟨by decide, by decide⟩) | assumption)))
  | ((with_reducible refine g_Imod ?hc ?_); (case hc => (first | assumption | omega | decide)))
  | ((with_reducible refine g_exR1 ?hlo ?hhi ?_); (case hlo => omega); (case hhi => omega))
  | ((with_reducible refine g_exR2 ?hb ?_); (case hb => omega))
  | with_reducible refine g_lst ?_ | with_reducible refine g_tup ?_ | with_reducible refine g_call ?_ | with_reducible refine g_BM ?_ | with_reducible refine g_BM0 ?_
  | with_reducible refine g_intB ?_ | with_reducible refine g_lc ?_ | with_reducible refine g_yes ?_ | with_reducible refine g_iZip ?_ | with_reducible refine g_sl ?_ | with_reducible refine g_noP ?_ | with_reducible refine g_part ?_ | with_reducible refine g_gcons ?_ | with_reducible refine g_gnil ?_
  | with_reducible refine g_tfld ?_ | with_reducible refine g_tmeth ?_ | with_reducible refine g_tmake ?_ | with_reducible refine g_sfld ?_ | with_reducible refine g_tprop ?_ | with_reducible refine g_tstar ?_ | with_reducible refine g_tmethK ?_ | with_reducible refine g_isN1 ?_ | with_reducible refine g_notN1 ?_ | with_reducible refine g_callK0 ?_ | with_reducible refine g_m1 ?_ | with_reducible refine g_isstr ?_ | with_reducible refine g_iStr ?_ | with_reducible refine g_exS ?_ | with_reducible refine g_iEnum ?_))
local macro_rules | `(tactic| walk_at "hp") => `(tactic| (first | assumption | exact upd_same | (refine same_get (by assumption) ?_; walk_at "hp")))
local macro_rules | `(tactic| walk_at "sm") => `(tactic| (first | assumption | exact Same.refl _ | (refine Same.trans ?ha (by assumption); walk_at "sm")))
local macro_rules | `(tactic| walk_at "nn") => `(tactic| (first | assumption | (refine same_free (by assumption) ?_; walk_at "nn")))
local macro_rules | `(tactic| walk_at "sb") => `(tactic| (first | decide | (refine small_bits ?_ ?_ <;> omega)))
local macro_rules | `(tactic| walk_at "ln") => `(tactic| (simp only [List.length_cons, List.length_nil]; omega))
local macro_rules | `(tactic| walk_at "gg") => `(tactic| (repeat walk_at "g"))
local macro_rules | `(tactic| walk_at "gs") => `(tactic| (repeat walk_at "gs1"))
local macro_rules | `(tactic| walk_at "gx") => `(tactic| (repeat walk_at "gx1"))

local macro_rules | `(tactic| walk_at "g") => `(tactic| (first | with_reducible refine g_tpropF ?_ | with_reducible refine g_tmethF ?_ | with_reducible refine g_tmethKF ?_ | with_reducible refine g_keysI ?_ | with_reducible refine g_valsI ?_ | with_reducible refine g_itemsI ?_ | with_reducible refine g_dget ?_ | with_reducible refine g_tstarD ?_))

local macro_rules | `(tactic| walk_at "g") => `(tactic| (first | with_reducible refine g_cX ?_ | with_reducible refine g_cKX ?_))
section
variable {P : Program} {w : World} {K : PySem.W.Frag} {mg : Str → Option Value} {base : Heap} {X : Cx} {H H' : Hp}
theorem thI {a : Addr} {ns : List Int} (e : H a = some (.lst (ns.map V.int))) (l : ns.length ≤ 1000) : Th K H (.ref a) (some (ns.map PyData.int)) := .lst e (dpAll_ints ns) (by rw [List.length_map]; exact l)
theorem thP {a : Addr} {ts : List Pr} (h : PtsL K H a ts) (l : ts.length ≤ 1000) : Th K H (.ref a) (some (ts.map Gx.prD)) := by
  obtain ⟨xs, e, d⟩ := h
  exact .lst e d (by rw [List.length_map]; exact l)
/-- good keys, ranges and puts -/
def chkL (ks : List Int) (rs : List Pr) (ps : List Int) : Prop := chk (some (ks.map PyData.int)) (some (rs.map Gx.prD)) (some (ps.map PyData.int)) = 0 ∧ ks.length ≤ 200 ∧ rs.length ≤ 30 ∧ ps.length ≤ 30
def spFewestG (K : PySem.W.Frag) (CI : Addr) (TT : List (Addr × Str)) : Sp := fun vs H Q E => ∃ (a b c : Addr) (ks : List Int) (rs : List Pr) (ps : List Int), vs = [.ref a, .ref b, .ref c] ∧ H a = some (.lst (ks.map V.int)) ∧ PtsL K H b rs ∧ H c = some (.lst (ps.map V.int)) ∧ chkL ks rs ps ∧ Tabs TT H ∧
  (∀ r, blockedR ps (wishRows ks rs ps) = some r → ∀ (d : Addr) (H' : Hp), Same H H' → H d = none → H' d = some (.xd [("index", .int r.i)]) → E (.ref CI) (some d) H') ∧
  (blockedR ps (wishRows ks rs ps) = none → ∀ (l : Addr) (ns : List Int) (H' : Hp), (∀ xs, H l ≠ some (.lst xs)) → SmT H H' → Tabs TT H' → H' l = some (.lst (ns.map V.int)) → ns.Perm (chosen ps (wishRows ks rs ps)).1 → ns.Pairwise (· ≤ ·) → Q (.ref l) H')
def spSeparateG (K : PySem.W.Frag) (CI : Addr) (TT : List (Addr × Str)) : Sp := fun vs H Q E => ∃ (a b c : Addr) (ks : List Int) (rs : List Pr) (ps : List Int), vs = [.ref a, .ref b, .ref c] ∧ H a = some (.lst (ks.map V.int)) ∧ PtsL K H b rs ∧ H c = some (.lst (ps.map V.int)) ∧ chkL ks rs ps ∧ Tabs TT H ∧
  (∀ r, blockedR ps (wishRows ks rs ps) = some r → ∀ (d : Addr) (H' : Hp), Same H H' → H d = none → H' d = some (.xd [("index", .int r.i)]) → E (.ref CI) (some d) H') ∧
  (blockedR ps (wishRows ks rs ps) = none → ∀ (l : Addr) (ts : List Pr) (H' : Hp), (∀ xs, H l ≠ some (.lst xs)) → SmT H H' → Tabs TT H' → PtsL K H' l ts → ts.Perm (chosen ps (wishRows ks rs ps)).2 → Up ts → Q (.ref l) H')
theorem ok_fewestG {f CE CR CI : Addr} {fd : FuncData} {TT : List (Addr × Str)} (D : Dn K mg "fewest_spacers" s_fewest_spacers ["keys", "ranges", "puts"] f fd) (T : Bt mg) (c_check_all : CalXN P w K mg base 3 "check_all" (spCheck K CE CR)) (c_chosen_rows : CalX P w K mg base 3 "chosen_rows" (spChosen K CI TT)) :
    FnOk P w K mg base (L2.CX P w) 4 f fd ["keys", "ranges", "puts"] (spFewestG K CI TT) := by
  refine D.fn.okX sc_fewest_spacers (fun vs H Q E h => ?_) (fun cdv A outer s H vs Q E hr h => ?_)
  · obtain ⟨a, b, c, ks, rs, ps, rfl, _⟩ := h
    rfl
  · obtain ⟨a, b, c, ks, rs, ps, rfl, ha, hb, hps, ⟨c0, lk, lr, lp⟩, hT, kE, kQ⟩ := h
    refine ⟨_, (pss_cons (ps_expr (pe_cXN (E := fun _ _ _ _ => False) c_check_all hr (by decide) (by rfl) passNN (pa_cons (pv 0) (pa_cons (pv 1) (pa_cons (pv 2) pa_nil)))))
    (pss_one (ps_ret (pe_callB cr_sortPts (by rfl) T.n_sorted bt_sorted (pa_cons (pe_ix ix_tup (pe_cX (E := WE (fun cls d _ H => E cls d H)) c_chosen_rows hr (by decide) (by rfl) (fun σ => passAt (takes_of rfl rfl rfl rfl) σ) (pa_cons (pv 0) (pa_cons (pv 1) (pa_cons (pv 2) pa_nil)))) pe_int (fun _ _ => rfl)) pa_nil))))), ?_⟩
    walk_at "gg"
    refine ⟨_, _, _, _, _, _, rfl, thI ha (by omega), thP hb (by omega), thI hps (by omega), fun _ H1 S1 => ?_, fun z => by omega, fun z => by omega⟩
    walk_at "gg"
    refine ⟨a, b, c, ks, rs, ps, rfl, S1 _ _ ha, hb.same S1, S1 _ _ hps, by omega, lr, lp, tabs_same hT S1, fun r hr0 d H2 S2 nd e2 => ?_, fun no t p q H2 X2 T2 et ep eq => ?_⟩
    · exact kE r hr0 d H2 (S1.trans S2) (same_free S1 nd) e2
    · have X02 : SmT H H2 := ExtN.trans (Same.smT S1) X2
      walk_at "gg"
      refine g_ix2 (SqT.of et) rfl ?_
      walk_at "gg"
      refine .inl ⟨p, _, rfl, SqL.of ep, fun ns l pm up n3 => ?_⟩
      exact kQ no l ns _ (fun xs e => by have z := X02.lst e; rw [n3] at z; cases z) (ExtN.trans X02 (Same.smT (same_new n3))) (tabs_same T2 (same_new n3)) upd_same pm up
theorem ok_separateG {f CE CR CI : Addr} {fd : FuncData} {TT : List (Addr × Str)} (D : Dn K mg "separate" s_separate ["keys", "ranges", "puts"] f fd) (T : Bt mg) (c_check_all : CalXN P w K mg base 3 "check_all" (spCheck K CE CR)) (c_chosen_rows : CalX P w K mg base 3 "chosen_rows" (spChosen K CI TT)) :
    FnOk P w K mg base (L2.CX P w) 4 f fd ["keys", "ranges", "puts"] (spSeparateG K CI TT) := by
  refine D.fn.okX sc_separate (fun vs H Q E h => ?_) (fun cdv A outer s H vs Q E hr h => ?_)
  · obtain ⟨a, b, c, ks, rs, ps, rfl, _⟩ := h
    rfl
  · obtain ⟨a, b, c, ks, rs, ps, rfl, ha, hb, hps, ⟨c0, lk, lr, lp⟩, hT, kE, kQ⟩ := h
    refine ⟨_, (pss_cons (ps_expr (pe_cXN (E := fun _ _ _ _ => False) c_check_all hr (by decide) (by rfl) passNN (pa_cons (pv 0) (pa_cons (pv 1) (pa_cons (pv 2) pa_nil)))))
    (pss_one (ps_ret (pe_callB cr_sortPts (by rfl) T.n_sorted bt_sorted (pa_cons (pe_ix ix_tup (pe_cX (E := WE (fun cls d _ H => E cls d H)) c_chosen_rows hr (by decide) (by rfl) (fun σ => passAt (takes_of rfl rfl rfl rfl) σ) (pa_cons (pv 0) (pa_cons (pv 1) (pa_cons (pv 2) pa_nil)))) pe_int (fun _ _ => rfl)) pa_nil))))), ?_⟩
    walk_at "gg"
    refine ⟨_, _, _, _, _, _, rfl, thI ha (by omega), thP hb (by omega), thI hps (by omega), fun _ H1 S1 => ?_, fun z => by omega, fun z => by omega⟩
    walk_at "gg"
    refine ⟨a, b, c, ks, rs, ps, rfl, S1 _ _ ha, hb.same S1, S1 _ _ hps, by omega, lr, lp, tabs_same hT S1, fun r hr0 d H2 S2 nd e2 => ?_, fun no t p q H2 X2 T2 et ep eq => ?_⟩
    · exact kE r hr0 d H2 (S1.trans S2) (same_free S1 nd) e2
    · have X02 : SmT H H2 := ExtN.trans (Same.smT S1) X2
      walk_at "gg"
      refine g_ix2 (SqT.of et) rfl ?_
      walk_at "gg"
      refine Sl.srtL (α := Pr) eq (chosen_nodup (rows_up ks rs ps) no).1 fun bs l H3 up pm n3 S3 e3 => ?_
      exact kQ no l bs H3 (fun xs e => by have z := X02.lst e; rw [n3] at z; cases z) (ExtN.trans X02 (Same.smT S3)) (tabs_same T2 S3) e3 pm up
end
end Gk

set_option maxHeartbeats 1000000
/-! calls by three keywords, in any sequence -/
namespace Gx
open PySem L2 PySem.Spec PyProof.Rows
theorem kbinds_p3 {K : PySem.W.Frag} {fd : FuncData} {ps : List Str} {k1 k2 k3 : Str} {ix : List Nat} (n0 : ps.length ≠ 0) (h : ∀ a b c : Value, bindArgs fd ⟨[], [(k1, a), (k2, b), (k3, c)]⟩ = pure (ps.zip (ix.map fun i => [a, b, c].getD i .none))) : KBinds K fd ps [k1, k2, k3] (permU 3 ix) (permV 3 ix) := by
  refine ⟨fun st us ws _ hl => ?_, perm_rel 3 ix⟩
  match us, ws, hl with
  | [], [a, b, c], _ => exact .of_eq (h a b c)
  | [], [], hl => exact absurd hl.symm n0
  | [], [_], hl => exact absurd hl.symm n0
  | [], [_, _], hl => exact absurd hl.symm n0
  | [], a :: b :: c :: d :: r, hl =>
    have : permU 3 ix [] (a :: b :: c :: d :: r) = [] := permU_ne _ _ _ (by simp only [List.length_cons]; omega)
    rw [this] at hl
    exact absurd hl.symm n0
  | _ :: _, _, hl => exact absurd hl.symm n0
end Gx

set_option maxHeartbeats 4000000
/-! law k47: _law_told -/
namespace Gk
open PySem L2 Gx
open LamX hiding takes0
open C8 (Cal Met Mak pe_c pe_mt pe_mt0 pe_mk pe_gc)
local macro_rules | `(tactic| walk_at "g") => `(tactic| (first
  | with_reducible refine g_seq ?_ | with_reducible refine g_asg ?_ | ((with_reducible show tVar _ _ _ _); refine g_var rfl ?_) | with_reducible refine g_c ?_ | with_reducible refine g_name ?_ | with_reducible refine g_op ?_ | with_reducible refine g_I0 ?_
  | with_reducible refine g_cons ?_ | with_reducible refine g_nil ?_ | with_reducible refine g_exbl ?_ | with_reducible refine g_exint ?_ | with_reducible refine g_test ?_ | with_reducible refine g_B ?_ | with_reducible refine g_ifS ?_ | with_reducible refine g_ret ?_ | with_reducible refine g_retN ?_ | with_reducible refine g_next ?_
  | with_reducible refine g_CB ?_ | with_reducible refine g_sub ?_ | with_reducible refine g_drop ?_ | with_reducible refine g_not ?_ | with_reducible refine g_and ?_ | with_reducible refine g_or ?_ | with_reducible refine g_andV ?_ | with_reducible refine g_orV ?_ | with_reducible refine g_notV ?_ | with_reducible refine g_ifE ?_ | with_reducible refine g_isN ?_
  | with_reducible refine g_par ?_ | with_reducible refine g_expar ?_ | with_reducible refine g_chain ?_ | with_reducible refine g_un ?_ | with_reducible refine g_U ?_ | with_reducible refine g_bits ?_ | ((with_reducible show rEq _ _ _ _); refine g_eq rfl ?_) | ((with_reducible show rNe _ _ _ _); refine g_ne rfl ?_)
  | with_reducible refine g_for ?_ | with_reducible refine g_iRng1 ?_ | with_reducible refine g_iRng2 ?_ | with_reducible refine g_iList ?_ | with_reducible refine g_iTup ?_
  | ((with_reducible refine g_Imul ?hc ?_); (case hc => (first | (refine Or.inl ⟨?_, ?_⟩ <;> first | decide | omega) | (refine Or.inr ⟨?_, ?_⟩ <;> first | decide | omega))))
  | ((with_reducible refine g_Idiv ?hc ?_); (case hc => (first | (exact ⟨by decide, by decide⟩) | assumption)))
  | ((with_reducible refine g_Imod ?hc ?_); (case hc => (first | assumption | omega | decide)))
  | ((with_reducible refine g_exR1 ?hlo ?hhi ?_); (case hlo => omega); (case hhi => omega))
  | ((with_reducible refine g_exR2 ?hb ?_); (case hb => omega))
  | with_reducible refine g_lst ?_ | with_reducible refine g_tup ?_ | with_reducible refine g_call ?_ | with_reducible refine g_BM ?_ | with_reducible refine g_BM0 ?_
  | with_reducible refine g_intB ?_ | with_reducible refine g_lc ?_ | with_reducible refine g_yes ?_ | with_reducible refine g_iZip ?_ | with_reducible refine g_sl ?_ | with_reducible refine g_noP ?_ | with_reducible refine g_part ?_ | with_reducible refine g_gcons ?_ | with_reducible refine g_gnil ?_
  | with_reducible refine g_tfld ?_ | with_reducible refine g_tmeth ?_ | with_reducible refine g_tmake ?_ | with_reducible refine g_sfld ?_ | with_reducible refine g_tprop ?_ | with_reducible refine g_tstar ?_ | with_reducible refine g_tmethK ?_ | with_reducible refine g_isN1 ?_ | with_reducible refine g_notN1 ?_ | with_reducible refine g_callK0 ?_ | with_reducible refine g_m1 ?_ | with_reducible refine g_isstr ?_ | with_reducible refine g_iStr ?_ | with_reducible refine g_exS ?_ | with_reducible refine g_iEnum ?_))
local macro_rules | `(tactic| walk_at "gs1") => `(tactic| (first
  | with_reducible refine g_seq ?_ | with_reducible refine g_asg ?_ | ((with_reducible show tVar _ _ _ _); refine g_var rfl ?_) | with_reducible refine g_c ?_ | with_reducible refine g_name ?_ | with_reducible refine g_op ?_ | with_reducible refine g_I0 ?_
  | with_reducible refine g_cons ?_ | with_reducible refine g_nil ?_ | with_reducible refine g_exbl ?_ | with_reducible refine g_exint ?_ | with_reducible refine g_test ?_ | with_reducible refine g_B ?_ | with_reducible refine g_ifS ?_ | with_reducible refine g_retN ?_ | with_reducible refine g_next ?_
  | with_reducible refine g_CB ?_ | with_reducible refine g_sub ?_ | with_reducible refine g_drop ?_ | with_reducible refine g_not ?_ | with_reducible refine g_and ?_ | with_reducible refine g_or ?_ | with_reducible refine g_andV ?_ | with_reducible refine g_orV ?_ | with_reducible refine g_notV ?_ | with_reducible refine g_ifE ?_ | with_reducible refine g_isN ?_
  | with_reducible refine g_par ?_ | with_reducible refine g_expar ?_ | with_reducible refine g_chain ?_ | with_reducible refine g_un ?_ | with_reducible refine g_U ?_ | with_reducible refine g_bits ?_ | ((with_reducible show rEq _ _ _ _); refine g_eq rfl ?_) | ((with_reducible show rNe _ _ _ _); refine g_ne rfl ?_)
  | with_reducible refine g_for ?_ | with_reducible refine g_iRng1 ?_ | with_reducible refine g_iRng2 ?_ | with_reducible refine g_iList ?_ | with_reducible refine g_iTup ?_
  | ((with_reducible refine g_Imul ?hc ?_); (case hc => (first | (refine Or.inl ⟨?_, ?_⟩ <;> first | decide | omega) | (refine Or.inr ⟨?_, ?_⟩ <;> first | decide | omega))))
  | ((with_reducible refine g_Idiv ?hc ?_); (case hc => (first | (exact ⟨by decide, by decide⟩) | assumption)))
  | ((with_reducible refine g_Imod ?hc ?_); (case hc => (first | assumption | omega | decide)))
  | ((with_reducible refine g_exR1 ?hlo ?hhi ?_); (case hlo => omega); (case hhi => omega))
  | ((with_reducible refine g_exR2 ?hb ?_); (case hb => omega))
  | with_reducible refine g_lst ?_ | with_reducible refine g_tup ?_ | with_reducible refine g_call ?_ | with_reducible refine g_BM ?_ | with_reducible refine g_BM0 ?_
  | with_reducible refine g_intB ?_ | with_reducible refine g_lc ?_ | with_reducible refine g_yes ?_ | with_reducible refine g_iZip ?_ | with_reducible refine g_sl ?_ | with_reducible refine g_noP ?_ | with_reducible refine g_part ?_ | with_reducible refine g_gcons ?_ | with_reducible refine g_gnil ?_
  | with_reducible refine g_tfld ?_ | with_reducible refine g_tmeth ?_ | with_reducible refine g_tmake ?_ | with_reducible refine g_sfld ?_ | with_reducible refine g_tprop ?_ | with_reducible refine g_tstar ?_ | with_reducible refine g_tmethK ?_ | with_reducible refine g_isN1 ?_ | with_reducible refine g_notN1 ?_ | with_reducible refine g_callK0 ?_ | with_reducible refine g_m1 ?_ | with_reducible refine g_isstr ?_ | with_reducible refine g_iStr ?_ | with_reducible refine g_exS ?_ | with_reducible refine g_iEnum ?_))
local macro_rules | `(tactic| walk_at "gx1") => `(tactic| (first
  | with_reducible refine g_seq ?_ | with_reducible refine g_asg ?_ | ((with_reducible show tVar _ _ _ _); refine g_var rfl ?_) | with_reducible refine g_c ?_ | with_reducible refine g_name ?_ | with_reducible refine g_op ?_ | with_reducible refine g_I0 ?_
  | with_reducible refine g_cons ?_ | with_reducible refine g_nil ?_ | with_reducible refine g_exbl ?_ | with_reducible refine g_exint ?_ | with_reducible refine g_test ?_ | with_reducible refine g_B ?_ | with_reducible refine g_ifS ?_ | with_reducible refine g_retN ?_ | with_reducible refine g_next ?_
  | with_reducible refine g_CB ?_ | with_reducible refine g_sub ?_ | with_reducible refine g_drop ?_ | with_reducible refine g_not ?_ | with_reducible refine g_and ?_ | with_reducible refine g_or ?_ | with_reducible refine g_andV ?_ | with_reducible refine g_orV ?_ | with_reducible refine g_notV ?_ | with_reducible refine g_ret ?_ | with_reducible refine g_isN ?_
  | with_reducible refine g_par ?_ | with_reducible refine g_expar ?_ | with_reducible refine g_chain ?_ | with_reducible refine g_un ?_ | with_reducible refine g_U ?_ | with_reducible refine g_bits ?_ | ((with_reducible show rEq _ _ _ _); refine g_eq rfl ?_) | ((with_reducible show rNe _ _ _ _); refine g_ne rfl ?_)
  | with_reducible refine g_for ?_ | with_reducible refine g_iRng1 ?_ | with_reducible refine g_iRng2 ?_ | with_reducible refine g_iList ?_ | with_reducible refine g_iTup ?_
  | ((with_reducible refine g_Imul ?hc ?_); (case hc => (first | (refine Or.inl ⟨?_, ?_⟩ <;> first | decide | omega) | (refine Or.inr ⟨?_, ?_⟩ <;> first | decide | omega))))
  | ((with_reducible refine g_Idiv ?hc ?_); (case hc => (first | (exact ⟨by decide, by decide⟩) | assumption)))
  | ((with_reducible refine g_Imod ?hc ?_); (case hc => (first | assumption | omega | decide)))
  | ((with_reducible refine g_exR1 ?hlo ?hhi ?_); (case hlo => omega); (case hhi => omega))
  | ((with_reducible refine g_exR2 ?hb ?_); (case hb => omega))
  | with_reducible refine g_lst ?_ | with_reducible refine g_tup ?_ | with_reducible refine g_call ?_ | with_reducible refine g_BM ?_ | with_reducible refine g_BM0 ?_
  | with_reducible refine g_intB ?_ | with_reducible refine g_lc ?_ | with_reducible refine g_yes ?_ | with_reducible refine g_iZip ?_ | with_reducible refine g_sl ?_ | with_reducible refine g_noP ?_ | with_reducible refine g_part ?_ | with_reducible refine g_gcons ?_ | with_reducible refine g_gnil ?_
  | with_reducible refine g_tfld ?_ | with_reducible refine g_tmeth ?_ | with_reducible refine g_tmake ?_ | with_reducible refine g_sfld ?_ | with_reducible refine g_tprop ?_ | with_reducible refine g_tstar ?_ | with_reducible refine g_tmethK ?_ | with_reducible refine g_isN1 ?_ | with_reducible refine g_notN1 ?_ | with_reducible refine g_callK0 ?_ | with_reducible refine g_m1 ?_ | with_reducible refine g_isstr ?_ | with_reducible refine g_iStr ?_ | with_reducible refine g_exS ?_ | with_reducible refine g_iEnum ?_))
local macro_rules | `(tactic| walk_at "hp") => `(tactic| (first | assumption | exact upd_same | (refine same_get (by assumption) ?_; walk_at "hp")))
local macro_rules | `(tactic| walk_at "sm") => `(tactic| (first | assumption | exact Same.refl _ | (refine Same.trans ?ha (by assumption); walk_at "sm")))
local macro_rules | `(tactic| walk_at "nn") => `(tactic| (first | assumption | (refine same_free (by assumption) ?_; walk_at "nn")))
local macro_rules | `(tactic| walk_at "sb") => `(tactic| (first | decide | (refine small_bits ?_ ?_ <;> omega)))
local macro_rules | `(tactic| walk_at "ln") => `(tactic| (simp only [List.length_cons, List.length_nil]; omega))
local macro_rules | `(tactic| walk_at "gg") => `(tactic| (repeat walk_at "g"))
local macro_rules | `(tactic| walk_at "gs") => `(tactic| (repeat walk_at "gs1"))
local macro_rules | `(tactic| walk_at "gx") => `(tactic| (repeat walk_at "gx1"))

local macro_rules | `(tactic| walk_at "g") => `(tactic| (first | with_reducible refine g_cX ?_ | with_reducible refine g_cKX ?_))
section
variable {P : Program} {w : World} {K : PySem.W.Frag} {mg : Str → Option Value} {base : Heap} {X : Cx} {H : Hp}
def spTold47 (K : PySem.W.Frag) (TT : List (Addr × Str)) : Sp := fun vs H Q _ => ∃ (a b c : Addr) (door : Int) (ks : List Int) (rs : List Pr) (ps : List Int), vs = [.int door, .ref a, .ref b, .ref c] ∧ H a = some (.lst (ks.map V.int)) ∧ PtsL K H b rs ∧ H c = some (.lst (ps.map V.int)) ∧ chkL ks rs ps ∧ Tabs TT H ∧
  (∀ r, blockedR ps (wishRows ks rs ps) = some r → ∀ (t : Addr) (H' : Hp), SmT H H' → Tabs TT H' → H' t = some (.tup [.str "impossible", .int r.i]) → Q (.ref t) H') ∧
  (blockedR ps (wishRows ks rs ps) = none → door = 0 → ∀ (l : Addr) (ns : List Int) (H' : Hp), (∀ xs, H l ≠ some (.lst xs)) → SmT H H' → Tabs TT H' → H' l = some (.lst (ns.map V.int)) → ns.Perm (chosen ps (wishRows ks rs ps)).1 → ns.Pairwise (· ≤ ·) → Q (.ref l) H') ∧
  (blockedR ps (wishRows ks rs ps) = none → door ≠ 0 → ∀ (l : Addr) (ts : List Pr) (H' : Hp), (∀ xs, H l ≠ some (.lst xs)) → SmT H H' → Tabs TT H' → PtsL K H' l ts → ts.Perm (chosen ps (wishRows ks rs ps)).2 → Up ts → Q (.ref l) H')
abbrev s_told : Stmt := top 33
abbrev N_told : List Str := ["_law_door", "_law_some_keys", "_law_spans", "_law_some_puts", "e"]
theorem sc_told : FnScope N_told ["_law_door", "_law_some_keys", "_law_spans", "_law_some_puts"] (defScope s_told) := ⟨rfl, rfl, rfl, by decide +kernel, rfl, by decide +kernel, by decide +kernel⟩

theorem ok_told47 {f CI : Addr} {fd : FuncData} {TT : List (Addr × Str)} (D : Dn K mg "_law_told" s_told ["_law_door", "_law_some_keys", "_law_spans", "_law_some_puts"] f fd) (x_Impossible : mg "Impossible" = some (.ref CI)) (tI : PySem.W.exmOne K (.ref CI) (.ref CI) = some true) (EC : ErrC K CI) (np : PySem.W.findIn K (.ref CI) "index" = some none)
    (c_fewest_spacers : CalX P w K mg base 4 "fewest_spacers" (spFewestG K CI TT)) (k_separate : CalKX P w K mg base 4 "separate" ["puts", "ranges", "keys"] (permV 3 [2, 1, 0]) (spSeparateG K CI TT)) : Cal P w K mg base 5 "_law_told" (spTold47 K TT) [] := by
  refine cal_of D (D.fn.ok sc_told (fun vs H Q E h => ?_) (fun cdv A outer s H vs Q E hr h => ?_))
  · obtain ⟨a, b, c, door, ks, rs, ps, rfl, _⟩ := h
    rfl
  · obtain ⟨a, b, c, door, ks, rs, ps, rfl, ha, hb, hc, ck, hT, k0, k1, k2⟩ := h
    refine ⟨_, (pss_one (ps_try_as (i := 4) (Wout := fun _ _ _ _ => False) rfl rfl sc_told.nd rfl rfl ⟨rfl, by decide, Or.inl x_Impossible⟩ takes0 (fun W pn xe tk _ => (pss_cons (ps_if (pt_cmpR op_eq (pv 0) pe_int (nomark _)) (pss_one (ps_ret (pe_cX (E := WE W) c_fewest_spacers hr (by decide) (by rfl) (fun σ => passAt tk σ) (pa_cons (pv 1) (pa_cons (pv 2) (pa_cons (pv 3) pa_nil)))))) pss_nil)
    (pss_one (ps_ret (pe_cKX (E := WE W) k_separate hr (by decide) (by rfl) (fun σ => passAt tk σ) (pk_cons (pv 3) (pk_cons (pv 2) (pk_cons (pv 1) pk_nil)))))))) (fun ae oe cls de pn hz hf => (pss_one (ps_ret (pe_tup (pa_cons pe_str (pa_cons (pe_err hz hf (pv 4)) pa_nil)))))))), ?_⟩
    walk_at "gg"
    by_cases c0 : door = 0
    · refine g_ifT (decide_eq_true (by rw [c0])) ?_
      walk_at "gg"
      refine ⟨a, b, c, ks, rs, ps, rfl, ha, hb, hc, ck, hT, fun r hr0 d H1 S1 nd ed => ?_, fun no => ?_⟩
      · refine ⟨true, tI, fun _ a0 n0 => ?_, fun z => nomatch z⟩
        walk_at "gg"
        refine g_err ?_
        walk_at "gg"
        refine ⟨rfl, CI, d, _, _, rfl, rfl, ed, rfl, EC, np, ?_⟩
        walk_at "gg"
        refine g_mkT (by walk_at "ln") fun t2 H2 n2 S2 e2 => ?_
        exact k0 r hr0 t2 H2 (Same.smT (S1.trans S2)) (tabs_same hT (S1.trans S2)) e2
      · exact fun l ns H' nl X T' e pm up => k1 no c0 l ns H' nl X T' e pm up
    · refine g_ifF (decide_eq_false fun z => c0 (V.int.inj z)) ?_
      walk_at "gg"
      refine ⟨a, b, c, ks, rs, ps, rfl, ha, hb, hc, ck, hT, fun r hr0 d H1 S1 nd ed => ?_, fun no => ?_⟩
      · refine ⟨true, tI, fun _ a0 n0 => ?_, fun z => nomatch z⟩
        walk_at "gg"
        refine g_err ?_
        walk_at "gg"
        refine ⟨rfl, CI, d, _, _, rfl, rfl, ed, rfl, EC, np, ?_⟩
        walk_at "gg"
        refine g_mkT (by walk_at "ln") fun t2 H2 n2 S2 e2 => ?_
        exact k0 r hr0 t2 H2 (Same.smT (S1.trans S2)) (tabs_same hT (S1.trans S2)) e2
      · exact fun l ts H' nl X T' e pm up => k2 no c0 l ts H' nl X T' e pm up
end
end Gk

/-! the law's own wishes -/
namespace Gk
open PySem L2 Gx
open C8 (Cal Met Mak pe_c pe_mt pe_mt0 pe_mk pe_gc)
local macro_rules | `(tactic| walk_at "g") => `(tactic| (first
  | with_reducible refine g_seq ?_ | with_reducible refine g_asg ?_ | ((with_reducible show tVar _ _ _ _); refine g_var rfl ?_) | with_reducible refine g_c ?_ | with_reducible refine g_name ?_ | with_reducible refine g_op ?_ | with_reducible refine g_I0 ?_
  | with_reducible refine g_cons ?_ | with_reducible refine g_nil ?_ | with_reducible refine g_exbl ?_ | with_reducible refine g_exint ?_ | with_reducible refine g_test ?_ | with_reducible refine g_B ?_ | with_reducible refine g_ifS ?_ | with_reducible refine g_ret ?_ | with_reducible refine g_retN ?_ | with_reducible refine g_next ?_
  | with_reducible refine g_CB ?_ | with_reducible refine g_sub ?_ | with_reducible refine g_drop ?_ | with_reducible refine g_not ?_ | with_reducible refine g_and ?_ | with_reducible refine g_or ?_ | with_reducible refine g_andV ?_ | with_reducible refine g_orV ?_ | with_reducible refine g_notV ?_ | with_reducible refine g_ifE ?_ | with_reducible refine g_isN ?_
  | with_reducible refine g_par ?_ | with_reducible refine g_expar ?_ | with_reducible refine g_chain ?_ | with_reducible refine g_un ?_ | with_reducible refine g_U ?_ | with_reducible refine g_bits ?_ | ((with_reducible show rEq _ _ _ _); refine g_eq rfl ?_) | ((with_reducible show rNe _ _ _ _); refine g_ne rfl ?_)
  | with_reducible refine g_for ?_ | with_reducible refine g_iRng1 ?_ | with_reducible refine g_iRng2 ?_ | with_reducible refine g_iList ?_ | with_reducible refine g_iTup ?_
  | ((with_reducible refine g_Imul ?hc ?_); (case hc => (first | (refine Or.inl ⟨?_, ?_⟩ <;> first | decide | omega) | (refine Or.inr ⟨?_, ?_⟩ <;> first | decide | omega))))
  | ((with_reducible refine g_Idiv ?hc ?_); (case hc => (first | (exact ⟨by decide, by decide⟩) | assumption)))
  | ((with_reducible refine g_Imod ?hc ?_); (case hc => (first | assumption | omega | decide)))
  | ((with_reducible refine g_exR1 ?hlo ?hhi ?_); (case hlo => omega); (case hhi => omega))
  | ((with_reducible refine g_exR2 ?hb ?_); (case hb => omega))
  | with_reducible refine g_lst ?_ | with_reducible refine g_tup ?_ | with_reducible refine g_call ?_ | with_reducible refine g_BM ?_ | with_reducible refine g_BM0 ?_
  | with_reducible refine g_intB ?_ | with_reducible refine g_lc ?_ | with_reducible refine g_yes ?_ | with_reducible refine g_iZip ?_ | with_reducible refine g_sl ?_ | with_reducible refine g_noP ?_ | with_reducible refine g_part ?_ | with_reducible refine g_gcons ?_ | with_reducible refine g_gnil ?_
  | with_reducible refine g_tfld ?_ | with_reducible refine g_tmeth ?_ | with_reducible refine g_tmake ?_ | with_reducible refine g_sfld ?_ | with_reducible refine g_tprop ?_ | with_reducible refine g_tstar ?_ | with_reducible refine g_tmethK ?_ | with_reducible refine g_isN1 ?_ | with_reducible refine g_notN1 ?_ | with_reducible refine g_callK0 ?_ | with_reducible refine g_m1 ?_ | with_reducible refine g_isstr ?_ | with_reducible refine g_iStr ?_ | with_reducible refine g_exS ?_ | with_reducible refine g_iEnum ?_))
local macro_rules | `(tactic| walk_at "gs1") => `(tactic| (first
  | with_reducible refine g_seq ?_ | with_reducible refine g_asg ?_ | ((with_reducible show tVar _ _ _ _); refine g_var rfl ?_) | with_reducible refine g_c ?_ | with_reducible refine g_name ?_ | with_reducible refine g_op ?_ | with_reducible refine g_I0 ?_
  | with_reducible refine g_cons ?_ | with_reducible refine g_nil ?_ | with_reducible refine g_exbl ?_ | with_reducible refine g_exint ?_ | with_reducible refine g_test ?_ | with_reducible refine g_B ?_ | with_reducible refine g_ifS ?_ | with_reducible refine g_retN ?_ | with_reducible refine g_next ?_
  | with_reducible refine g_CB ?_ | with_reducible refine g_sub ?_ | with_reducible refine g_drop ?_ | with_reducible refine g_not ?_ | with_reducible refine g_and ?_ | with_reducible refine g_or ?_ | with_reducible refine g_andV ?_ | with_reducible refine g_orV ?_ | with_reducible refine g_notV ?_ | with_reducible refine g_ifE ?_ | with_reducible refine g_isN ?_
  | with_reducible refine g_par ?_ | with_reducible refine g_expar ?_ | with_reducible refine g_chain ?_ | with_reducible refine g_un ?_ | with_reducible refine g_U ?_ | with_reducible refine g_bits ?_ | ((with_reducible show rEq _ _ _ _); refine g_eq rfl ?_) | ((with_reducible show rNe _ _ _ _); refine g_ne rfl ?_)
  | with_reducible refine g_for ?_ | with_reducible refine g_iRng1 ?_ | with_reducible refine g_iRng2 ?_ | with_reducible refine g_iList ?_ | with_reducible refine g_iTup ?_
  | ((with_reducible refine g_Imul ?hc ?_); (case hc => (first | (refine Or.inl ⟨?_, ?_⟩ <;> first | decide | omega) | (refine Or.inr ⟨?_, ?_⟩ <;> first | decide | omega))))
  | ((with_reducible refine g_Idiv ?hc ?_); (case hc => (first | (exact ⟨by decide, by decide⟩) | assumption)))
  | ((with_reducible refine g_Imod ?hc ?_); (case hc => (first | assumption | omega | decide)))
  | ((with_reducible refine g_exR1 ?hlo ?hhi ?_); (case hlo => omega); (case hhi => omega))
  | ((with_reducible refine g_exR2 ?hb ?_); (case hb => omega))
  | with_reducible refine g_lst ?_ | with_reducible refine g_tup ?_ | with_reducible refine g_call ?_ | with_reducible refine g_BM ?_ | with_reducible refine g_BM0 ?_
  | with_reducible refine g_intB ?_ | with_reducible refine g_lc ?_ | with_reducible refine g_yes ?_ | with_reducible refine g_iZip ?_ | with_reducible refine g_sl ?_ | with_reducible refine g_noP ?_ | with_reducible refine g_part ?_ | with_reducible refine g_gcons ?_ | with_reducible refine g_gnil ?_
  | with_reducible refine g_tfld ?_ | with_reducible refine g_tmeth ?_ | with_reducible refine g_tmake ?_ | with_reducible refine g_sfld ?_ | with_reducible refine g_tprop ?_ | with_reducible refine g_tstar ?_ | with_reducible refine g_tmethK ?_ | with_reducible refine g_isN1 ?_ | with_reducible refine g_notN1 ?_ | with_reducible refine g_callK0 ?_ | with_reducible refine g_m1 ?_ | with_reducible refine g_isstr ?_ | with_reducible refine g_iStr ?_ | with_reducible refine g_exS ?_ | with_reducible refine g_iEnum ?_))
local macro_rules | `(tactic| walk_at "gx1") => `(tactic| (first
  | with_reducible refine g_seq ?_ | with_reducible refine g_asg ?_ | ((with_reducible show tVar _ _ _ _); refine g_var rfl ?_) | with_reducible refine g_c ?_ | with_reducible refine g_name ?_ | with_reducible refine g_op ?_ | with_reducible refine g_I0 ?_
  | with_reducible refine g_cons ?_ | with_reducible refine g_nil ?_ | with_reducible refine g_exbl ?_ | with_reducible refine g_exint ?_ | with_reducible refine g_test ?_ | with_reducible refine g_B ?_ | with_reducible refine g_ifS ?_ | with_reducible refine g_retN ?_ | with_reducible refine g_next ?_
  | with_reducible refine g_CB ?_ | with_reducible refine g_sub ?_ | with_reducible refine g_drop ?_ | with_reducible refine g_not ?_ | with_reducible refine g_and ?_ | with_reducible refine g_or ?_ | with_reducible refine g_andV ?_ | with_reducible refine g_orV ?_ | with_reducible refine g_notV ?_ | with_reducible refine g_ret ?_ | with_reducible refine g_isN ?_
  | with_reducible refine g_par ?_ | with_reducible refine g_expar ?_ | with_reducible refine g_chain ?_ | with_reducible refine g_un ?_ | with_reducible refine g_U ?_ | with_reducible refine g_bits ?_ | ((with_reducible show rEq _ _ _ _); refine g_eq rfl ?_) | ((with_reducible show rNe _ _ _ _); refine g_ne rfl ?_)
  | with_reducible refine g_for ?_ | with_reducible refine g_iRng1 ?_ | with_reducible refine g_iRng2 ?_ | with_reducible refine g_iList ?_ | with_reducible refine g_iTup ?_
  | ((with_reducible refine g_Imul ?hc ?_); (case hc => (first | (refine Or.inl ⟨?_, ?_⟩ <;> first | decide | omega) | (refine Or.inr ⟨?_, ?_⟩ <;> first | decide | omega))))
  | ((with_reducible refine g_Idiv ?hc ?_); (case hc => (first | (exact ⟨by decide, by decide⟩) | assumption)))
  | ((with_reducible refine g_Imod ?hc ?_); (case hc => (first | assumption | omega | decide)))
  | ((with_reducible refine g_exR1 ?hlo ?hhi ?_); (case hlo => omega); (case hhi => omega))
  | ((with_reducible refine g_exR2 ?hb ?_); (case hb => omega))
  | with_reducible refine g_lst ?_ | with_reducible refine g_tup ?_ | with_reducible refine g_call ?_ | with_reducible refine g_BM ?_ | with_reducible refine g_BM0 ?_
  | with_reducible refine g_intB ?_ | with_reducible refine g_lc ?_ | with_reducible refine g_yes ?_ | with_reducible refine g_iZip ?_ | with_reducible refine g_sl ?_ | with_reducible refine g_noP ?_ | with_reducible refine g_part ?_ | with_reducible refine g_gcons ?_ | with_reducible refine g_gnil ?_
  | with_reducible refine g_tfld ?_ | with_reducible refine g_tmeth ?_ | with_reducible refine g_tmake ?_ | with_reducible refine g_sfld ?_ | with_reducible refine g_tprop ?_ | with_reducible refine g_tstar ?_ | with_reducible refine g_tmethK ?_ | with_reducible refine g_isN1 ?_ | with_reducible refine g_notN1 ?_ | with_reducible refine g_callK0 ?_ | with_reducible refine g_m1 ?_ | with_reducible refine g_isstr ?_ | with_reducible refine g_iStr ?_ | with_reducible refine g_exS ?_ | with_reducible refine g_iEnum ?_))
local macro_rules | `(tactic| walk_at "hp") => `(tactic| (first | assumption | exact upd_same | (refine same_get (by assumption) ?_; walk_at "hp")))
local macro_rules | `(tactic| walk_at "sm") => `(tactic| (first | assumption | exact Same.refl _ | (refine Same.trans ?ha (by assumption); walk_at "sm")))
local macro_rules | `(tactic| walk_at "nn") => `(tactic| (first | assumption | (refine same_free (by assumption) ?_; walk_at "nn")))
local macro_rules | `(tactic| walk_at "sb") => `(tactic| (first | decide | (refine small_bits ?_ ?_ <;> omega)))
local macro_rules | `(tactic| walk_at "ln") => `(tactic| (simp only [List.length_cons, List.length_nil]; omega))
local macro_rules | `(tactic| walk_at "gg") => `(tactic| (repeat walk_at "g"))
local macro_rules | `(tactic| walk_at "gs") => `(tactic| (repeat walk_at "gs1"))
local macro_rules | `(tactic| walk_at "gx") => `(tactic| (repeat walk_at "gx1"))

section
variable {P : Program} {w : World} {K : PySem.W.Frag} {mg : Str → Option Value} {base : Heap} {X : Cx}
abbrev s_wish : Stmt := top 26
abbrev N_wish : List Str := ["_law_some_keys", "_law_span", "_law_x", "_law_low_end", "_law_high_end", "_law_first", "_law_last", "_law_some", "_law_k"]
theorem sc_wish : FnScope N_wish ["_law_some_keys", "_law_span", "_law_x"] (defScope s_wish) := ⟨rfl, rfl, rfl, by decide +kernel, rfl, by decide +kernel, by decide +kernel⟩

theorem ok_lwish {f : Addr} {fd : FuncData} (D : Dn K mg "_law_wish" s_wish ["_law_some_keys", "_law_span", "_law_x"] f fd) : Cal P w K mg base 1 "_law_wish" (spWishI K) [] := by
  refine cal_of D (D.fn.ok sc_wish (fun vs H Q E h => ?_) (fun cdv A outer s H vs Q E hr h => ?_))
  · obtain ⟨a, t, ks, lo, hi, p, rfl, _⟩ := h
    rfl
  · obtain ⟨a, t, ks, lo, hi, p, rfl, ha, few, ht, k⟩ := h
    refine ⟨_, (pss_cons (ps_asg (pv 1) (pg_tup (by rfl) (pgs_cons (pg_name (i := 3) sc_wish.nd rfl (Or.inl rfl)) (pgs_cons (pg_name (i := 4) sc_wish.nd rfl (Or.inl rfl)) pgs_nil))))
    (pss_cons (ps_if (pt_chain op_le op_le (pv 3) (pv 2) (pv 4)) (pss_one (ps_ret pe_non)) pss_nil)
    (pss_cons (ps_asg (pe_ifExp (pt_cmpR op_gt (pv 2) (pv 4) (nomark _)) (pe_tup (pa_cons (pv 4) (pa_cons (pe_op op_sub (pv 2) pe_int) pa_nil))) (pe_tup (pa_cons (pe_op op_add (pv 2) pe_int) (pa_cons (pv 3) pa_nil)))) (pg_tup (by rfl) (pgs_cons (pg_name (i := 5) sc_wish.nd rfl (Or.inr rfl)) (pgs_cons (pg_name (i := 6) sc_wish.nd rfl (Or.inr rfl)) pgs_nil))))
    (pss_cons (ps_setLc (i := 7) (own := [("_law_k", 8)]) (g := gName 8) rfl sc_wish.nd rfl rfl (sw_true rfl rfl rfl (by decide +kernel)) (pi_list (pv 0)) (blkOk_by (own := [("_law_k", 8)]) (N := N_wish) (sc := defScope s_wish) (by decide +kernel)) (fun _ _ _ _ _ => pg_name (i := 8) sc_wish.nd rfl (Or.inl rfl)) (fun _ _ _ _ _ => (pts_one (pt_chain op_le op_le (pv 5) (pv 8) (pv 6)))) (fun _ _ _ _ _ => (pv 8)))
    (pss_one (ps_ret (pe_ifExp (pt_cmpR (op_neD hr.units) (pv 7) (pe_lst pa_nil) (nomark _)) pe_non (pe_tup (pa_cons (pv 5) (pa_cons (pv 6) pa_nil)))))))))), ?_⟩
    walk_at "gg"
    refine g_gtup ht rfl ?_
    with_reducible refine g_gcons ?_
    with_reducible refine g_name ?_
    with_reducible refine g_gcons ?_
    with_reducible refine g_name ?_
    with_reducible refine g_gnil ?_
    with_reducible refine g_seq ?_
    refine g_cutS (t := tIfS _ _ _) (fun σ' H' => ¬ (lo ≤ p ∧ p ≤ hi) ∧ H' = H ∧ σ' = [some (V.ref a), some (V.ref t), some (V.int p), some (V.int lo), some (V.int hi), none, none, none, none]) (fun D' er kn => ?_) ?_
    · walk_at "gg"
      by_cases h1 : lo ≤ p
      · refine g_ifT (decide_eq_true h1) ?_
        walk_at "gg"
        by_cases h2 : p ≤ hi
        · refine g_ifT (decide_eq_true h2) ?_
          walk_at "gg"
          rw [er]
          refine k _ _ (Same.refl _) ?_
          unfold wishI
          rw [if_pos ⟨h1, h2⟩]
          exact .non
        · refine g_ifF (decide_eq_false h2) ?_
          exact kn _ _ ⟨fun z => h2 z.2, rfl, rfl⟩
      · refine g_ifF (decide_eq_false h1) ?_
        refine ⟨_, rfl, g_ifF rfl ?_⟩
        exact kn _ _ ⟨fun z => h1 z.1, rfl, rfl⟩
    · rintro σ' H' ⟨nb, rfl, rfl⟩
      with_reducible refine g_seq ?_
      walk_at "gx"
      refine g_cutE (fun v H1 => ∃ t1, v = .ref t1 ∧ Same H' H1 ∧ H1 t1 = some (.tup [.int (wishE lo hi p).1, .int (wishE lo hi p).2])) (fun Q' kq => ?_) ?_
      · walk_at "gg"
        unfold wishE at kq
        by_cases h3 : hi < p
        · refine g_ifT (decide_eq_true h3) ?_
          walk_at "gg"
          refine g_mkT (by walk_at "ln") fun t1 H1 n1 S1 e1 => ?_
          refine kq _ _ ⟨t1, rfl, S1, ?_⟩
          rw [if_pos h3]
          exact e1
        · refine g_ifF (decide_eq_false h3) ?_
          walk_at "gg"
          refine g_mkT (by walk_at "ln") fun t1 H1 n1 S1 e1 => ?_
          refine kq _ _ ⟨t1, rfl, S1, ?_⟩
          rw [if_neg h3]
          exact e1
      · rintro _ H1 ⟨t1, rfl, S1, e1⟩
        have wi : wishI ks lo hi p = if ks.any (fun k => decide ((wishE lo hi p).1 ≤ k ∧ k ≤ (wishE lo hi p).2)) = true then none else some (wishE lo hi p) := by
          unfold wishI
          rw [if_neg nb]
        generalize wishE lo hi p = q at e1 wi
        refine g_gtup (SqT.of e1) rfl ?_
        walk_at "gg"
        refine ⟨a, rfl, ⟨_, SqL.of (S1 _ _ ha)⟩, lc_filtI (SqL.of (S1 _ _ ha)) (by omega) (fun k => decide (q.1 ≤ k ∧ k ≤ q.2)) (fun n H2 Nx No _ S2 kx kn => ?_) fun l H3 n3 S3 e3 => ?_⟩
        · walk_at "gg"
          refine ⟨rfl, ?_⟩
          walk_at "gg"
          by_cases c1 : q.1 ≤ n
          · refine g_ifT (decide_eq_true c1) ?_
            walk_at "gg"
            by_cases c2 : n ≤ q.2
            · refine g_ifT (decide_eq_true c2) ?_
              walk_at "gg"
              exact kx _ (Same.refl _) (by simp [c1, c2])
            · refine g_ifF (decide_eq_false c2) ?_
              exact kn _ (Same.refl _) (by simp [c2])
          · refine g_ifF (decide_eq_false c1) ?_
            refine ⟨_, rfl, g_ifF rfl ?_⟩
            exact kn _ (Same.refl _) (by simp [c1])
        walk_at "gg"
        refine g_mkL (by walk_at "ln") fun l2 H4 n4 S4 e4 => ?_
        walk_at "gg"
        refine g_neNilL (as := ks.filter fun k => decide (q.1 ≤ k ∧ k ≤ q.2)) ⟨_, S4 _ _ e3, dpAll_ints _⟩ e4 ?_
        walk_at "gg"
        have S04 := (S1.trans S3).trans S4
        have any_nil : ks.any (fun k => decide (q.1 ≤ k ∧ k ≤ q.2)) = !decide ((ks.filter fun k => decide (q.1 ≤ k ∧ k ≤ q.2)) = []) := by
          rw [Bool.eq_iff_iff, List.any_eq_true]
          simp only [Bool.not_eq_true', decide_eq_false_iff_not, List.filter_eq_nil_iff]
          constructor
          · rintro ⟨x, hx, hd⟩ z
            exact z x hx hd
          · intro z
            refine Classical.byContradiction fun c => z fun x hx hd => c ⟨x, hx, hd⟩
        rw [any_nil] at wi
        cases c2 : decide ((ks.filter fun k => decide (q.1 ≤ k ∧ k ≤ q.2)) = []) with
        | false =>
          rw [c2] at wi
          refine g_ifT rfl ?_
          walk_at "gg"
          refine k _ _ S04 ?_
          rw [wi]
          exact .non
        | true =>
          rw [c2] at wi
          refine g_ifF rfl ?_
          walk_at "gg"
          refine g_mkT (by walk_at "ln") fun t2 H6 n6 S6 e6 => ?_
          walk_at "gg"
          refine k _ _ (S04.trans S6) ?_
          rw [wi]
          exact .tup (SqT.of e6) (.cons (.int _) (.cons (.int _) .nil))
/-- a row of the law's own: the pair of numbers, the interval -/
def wlD (r : Wr) : PyData := .tuple [.tuple [.int r.i, .int r.j], Gx.prD r.q]
theorem nol_wl (rs : List Wr) : noLstAll (rs.map wlD) = true := noLstAll_iff.mpr fun d hd => by
  obtain ⟨r, _, rfl⟩ := List.mem_map.mp hd
  simp [wlD, Gx.prD, noLst, noLstAll]
def spLWishes (K : PySem.W.Frag) : Sp := fun vs H Q _ => ∃ (a b c : Addr) (ks : List Int) (rs : List Pr) (ps : List Int), vs = [.ref a, .ref b, .ref c] ∧ H a = some (.lst (ks.map V.int)) ∧ PtsL K H b rs ∧ H c = some (.lst (ps.map V.int)) ∧ ks.length ≤ 1000 ∧ rs.length ≤ 30 ∧ ps.length ≤ 30 ∧
  ∀ l xs H', H l = none → Same H H' → H' l = some (.lst xs) → DpAll K H' xs ((wishRows ks rs ps).map wlD) → Q (.ref l) H'
abbrev s_wishes : Stmt := top 27
abbrev N_wishes : List Str := ["_law_some_keys", "_law_spans", "_law_some_puts", "_law_found", "_law_at", "_law_x", "_law_place", "_law_span", "_law_wish_here"]
theorem sc_wishes : FnScope N_wishes ["_law_some_keys", "_law_spans", "_law_some_puts"] (defScope s_wishes) := ⟨rfl, rfl, rfl, by decide +kernel, rfl, by decide +kernel, by decide +kernel⟩

theorem ok_lwishes {f : Addr} {fd : FuncData} (D : Dn K mg "_law_wishes" s_wishes ["_law_some_keys", "_law_spans", "_law_some_puts"] f fd) (T : Bt mg) (c__law_wish : Cal P w K mg base 1 "_law_wish" (spWishI K) []) : Cal P w K mg base 2 "_law_wishes" (spLWishes K) [] := by
  refine cal_of D (D.fn.ok sc_wishes (fun vs H Q E h => ?_) (fun cdv A outer s H vs Q E hr h => ?_))
  · obtain ⟨a, b, c, ks, rs, ps, rfl, _⟩ := h
    rfl
  · obtain ⟨a, b, c, ks, rs, ps, rfl, ha, hb, hc, lk, lr, lp, k⟩ := h
    refine ⟨_, (pss_cons (ps_set (i := 3) sc_wishes.nd rfl (Or.inl rfl) (pe_lst pa_nil))
    (pss_cons (ps_for PassesOwn.never rfl (pi_enum (by rfl) T.n_enumerate (pa_cons (pv 2) pa_nil)) (pg_tup (by rfl) (pgs_cons (pg_name (i := 4) sc_wishes.nd rfl (Or.inl rfl)) (pgs_cons (pg_name (i := 5) sc_wishes.nd rfl (Or.inl rfl)) pgs_nil))) (pss_one (ps_for PassesOwn.never rfl (pi_enum (by rfl) T.n_enumerate (pa_cons (pv 1) pa_nil)) (pg_tup (by rfl) (pgs_cons (pg_name (i := 6) sc_wishes.nd rfl (Or.inl rfl)) (pgs_cons (pg_name (i := 7) sc_wishes.nd rfl (Or.inl rfl)) pgs_nil))) (pss_cons (ps_set (i := 8) sc_wishes.nd rfl (Or.inl rfl) (pe_c c__law_wish hr (by decide) (by rfl) (pa_cons (pv 0) (pa_cons (pv 7) (pa_cons (pv 5) pa_nil)))))
    (pss_one (ps_if (pt_cmpR op_notN1 (pv 8) pe_non (nomark _)) (pss_one (ps_expr (pe_bm PySem.F.plainAttrs_list PySem.F.slot_list_append PySem.F.type_list_append mt_append (pv 3) (pa_cons (pe_tup (pa_cons (pe_tup (pa_cons (pv 4) (pa_cons (pv 6) pa_nil))) (pa_cons (pv 8) pa_nil))) pa_nil)))) pss_nil))))))
    (pss_one (ps_ret (pv 3))))), ?_⟩
    walk_at "gg"
    refine g_mkL (by walk_at "ln") fun l H1 n1 S1 e1 => ?_
    obtain ⟨ys, hbe, hbd⟩ := hb
    have lny : ys.length = rs.length := by rw [dpAll_len hbd, List.length_map]
    walk_at "gg"
    refine g_exEn (SqL.of (S1 _ _ hc)) ?_
    refine fw_enum (xs := ps.map V.int) (fun i σ H' => ∃ (acc : List V) (v4 v5 v6 v7 v8 : Option V), σ = [some (.ref a), some (.ref b), some (.ref c), some (.ref l), v4, v5, v6, v7, v8] ∧ Same H H' ∧ H' l = some (.lst acc) ∧ DpAll K H' acc ((wishRows ks rs (ps.take i)).map wlD) ∧ acc.length ≤ 30 * i)
      ⟨[], _, _, _, _, _, rfl, S1, e1, .nil, Nat.zero_le _⟩ (fun i σ H' _ ⟨_, _, _, _, _, _, _, S, _⟩ => SqL.of (S _ _ hc)) ?_ ?_
    · rintro i x t σ H2 H3 hx ⟨acc, v4, v5, v6, v7, v8, rfl, S2, e2, d2, l2⟩ S3 e3
      obtain ⟨p, hp, rfl⟩ := int_at hx
      have ip : i < ps.length := (List.getElem?_eq_some_iff.mp hp).1
      refine g_gtup (SqT.of e3) rfl ?_
      walk_at "gg"
      refine g_exEn (SqL.of ((S2.trans S3) _ _ hbe)) ?_
      refine fw_enum (xs := ys) (fun j σ H' => ∃ (acc : List V) (v6 v7 v8 : Option V), σ = [some (.ref a), some (.ref b), some (.ref c), some (.ref l), some (.int (i : Nat)), some (.int p), v6, v7, v8] ∧ Same H H' ∧ H' l = some (.lst acc) ∧ DpAll K H' acc ((wishRows ks rs (ps.take i) ++ rowsOf ks (rs.take j) i p).map wlD) ∧ acc.length ≤ 30 * i + j)
        ⟨acc, _, _, _, rfl, S2.trans S3, S3 _ _ e2, ?_, by omega⟩ (fun j σ H' _ ⟨_, _, _, _, _, S, _⟩ => SqL.of (S _ _ hbe)) ?_ ?_
      · have z : rowsOf ks (rs.take 0) i p = [] := rfl
        rw [z, List.append_nil]
        exact dp_sameAll S3 _ _ d2
      · rintro j y u σ H4 H5 hy ⟨acc, v6, v7, v8, rfl, S4, e4, d4, l4⟩ S5 e5
        have jl : j < ys.length := (List.getElem?_eq_some_iff.mp hy).1
        obtain ⟨r, hr, dy⟩ := datas_at (dp_sameAll (S4.trans S5) _ _ hbd) hy
        obtain ⟨t2, rfl, ht2⟩ := pr_at dy
        have S05 := S4.trans S5
        refine g_gtup (SqT.of e5) rfl ?_
        walk_at "gg"
        refine ⟨a, t2, ks, r.1, r.2, p, rfl, S05 _ _ ha, lk, ht2, fun v H6 S6 dv => ?_⟩
        have nx : rowsOf ks (rs.take (j + 1)) i p = rowsOf ks (rs.take j) i p ++ ((wishI ks r.1 r.2 p).map fun q => (⟨i, j, q⟩ : Wr)).toList := rows_next hr
        have S06 := S05.trans S6
        show gName 8 v _ _ _
        cases wi : wishI ks r.1 r.2 p with
        | none =>
          rw [wi] at dv nx
          cases dv
          walk_at "gg"
          refine ⟨acc, _, _, _, rfl, S06, (S5.trans S6) _ _ e4, ?_, by omega⟩
          rw [nx]
          have z : rowsOf ks (rs.take j) i p ++ (Option.map (fun q => (⟨i, j, q⟩ : Wr)) none).toList = rowsOf ks (rs.take j) i p := List.append_nil _
          rw [z]
          exact dp_sameAll (S5.trans S6) _ _ d4
        | some q =>
          rw [wi] at dv nx
          have dv : Dp K H6 v (Gx.prD q) := dv
          obtain ⟨t3, rfl, ht3⟩ := pr_at dv
          walk_at "gg"
          refine g_ifT rfl ?_
          walk_at "gg"
          refine g_tyL ((S5.trans S6) _ _ e4) ?_
          walk_at "gg"
          refine g_mkT (by walk_at "ln") fun t4 H7 n7 S7 e7 => ?_
          walk_at "gg"
          refine g_mkT (by walk_at "ln") fun t5 H9 n9 S9 e9 => ?_
          walk_at "gg"
          have S79 := S7.trans S9
          have S59 := ((S5.trans S6).trans S79)
          refine g_appB (S59 _ _ e4) (by omega) fun H8 B8 e8 => ?_
          walk_at "gg"
          have n1' : H l = none := n1
          refine ⟨_, _, _, _, rfl, same_but (S06.trans S79) n1' B8, e8, ?_, by rw [List.length_append]; simp only [List.length_cons, List.length_nil]; omega⟩
          rw [nx]
          have z : ((wishRows ks rs (ps.take i) ++ (rowsOf ks (rs.take j) i p ++ (Option.map (fun q => (⟨i, j, q⟩ : Wr)) (some q)).toList)).map wlD) = ((wishRows ks rs (ps.take i) ++ rowsOf ks (rs.take j) i p).map wlD) ++ [wlD (⟨i, j, q⟩ : Wr)] := by
            rw [List.map_append, List.map_append, List.map_append, List.append_assoc]
            rfl
          rw [z]
          have nt4 : t4 ≠ l := fun z => by
            rw [z, (S5.trans S6) _ _ e4] at n7
            cases n7
          have nt5 : t5 ≠ l := fun z => by
            rw [z, ((S5.trans S6).trans S7) _ _ e4] at n9
            cases n9
          exact dpAll_append (dp_butAll (S59 _ _ e4) B8 _ _ (nol_wl _) (dp_sameAll S59 _ _ d4)) (.cons (.tup (SqT.of (B8 _ _ nt5 e9)) (.cons (.tup (SqT.of (B8 _ _ nt4 (S9 _ _ e7))) (.cons (.int _) (.cons (.int _) .nil))) (.cons (dp_but (S59 _ _ e4) B8 _ _ (by simp [Gx.prD, noLst, noLstAll]) (dp_same S79 _ _ dv)) .nil))) .nil)
      · rintro σ H4 ⟨acc, v6, v7, v8, rfl, S4, e4, d4, l4⟩
        refine ⟨acc, _, _, _, _, _, rfl, S4, e4, ?_, by rw [lny] at l4; omega⟩
        have z : wishRows ks rs (ps.take (i + 1)) = wishRows ks rs (ps.take i) ++ rowsOf ks rs i p := wish_next hp
        rw [z]
        rw [lny, List.take_length] at d4
        exact d4
    · rintro σ H2 ⟨acc, v4, v5, v6, v7, v8, rfl, S2, e2, d2, l2⟩
      rw [List.length_map, List.take_length] at d2
      walk_at "gg"
      exact k l acc H2 n1 S2 e2 d2
end
end Gk

/-! law k47: _law_right -/
namespace Gk
open PySem L2 Gx
open LamX hiding takes0
open C8 (Cal Met Mak pe_c pe_mt pe_mt0 pe_mk pe_gc)
local macro_rules | `(tactic| walk_at "g") => `(tactic| (first
  | with_reducible refine g_seq ?_ | with_reducible refine g_asg ?_ | ((with_reducible show tVar _ _ _ _); refine g_var rfl ?_) | with_reducible refine g_c ?_ | with_reducible refine g_name ?_ | with_reducible refine g_op ?_ | with_reducible refine g_I0 ?_
  | with_reducible refine g_cons ?_ | with_reducible refine g_nil ?_ | with_reducible refine g_exbl ?_ | with_reducible refine g_exint ?_ | with_reducible refine g_test ?_ | with_reducible refine g_B ?_ | with_reducible refine g_ifS ?_ | with_reducible refine g_ret ?_ | with_reducible refine g_retN ?_ | with_reducible refine g_next ?_
  | with_reducible refine g_CB ?_ | with_reducible refine g_sub ?_ | with_reducible refine g_drop ?_ | with_reducible refine g_not ?_ | with_reducible refine g_and ?_ | with_reducible refine g_or ?_ | with_reducible refine g_andV ?_ | with_reducible refine g_orV ?_ | with_reducible refine g_notV ?_ | with_reducible refine g_ifE ?_ | with_reducible refine g_isN ?_
  | with_reducible refine g_par ?_ | with_reducible refine g_expar ?_ | with_reducible refine g_chain ?_ | with_reducible refine g_un ?_ | with_reducible refine g_U ?_ | with_reducible refine g_bits ?_ | ((with_reducible show rEq _ _ _ _); refine g_eq rfl ?_) | ((with_reducible show rNe _ _ _ _); refine g_ne rfl ?_)
  | with_reducible refine g_for ?_ | with_reducible refine g_iRng1 ?_ | with_reducible refine g_iRng2 ?_ | with_reducible refine g_iList ?_ | with_reducible refine g_iTup ?_
  | ((with_reducible refine g_Imul ?hc ?_); (case hc => (first | (refine Or.inl ⟨?_, ?_⟩ <;> first | decide | omega) | (refine Or.inr ⟨?_, ?_⟩ <;> first | decide | omega))))
  | ((with_reducible refine g_Idiv ?hc ?_); (case hc => (first | (exact ⟨by decide, by decide⟩) | assumption)))
  | ((with_reducible refine g_Imod ?hc ?_); (case hc => (first | assumption | omega | decide)))
  | ((with_reducible refine g_exR1 ?hlo ?hhi ?_); (case hlo => omega); (case hhi => omega))
  | ((with_reducible refine g_exR2 ?hb ?_); (case hb => omega))
  | with_reducible refine g_lst ?_ | with_reducible refine g_tup ?_ | with_reducible refine g_call ?_ | with_reducible refine g_BM ?_ | with_reducible refine g_BM0 ?_
  | with_reducible refine g_intB ?_ | with_reducible refine g_lc ?_ | with_reducible refine g_yes ?_ | with_reducible refine g_iZip ?_ | with_reducible refine g_sl ?_ | with_reducible refine g_noP ?_ | with_reducible refine g_part ?_ | with_reducible refine g_gcons ?_ | with_reducible refine g_gnil ?_
  | with_reducible refine g_tfld ?_ | with_reducible refine g_tmeth ?_ | with_reducible refine g_tmake ?_ | with_reducible refine g_sfld ?_ | with_reducible refine g_tprop ?_ | with_reducible refine g_tstar ?_ | with_reducible refine g_tmethK ?_ | with_reducible refine g_isN1 ?_ | with_reducible refine g_notN1 ?_ | with_reducible refine g_callK0 ?_ | with_reducible refine g_m1 ?_ | with_reducible refine g_isstr ?_ | with_reducible refine g_iStr ?_ | with_reducible refine g_exS ?_ | with_reducible refine g_iEnum ?_))
local macro_rules | `(tactic| walk_at "gs1") => `(tactic| (first
  | with_reducible refine g_seq ?_ | with_reducible refine g_asg ?_ | ((with_reducible show tVar _ _ _ _); refine g_var rfl ?_) | with_reducible refine g_c ?_ | with_reducible refine g_name ?_ | with_reducible refine g_op ?_ | with_reducible refine g_I0 ?_
  | with_reducible refine g_cons ?_ | with_reducible refine g_nil ?_ | with_reducible refine g_exbl ?_ | with_reducible refine g_exint ?_ | with_reducible refine g_test ?_ | with_reducible refine g_B ?_ | with_reducible refine g_ifS ?_ | with_reducible refine g_retN ?_ | with_reducible refine g_next ?_
  | with_reducible refine g_CB ?_ | with_reducible refine g_sub ?_ | with_reducible refine g_drop ?_ | with_reducible refine g_not ?_ | with_reducible refine g_and ?_ | with_reducible refine g_or ?_ | with_reducible refine g_andV ?_ | with_reducible refine g_orV ?_ | with_reducible refine g_notV ?_ | with_reducible refine g_ifE ?_ | with_reducible refine g_isN ?_
  | with_reducible refine g_par ?_ | with_reducible refine g_expar ?_ | with_reducible refine g_chain ?_ | with_reducible refine g_un ?_ | with_reducible refine g_U ?_ | with_reducible refine g_bits ?_ | ((with_reducible show rEq _ _ _ _); refine g_eq rfl ?_) | ((with_reducible show rNe _ _ _ _); refine g_ne rfl ?_)
  | with_reducible refine g_for ?_ | with_reducible refine g_iRng1 ?_ | with_reducible refine g_iRng2 ?_ | with_reducible refine g_iList ?_ | with_reducible refine g_iTup ?_
  | ((with_reducible refine g_Imul ?hc ?_); (case hc => (first | (refine Or.inl ⟨?_, ?_⟩ <;> first | decide | omega) | (refine Or.inr ⟨?_, ?_⟩ <;> first | decide | omega))))
  | ((with_reducible refine g_Idiv ?hc ?_); (case hc => (first | (exact ⟨by decide, by decide⟩) | assumption)))
  | ((with_reducible refine g_Imod ?hc ?_); (case hc => (first | assumption | omega | decide)))
  | ((with_reducible refine g_exR1 ?hlo ?hhi ?_); (case hlo => omega); (case hhi => omega))
  | ((with_reducible refine g_exR2 ?hb ?_); (case hb => omega))
  | with_reducible refine g_lst ?_ | with_reducible refine g_tup ?_ | with_reducible refine g_call ?_ | with_reducible refine g_BM ?_ | with_reducible refine g_BM0 ?_
  | with_reducible refine g_intB ?_ | with_reducible refine g_lc ?_ | with_reducible refine g_yes ?_ | with_reducible refine g_iZip ?_ | with_reducible refine g_sl ?_ | with_reducible refine g_noP ?_ | with_reducible refine g_part ?_ | with_reducible refine g_gcons ?_ | with_reducible refine g_gnil ?_
  | with_reducible refine g_tfld ?_ | with_reducible refine g_tmeth ?_ | with_reducible refine g_tmake ?_ | with_reducible refine g_sfld ?_ | with_reducible refine g_tprop ?_ | with_reducible refine g_tstar ?_ | with_reducible refine g_tmethK ?_ | with_reducible refine g_isN1 ?_ | with_reducible refine g_notN1 ?_ | with_reducible refine g_callK0 ?_ | with_reducible refine g_m1 ?_ | with_reducible refine g_isstr ?_ | with_reducible refine g_iStr ?_ | with_reducible refine g_exS ?_ | with_reducible refine g_iEnum ?_))
local macro_rules | `(tactic| walk_at "gx1") => `(tactic| (first
  | with_reducible refine g_seq ?_ | with_reducible refine g_asg ?_ | ((with_reducible show tVar _ _ _ _); refine g_var rfl ?_) | with_reducible refine g_c ?_ | with_reducible refine g_name ?_ | with_reducible refine g_op ?_ | with_reducible refine g_I0 ?_
  | with_reducible refine g_cons ?_ | with_reducible refine g_nil ?_ | with_reducible refine g_exbl ?_ | with_reducible refine g_exint ?_ | with_reducible refine g_test ?_ | with_reducible refine g_B ?_ | with_reducible refine g_ifS ?_ | with_reducible refine g_retN ?_ | with_reducible refine g_next ?_
  | with_reducible refine g_CB ?_ | with_reducible refine g_sub ?_ | with_reducible refine g_drop ?_ | with_reducible refine g_not ?_ | with_reducible refine g_and ?_ | with_reducible refine g_or ?_ | with_reducible refine g_andV ?_ | with_reducible refine g_orV ?_ | with_reducible refine g_notV ?_ | with_reducible refine g_ret ?_ | with_reducible refine g_isN ?_
  | with_reducible refine g_par ?_ | with_reducible refine g_expar ?_ | with_reducible refine g_chain ?_ | with_reducible refine g_un ?_ | with_reducible refine g_U ?_ | with_reducible refine g_bits ?_ | ((with_reducible show rEq _ _ _ _); refine g_eq rfl ?_) | ((with_reducible show rNe _ _ _ _); refine g_ne rfl ?_)
  | with_reducible refine g_for ?_ | with_reducible refine g_iRng1 ?_ | with_reducible refine g_iRng2 ?_ | with_reducible refine g_iList ?_ | with_reducible refine g_iTup ?_
  | ((with_reducible refine g_Imul ?hc ?_); (case hc => (first | (refine Or.inl ⟨?_, ?_⟩ <;> first | decide | omega) | (refine Or.inr ⟨?_, ?_⟩ <;> first | decide | omega))))
  | ((with_reducible refine g_Idiv ?hc ?_); (case hc => (first | (exact ⟨by decide, by decide⟩) | assumption)))
  | ((with_reducible refine g_Imod ?hc ?_); (case hc => (first | assumption | omega | decide)))
  | ((with_reducible refine g_exR1 ?hlo ?hhi ?_); (case hlo => omega); (case hhi => omega))
  | ((with_reducible refine g_exR2 ?hb ?_); (case hb => omega))
  | with_reducible refine g_lst ?_ | with_reducible refine g_tup ?_ | with_reducible refine g_call ?_ | with_reducible refine g_BM ?_ | with_reducible refine g_BM0 ?_
  | with_reducible refine g_intB ?_ | with_reducible refine g_lc ?_ | with_reducible refine g_yes ?_ | with_reducible refine g_iZip ?_ | with_reducible refine g_sl ?_ | with_reducible refine g_noP ?_ | with_reducible refine g_part ?_ | with_reducible refine g_gcons ?_ | with_reducible refine g_gnil ?_
  | with_reducible refine g_tfld ?_ | with_reducible refine g_tmeth ?_ | with_reducible refine g_tmake ?_ | with_reducible refine g_sfld ?_ | with_reducible refine g_tprop ?_ | with_reducible refine g_tstar ?_ | with_reducible refine g_tmethK ?_ | with_reducible refine g_isN1 ?_ | with_reducible refine g_notN1 ?_ | with_reducible refine g_callK0 ?_ | with_reducible refine g_m1 ?_ | with_reducible refine g_isstr ?_ | with_reducible refine g_iStr ?_ | with_reducible refine g_exS ?_ | with_reducible refine g_iEnum ?_))
local macro_rules | `(tactic| walk_at "hp") => `(tactic| (first | assumption | exact upd_same | (refine same_get (by assumption) ?_; walk_at "hp")))
local macro_rules | `(tactic| walk_at "sm") => `(tactic| (first | assumption | exact Same.refl _ | (refine Same.trans ?ha (by assumption); walk_at "sm")))
local macro_rules | `(tactic| walk_at "nn") => `(tactic| (first | assumption | (refine same_free (by assumption) ?_; walk_at "nn")))
local macro_rules | `(tactic| walk_at "sb") => `(tactic| (first | decide | (refine small_bits ?_ ?_ <;> omega)))
local macro_rules | `(tactic| walk_at "ln") => `(tactic| (simp only [List.length_cons, List.length_nil]; omega))
local macro_rules | `(tactic| walk_at "gg") => `(tactic| (repeat walk_at "g"))
local macro_rules | `(tactic| walk_at "gs") => `(tactic| (repeat walk_at "gs1"))
local macro_rules | `(tactic| walk_at "gx") => `(tactic| (repeat walk_at "gx1"))

local macro_rules | `(tactic| walk_at "g") => `(tactic| (first | with_reducible refine g_cX ?_ | with_reducible refine g_cKX ?_))
theorem fine_prs {ts : List Pr} {m : Nat} (h : ∀ t ∈ ts, smallI t.1 ∧ smallI t.2) (l : 3 * ts.length + 1 ≤ m) : Fine 2 m (.list (ts.map Gx.prD)) := by
  refine (fine_list (n := 1) (m := 3) fun d hd => ?_).mono (Nat.le_refl _) (by rw [List.length_map]; exact l)
  obtain ⟨t, ht, rfl⟩ := List.mem_map.mp hd
  have z := h t ht
  unfold smallI at z
  refine fine_tuple (n := 0) (m := 1) (xs := [.int t.1, .int t.2]) fun x hx => ?_
  rcases List.mem_cons.mp hx with e | hx
  · rw [e]
    exact fine_int (by omega) (by omega)
  · rw [List.mem_singleton.mp hx]
    exact fine_int (by omega) (by omega)
theorem fine_ns {ns : List Int} {m : Nat} (h : ∀ n ∈ ns, smallI n) (l : ns.length + 1 ≤ m) : Fine 2 m (.list (ns.map PyData.int)) := by
  refine (fine_list (n := 0) (m := 1) fun d hd => ?_).mono (by decide) (by rw [List.length_map]; omega)
  obtain ⟨n, hn, rfl⟩ := List.mem_map.mp hd
  have z := h n hn
  unfold smallI at z
  exact fine_int (by omega) (by omega)
/-- the three arguments, as they are shown -/
def scD (ks : List Int) (rs : List Pr) (ps : List Int) : PyData := .list [.list (ks.map PyData.int), .list (rs.map Gx.prD), .list (ps.map PyData.int)]
theorem fine_sc {ks : List Int} {rs : List Pr} {ps : List Int} (ck : chkL ks rs ps) (sk : ∀ k ∈ ks, smallI k) (sp : ∀ p ∈ ps, smallI p) (sr : ∀ r ∈ rs, smallI r.1 ∧ smallI r.2) : Fine 3 700 (scD ks rs ps) := by
  obtain ⟨_, l1, l2, l3⟩ := ck
  refine (fine_list (n := 2) (m := 201) (xs := [.list (ks.map PyData.int), .list (rs.map Gx.prD), .list (ps.map PyData.int)]) fun x hx => ?_).mono (by decide) (by simp)
  rcases List.mem_cons.mp hx with e | hx
  · rw [e]
    exact fine_ns sk (by omega)
  rcases List.mem_cons.mp hx with e | hx
  · rw [e]
    exact fine_prs sr (by omega)
  · rw [List.mem_singleton.mp hx]
    exact fine_ns sp (by omega)
theorem dp_pts {K : PySem.W.Frag} {H : Hp} {a : Addr} {ts : List Pr} (h : PtsL K H a ts) : Dp K H (.ref a) (.list (ts.map Gx.prD)) := by
  obtain ⟨xs, e, d⟩ := h
  exact .lst (SqL.of e) d
theorem g_rep47 {H : Hp} {Q : VK} {p : Addr} {xs : List V} {n : Int} (h : H p = some (.lst xs)) (h0 : 0 ≤ n) (h1 : n ≤ 1000) (hl : xs.length ≤ 100) (k : ∀ q H', H q = none → Same H H' → H' q = some (.lst (List.replicate n.toNat xs).flatten) → Q (.ref q) H') : rRep (.ref p) (.int n) H Q := by
  have e : sizeLine = 16777216 := sizeLine_eq
  have m : xs.length * n.toNat ≤ 100 * 1000 := Nat.mul_le_mul hl (by omega)
  exact ⟨p, n, xs, rfl, rfl, h, by omega, by omega, by omega, fun q hq => k q _ hq (same_new hq) upd_same⟩
theorem kI_map (ns : List Int) : kI (some (ns.map PyData.int)) = ns := by
  unfold kI
  rw [Option.getD_some, List.map_map]
  exact List.map_id _
theorem rP_map (ts : List Pr) : rP (some (ts.map Gx.prD)) = ts := by
  unfold rP
  rw [Option.getD_some, List.map_map]
  exact List.map_id _
theorem zip_lt {α : Type} {l : List α} {z : α × Nat} (hz : z ∈ l.zipIdx) : z.2 < l.length := by
  obtain ⟨k, hk⟩ := List.getElem?_of_mem hz
  rw [List.getElem?_zipIdx] at hk
  obtain ⟨x, hx, rfl⟩ := Option.map_eq_some_iff.mp hk
  have := (List.getElem?_eq_some_iff.mp hx).1
  simpa using this
theorem rows_small {ks : List Int} {rs : List Pr} {ps : List Int} (lr : rs.length ≤ 30) (lp : ps.length ≤ 30) : ∀ t ∈ (wishRows ks rs ps).map rowPr, smallI t.1 ∧ smallI t.2 := fun t ht => by
  obtain ⟨r, hr, rfl⟩ := List.mem_map.mp ht
  unfold wishRows at hr
  obtain ⟨z, hz, hr⟩ := List.mem_flatMap.mp hr
  unfold rowsOf at hr
  obtain ⟨y, hy, he⟩ := List.mem_filterMap.mp hr
  obtain ⟨q, _, rfl⟩ := Option.map_eq_some_iff.mp he
  have h1 := zip_lt hz
  have h2 := zip_lt hy
  unfold smallI rowPr
  dsimp only
  omega
theorem wish_len9 {ks : List Int} {rs : List Pr} {ps : List Int} (lr : rs.length ≤ 30) (lp : ps.length ≤ 30) : (wishRows ks rs ps).length ≤ 900 := by
  have h : ∀ q : Int × Nat, (rowsOf ks rs q.2 q.1).length ≤ 30 := fun q => by
    unfold rowsOf
    refine Nat.le_trans (List.length_filterMap_le _ _) ?_
    rw [List.length_zipIdx]
    exact lr
  have h2 := flat_len h ps.zipIdx
  unfold wishRows
  rw [List.length_zipIdx] at h2
  omega
theorem chosen_len {ps : List Int} {rows : List Wr} (no : blockedR ps rows = none) : (chosen ps rows).2.length ≤ rows.length := by
  obtain ⟨sel, h, _⟩ := chosen_sel no
  rw [h.pairs, List.length_map]
  have z : (srtW rows).length = rows.length := (List.mergeSort_perm rows _).length_eq
  have := h.sub.length_le
  omega
/-- what a call of the law's told gave -/
def ToldV (K : PySem.W.Frag) (ps : List Int) (rows : List Wr) (H : Hp) (D : Addr) (j : Nat) (v : V) : Prop :=
  (∀ r, blockedR ps rows = some r → ∃ t, v = .ref t ∧ H t = some (.tup [.str "impossible", .int r.i])) ∧
  (blockedR ps rows = none → j = 0 → ∃ (l : Addr) (ns : List Int), v = .ref l ∧ l ≠ D ∧ H l = some (.lst (ns.map V.int)) ∧ ns.Perm (chosen ps rows).1 ∧ ns.Pairwise (· ≤ ·)) ∧
  (blockedR ps rows = none → j ≠ 0 → ∃ (l : Addr) (ts : List Pr), v = .ref l ∧ l ≠ D ∧ PtsL K H l ts ∧ ts.Perm (chosen ps rows).2 ∧ Up ts)
theorem ToldV.smT {K : PySem.W.Frag} {ps : List Int} {rows : List Wr} {H H' : Hp} {D : Addr} {j : Nat} {v : V} (h : ToldV K ps rows H D j v) (s : SmT H H') : ToldV K ps rows H' D j v := by
  obtain ⟨a, b, c⟩ := h
  refine ⟨fun r hr => ?_, fun no z => ?_, fun no z => ?_⟩
  · obtain ⟨t, e, ht⟩ := a r hr
    exact ⟨t, e, s.tup ht⟩
  · obtain ⟨l, ns, e, nl, hl, r⟩ := b no z
    exact ⟨l, ns, e, nl, s.lst hl, r⟩
  · obtain ⟨l, ts, e, nl, hl, r⟩ := c no z
    exact ⟨l, ts, e, nl, hl.kp s.kp, r⟩
theorem ToldV.but {K : PySem.W.Frag} {ps : List Int} {rows : List Wr} {H H' : Hp} {D : Addr} {j : Nat} {v : V} {xs : List V} (h : ToldV K ps rows H D j v) (hD : H D = some (.lst xs)) (s : But D H H') : ToldV K ps rows H' D j v := by
  obtain ⟨a, b, c⟩ := h
  refine ⟨fun r hr => ?_, fun no z => ?_, fun no z => ?_⟩
  · obtain ⟨t, e, ht⟩ := a r hr
    exact ⟨t, e, s _ _ (fun z => by rw [z, hD] at ht; cases ht) ht⟩
  · obtain ⟨l, ns, e, nl, hl, r⟩ := b no z
    exact ⟨l, ns, e, nl, s _ _ nl hl, r⟩
  · obtain ⟨l, ts, e, nl, hl, r⟩ := c no z
    exact ⟨l, ts, e, nl, dtl_but (β := Pr) hD s nl hl, r⟩
def spRight47 (K : PySem.W.Frag) (TT : List (Addr × Str)) : Sp := fun vs H Q _ => ∃ (a b c : Addr) (ks : List Int) (rs : List Pr) (ps : List Int), vs = [.ref a, .ref b, .ref c] ∧ H a = some (.lst (ks.map V.int)) ∧ PtsL K H b rs ∧ H c = some (.lst (ps.map V.int)) ∧ chkL ks rs ps ∧ Tabs TT H ∧
  (∀ k ∈ ks, smallI k) ∧ (∀ p ∈ ps, smallI p) ∧ (∀ r ∈ rs, smallI r.1 ∧ smallI r.2) ∧ ∀ H', SmT H H' → Tabs TT H' → Q (.bl true) H'
section
variable {P : Program} {w : World} {K : PySem.W.Frag} {mg : Str → Option Value} {base : Heap} {X : Cx} {H : Hp}
abbrev s_right : Stmt := top 34
abbrev N_right : List Str := ["_law_some_keys", "_law_spans", "_law_some_puts", "_law_wishes_here", "_law_kept", "_law_due", "_law_told_here", "_law_found", "_law_blocked_here", "_law_pair", "_law_wish_here", "_law_door"]
theorem sc_right : FnScope N_right ["_law_some_keys", "_law_spans", "_law_some_puts"] (defScope s_right) := ⟨rfl, rfl, rfl, by decide +kernel, rfl, by decide +kernel, by decide +kernel⟩

theorem ok_right47 {f CE CR : Addr} {fd : FuncData} {TT : List (Addr × Str)} (D : Dn K mg "_law_right" s_right ["_law_some_keys", "_law_spans", "_law_some_puts"] f fd) (T : Bt mg) (c__law_wishes : Cal P w K mg base 2 "_law_wishes" (spLWishes K) []) (c__law_by_steps : Cal P w K mg base 1 "_law_by_steps" (spSteps K) [])
    (c_needless : CalXN P w K mg base 4 "needless" (spNeed K CE CR)) (k_needless : CalKXN P w K mg base 4 "needless" ["ranges", "puts", "keys"] (permV 3 [2, 0, 1]) (spNeed K CE CR)) (c__law_told : Cal P w K mg base 5 "_law_told" (spTold47 K TT) []) (c__law_blocked : Cal P w K mg base 2 "_law_blocked" (spBlocked K) [])
    (c__law_hits : Cal P w K mg base 1 "_law_hits" (spHits K) []) (c__law_apart : Cal P w K mg base 2 "_law_apart" (spApartW K) []) (c_shows_spacers : CalXN P w K mg base 4 "shows_spacers" (spShowS K CE CR)) (c_shows_separate : CalXN P w K mg base 4 "shows_separate" (spShowT K CE CR)) :
    FnG P w K mg base 6 f fd ["_law_some_keys", "_law_spans", "_law_some_puts"] (spRight47 K TT) := by
  refine fnG_of D.fn sc_right (fun vs H Q E h => ?_) (fun cdv A outer s H vs Q E gd hr h => ?_)
  · obtain ⟨a, b, c, ks, rs, ps, rfl, _⟩ := h
    rfl
  · obtain ⟨a, b, c, ks, rs, ps, rfl, ha, hb, hc, ck, hT, sk, sp, sr, k⟩ := h
    refine ⟨_, (pss_cons (ps_par (i := 3) (j := 4) (by rfl) sc_right.nd rfl rfl (by decide) rfl rfl (pa_cons (pe_c c__law_wishes hr (by decide) (by rfl) (pa_cons (pv 0) (pa_cons (pv 1) (pa_cons (pv 2) pa_nil)))) (pa_cons (pe_callB (cr_repr gd hr) (by rfl) T.n_repr bt_repr (pa_cons (pe_lst (pa_cons (pv 0) (pa_cons (pv 1) (pa_cons (pv 2) pa_nil)))) pa_nil)) pa_nil)) (by rfl))
    (pss_cons (ps_set (i := 5) sc_right.nd rfl (Or.inl rfl) (pe_c c__law_by_steps hr (by decide) (by rfl) (pa_cons (pv 0) (pa_cons (pv 1) (pa_cons (pv 2) pa_nil)))))
    (pss_cons (ps_set (i := 6) sc_right.nd rfl (Or.inl rfl) (pe_lst (pa_cons (pe_cXN (E := fun _ _ _ _ => False) c_needless hr (by decide) (by rfl) passNN (pa_cons (pv 0) (pa_cons (pv 1) (pa_cons (pv 2) pa_nil)))) (pa_cons (pe_cKXN (E := fun _ _ _ _ => False) k_needless hr (by decide) (by rfl) passNN (pk_cons (pv 1) (pk_cons (pv 2) (pk_cons (pv 0) pk_nil)))) pa_nil))))
    (pss_cons (ps_if (PW.pt (pw_or (pt_cmpR op_ne (pe_callB (cr_repr gd hr) (by rfl) T.n_repr bt_repr (pa_cons (pv 6) pa_nil)) (pe_callB (cr_repr gd hr) (by rfl) T.n_repr bt_repr (pa_cons (pe_lst (pa_cons (pv 5) (pa_cons (pv 5) pa_nil))) pa_nil)) (nomark _)) (pw_or1 (pt_cmpR (op_neD hr.units) (pe_lc (own := [("_law_pair", 9), ("_law_wish_here", 10)]) (g := gTup K 2 (gCons (gName 9) (gCons (gName 10) gNil))) (tt := tYes) rfl sc_right.nd (pi_list (pv 3)) (blkOk_by (own := [("_law_pair", 9), ("_law_wish_here", 10)]) (N := N_right) (sc := defScope s_right) (by decide +kernel)) (fun _ _ _ _ _ => (pg_tup (by rfl) (pgs_cons (pg_name (i := 9) sc_right.nd rfl (Or.inl rfl)) (pgs_cons (pg_name (i := 10) sc_right.nd rfl (Or.inl rfl)) pgs_nil)))) (fun _ _ _ _ _ => pts_nil) (fun _ _ _ _ _ => (pv 9))) (pv 5) (nomark _))))) (pss_one (ps_ret pe_bl)) pss_nil)
    (pss_cons (ps_setLc (i := 7) (own := [("_law_door", 11)]) (g := gName 11) (tt := tYes) rfl sc_right.nd rfl rfl (sw_true rfl rfl rfl (by decide +kernel)) (pi_range1 (by rfl) T.n_range (pa_cons pe_int pa_nil)) (blkOk_by (own := [("_law_door", 11)]) (N := N_right) (sc := defScope s_right) (by decide +kernel)) (fun _ _ _ _ _ => pg_name (i := 11) sc_right.nd rfl (Or.inl rfl)) (fun _ _ _ _ _ => pts_nil) (fun _ _ _ _ _ => (pe_c c__law_told hr (by decide) (by rfl) (pa_cons (pv 11) (pa_cons (pv 0) (pa_cons (pv 1) (pa_cons (pv 2) pa_nil)))))))
    (pss_cons (ps_set (i := 8) sc_right.nd rfl (Or.inl rfl) (pe_c c__law_blocked hr (by decide) (by rfl) (pa_cons (pv 3) (pa_cons (pv 2) pa_nil))))
    (pss_cons (ps_if (pt_cmpR op_notN1 (pv 8) pe_non (nomark _)) (pss_one (ps_ret (pe_and (pe_cmpR (op_eqD hr.units) (pv 7) (pe_op op_rep (pe_lst (pa_cons (pe_tup (pa_cons pe_str (pa_cons (pv 8) pa_nil))) pa_nil)) pe_int) (nomark _)) (pe_one (pe_cmpR op_eq (pe_callB (cr_repr gd hr) (by rfl) T.n_repr bt_repr (pa_cons (pe_lst (pa_cons (pv 0) (pa_cons (pv 1) (pa_cons (pv 2) pa_nil)))) pa_nil)) (pv 4) (nomark _)))))) pss_nil)
    (pss_cons (ps_if (PW.pt (pw_or (pt_not (pt_val (pe_c c__law_hits hr (by decide) (by rfl) (pa_cons (pe_ix ix_list (pv 7) pe_int (fun _ _ => rfl)) (pa_cons (pv 3) (pa_cons (pv 2) pa_nil)))))) (pw_or1 (pt_not (pt_val (pe_c c__law_apart hr (by decide) (by rfl) (pa_cons (pe_ix ix_list (pv 7) pe_int (fun _ _ => rfl)) (pa_cons (pv 3) (pa_cons (pv 2) pa_nil))))))))) (pss_one (ps_ret pe_bl)) pss_nil)
    (pss_cons (ps_if (PW.pt (pw_or (pt_cmpR op_ne (pe_callB cr_lenQ (by rfl) T.n_len bt_len (pa_cons (pe_ix ix_list (pv 7) pe_int (fun _ _ => rfl)) pa_nil)) (pe_callB cr_lenQ (by rfl) T.n_len bt_len (pa_cons (pe_ix ix_list (pv 7) pe_int (fun _ _ => rfl)) pa_nil)) (nomark _)) (pw_or1 (pt_cmpR op_notBl (pe_cXN (E := fun _ _ _ _ => False) c_shows_spacers hr (by decide) (by rfl) passNN (pa_cons (pv 0) (pa_cons (pv 1) (pa_cons (pv 2) (pa_cons (pe_ix ix_list (pv 7) pe_int (fun _ _ => rfl)) pa_nil))))) pe_bl (nomark _))))) (pss_one (ps_ret pe_bl)) pss_nil)
    (pss_cons (ps_if (pt_cmpR op_notBl (pe_cXN (E := fun _ _ _ _ => False) c_shows_separate hr (by decide) (by rfl) passNN (pa_cons (pv 0) (pa_cons (pv 1) (pa_cons (pv 2) (pa_cons (pe_ix ix_list (pv 7) pe_int (fun _ _ => rfl)) pa_nil))))) pe_bl (nomark _)) (pss_one (ps_ret pe_bl)) pss_nil)
    (pss_one (ps_ret (pe_cmpR op_eq (pe_callB (cr_repr gd hr) (by rfl) T.n_repr bt_repr (pa_cons (pe_lst (pa_cons (pv 0) (pa_cons (pv 1) (pa_cons (pv 2) pa_nil)))) pa_nil)) (pv 4) (nomark _)))))))))))))), ?_⟩
    obtain ⟨c0, lk, lr, lp⟩ := id ck
    walk_at "gg"
    refine ⟨a, b, c, ks, rs, ps, rfl, ha, hb, hc, by omega, lr, lp, fun lw xl H1 n1 S1 e1 d1 => ?_⟩
    walk_at "gg"
    refine g_mkL (by walk_at "ln") fun l2 H2 n2 S2 e2 => ?_
    walk_at "gg"
    refine g_repr (.lst (SqL.of e2) (.cons (.lst (SqL.of ((S1.trans S2) _ _ ha)) (dpAll_ints ks)) (.cons (dp_pts (hb.same (S1.trans S2))) (.cons (.lst (SqL.of ((S1.trans S2) _ _ hc)) (dpAll_ints ps)) .nil)))) (fine_sc ck sk sp sr) (by decide) (by decide) ?_
    walk_at "gg"
    have S02 := S1.trans S2
    refine ⟨a, b, c, ks, rs, ps, rfl, S02 _ _ ha, hb.same S02, S02 _ _ hc, by omega, lr, lp, sp, sr, fun l3 H3 n3 S3 e3 => ?_⟩
    have S03 := S02.trans S3
    have wl := wish_len9 (ks := ks) lr lp
    have wsm := rows_small (ks := ks) lr lp
    walk_at "gg"
    refine ⟨_, _, _, _, _, _, rfl, thI (S03 _ _ ha) (by omega), thP (hb.same S03) (by omega), thI (S03 _ _ hc) (by omega), fun _ l4 H4 n4 S4 e4 => ?_, fun z => by omega, fun z => by omega⟩
    rw [kI_map, rP_map, kI_map] at e4
    walk_at "gg"
    have S04 := S03.trans S4
    refine ⟨_, _, _, _, _, _, rfl, thI (S04 _ _ ha) (by omega), thP (hb.same S04) (by omega), thI (S04 _ _ hc) (by omega), fun _ l5 H5 n5 S5 e5 => ?_, fun z => by omega, fun z => by omega⟩
    rw [kI_map, rP_map, kI_map] at e5
    walk_at "gg"
    refine g_mkL (by walk_at "ln") fun l6 H6 n6 S6 e6 => ?_
    walk_at "gg"
    have S46 := S5.trans S6
    have S36 := S4.trans S46
    have f2 : Fine 3 5500 (.list [.list (((wishRows ks rs ps).map rowPr).map Gx.prD), .list (((wishRows ks rs ps).map rowPr).map Gx.prD)]) := by
      have z := fine_prs wsm (m := 2701) (by rw [List.length_map]; omega)
      refine (fine_list (n := 2) (m := 2701) fun x hx => ?_).mono (by decide) (by simp)
      rcases List.mem_cons.mp hx with e | hx
      · rw [e]
        exact z
      · rw [List.mem_singleton.mp hx]
        exact z
    refine g_repr (.lst (SqL.of e6) (.cons (dp_pts (e4.same S46)) (.cons (dp_pts (e5.same S6)) .nil))) f2 (by decide) (by decide) ?_
    walk_at "gg"
    refine g_mkL (by walk_at "ln") fun l7 H7 n7 S7 e7 => ?_
    walk_at "gg"
    have S37 := S36.trans S7
    refine g_repr (.lst (SqL.of e7) (.cons (dp_pts (e3.same S37)) (.cons (dp_pts (e3.same S37)) .nil))) f2 (by decide) (by decide) ?_
    walk_at "gg"
    have y1 : ∀ z : Str, (!decide (V.str z = V.str z)) = false := fun z => by simp
    refine g_ifF (by first | exact y1 _ | simp) ?_
    walk_at "gg"
    have S07 := S03.trans S37
    have W7 : DtL K H7 lw (β := Wl) (wishRows ks rs ps) := ⟨xl, (((S2.trans S3).trans S37)) _ _ e1, dp_sameAll ((S2.trans S3).trans S37) _ _ d1⟩
    refine ⟨lw, rfl, ?_⟩
    refine lc_someL (γ := Pr) W7 (Nat.le_trans wl (by decide)) (fun r => some (wpr r)) (fun x r H' Nx No _ dx S ky kn => ?_) fun p8 H8 n8 S8 e8 => ?_
    · obtain ⟨t0, t1, t2, rfl, h0, h1, h2⟩ := wl_at dx
      refine g_gtup h0 rfl ?_
      walk_at "gg"
      refine ⟨rfl, ?_⟩
      walk_at "gg"
      refine g_ifT rfl ?_
      walk_at "gg"
      exact ky _ (wpr r) _ (Same.refl _) rfl (.tup h1 (.cons (.int _) (.cons (.int _) .nil)))
    rw [show (wishRows ks rs ps).filterMap (fun r => some (wpr r)) = (wishRows ks rs ps).map rowPr by rw [← List.filterMap_eq_map]; rfl] at e8
    walk_at "gg"
    refine g_neL (β := Pr) e8 (e3.same (S37.trans S8)) ?_
    refine ⟨_, rfl, ?_⟩
    refine g_ifF (by simp) ?_
    walk_at "gg"
    have S08 := S07.trans S8
    have W8 := W7.same S8
    have T8 := tabs_same hT S08
    have ha8 := S08 _ _ ha
    have hb8 := hb.same S08
    have hc8 := S08 _ _ hc
    clear e1 e2 e3 e4 e5 e6 e7 e8 d1 f2 wsm n1 n2 n3 n4 n5 n6 n7 n8 S1 S2 S3 S4 S5 S6 S7 S8 S02 S03 S04 S46 S36 S37 S07 W7
    refine lc_chgR (by decide) (fun D i acc H' => SmT H8 H' ∧ Tabs TT H' ∧ H8 D = none ∧ H' D = some (.lst acc) ∧ acc.length = i ∧ ∀ (j : Nat) v, acc[j]? = some v → ToldV K ps (wishRows ks rs ps) H' D j v) (fun D n => ⟨Same.smT (same_new n), tabs_same T8 (same_new n), n, upd_same, rfl, fun j v z => by simp at z⟩) (fun D i acc H' h => ⟨h.2.2.2.1, h.2.2.2.2.1⟩) (fun D i acc H' Nx hi ⟨X, T', nD, eD, la, hv⟩ kx => ?_) fun D acc H9 n9 ⟨X9, T9, _, eD, la, hv⟩ => ?_
    · walk_at "gg"
      refine ⟨rfl, ?_⟩
      walk_at "gg"
      have nxt : ∀ (y : V) (H4 : Hp), SmT H' H4 → Tabs TT H4 → ToldV K ps (wishRows ks rs ps) H4 D i y → Nx y H4 := fun y H4 X4 T4 v4 => by
        have e4 := X4.lst eD
        refine kx y H4 e4 ⟨smT_but (ExtN.trans X X4) nD (but_same (Same.refl _)), tabs_butL T4 e4 (but_same (Same.refl _)), nD, upd_same, by rw [List.length_append, la]; rfl, fun j v z => ?_⟩
        by_cases c : j < acc.length
        · rw [List.getElem?_append_left c] at z
          exact ((hv j v z).smT X4).but e4 (but_same (Same.refl _))
        · rw [List.getElem?_append_right (by omega)] at z
          have j0 : j - acc.length = 0 := by
            have := (List.getElem?_eq_some_iff.mp z).1
            simp at this
            omega
          rw [j0] at z
          obtain rfl := Option.some.inj z
          rw [show j = i by omega]
          exact v4.but e4 (but_same (Same.refl _))
      refine ⟨a, b, c, _, ks, rs, ps, rfl, X.lst ha8, hb8.kp X.kp, X.lst hc8, ck, T', fun r hr0 t H4 X4 T4 e4 => ?_, fun no dz l ns H4 nl X4 T4 e4 pm up => ?_, fun no dz l ts H4 nl X4 T4 e4 pm up => ?_⟩
      · exact nxt _ _ X4 T4 ⟨fun r2 h2 => ⟨t, rfl, by rw [hr0] at h2; rw [← Option.some.inj h2]; exact e4⟩, fun no => by rw [hr0] at no; (cases no), fun no => by rw [hr0] at no; (cases no)⟩
      · exact nxt _ _ X4 T4 ⟨fun r2 h2 => (by rw [no] at h2; cases h2), fun _ _ => ⟨l, ns, rfl, fun z => nl _ (z ▸ eD), e4, pm, up⟩, fun _ z => absurd (by omega) z⟩
      · exact nxt _ _ X4 T4 ⟨fun r2 h2 => (by rw [no] at h2; cases h2), fun _ z => absurd (by omega) dz, fun _ _ => ⟨l, ts, rfl, fun z => nl _ (z ▸ eD), e4, pm, up⟩⟩
    walk_at "gg"
    have z9 : SmT H8 H9 := X9
    have W9 : DtL K H9 lw (β := Wl) (wishRows ks rs ps) := W8.kp X9.kp
    have ha9 := X9.lst ha8
    have hb9 := hb8.kp X9.kp
    have hc9 := X9.lst hc8
    refine ⟨lw, c, wishRows ks rs ps, ps, rfl, W9, hc9, Nat.le_trans wl (by decide), by omega, fun v H10 S10 dv => ?_⟩
    have bf : (List.find? (fun r : Wl => !freeI ps (wiv r).1 (wiv r).2) (wishRows ks rs ps)).map (fun r => (wpr r).1) = (blockedR ps (wishRows ks rs ps)).map fun r => r.i := by
      rw [blocked_free]
      rfl
    rw [bf] at dv
    have X10 : SmT H H10 := ExtN.trans (Same.smT S08) (ExtN.trans X9 (Same.smT S10))
    have T10 := tabs_same T9 S10
    have ha10 := S10 _ _ ha9
    have hb10 := hb9.same S10
    have hc10 := S10 _ _ hc9
    have W10 := W9.same S10
    have eD10 := S10 _ _ eD
    obtain ⟨v0, v1, rfl⟩ : ∃ v0 v1, acc = [v0, v1] := by
      match acc, la with
      | [x, y], _ => exact ⟨x, y, rfl⟩
    have t0 := (hv 0 v0 rfl).smT (Same.smT S10)
    have t1 := (hv 1 v1 rfl).smT (Same.smT S10)
    have fsc := fine_sc ck sk sp sr
    clear hv S08 X9 T9 eD W9 ha9 hb9 hc9 W8 ha8 hb8 hc8 T8 z9 la hT ha hb hc S10 n9
    have kr : ∀ (z : Str) (H' : Hp), SmT H H' → Tabs TT H' → Q (.bl (decide (V.str z = V.str z))) H' := fun z H' x t => by
      rw [decide_eq_true rfl]
      exact k _ x t
    cases bl : blockedR ps (wishRows ks rs ps) with
    | some r =>
      obtain ⟨q0, rfl, e0⟩ := t0.1 r bl
      obtain ⟨q1, rfl, e1⟩ := t1.1 r bl
      rw [bl] at dv
      cases dv with
      | int =>
      walk_at "gg"
      refine g_ifT (by simp) ?_
      walk_at "gg"
      refine g_mkT (by walk_at "ln") fun p11 H11 n11 S11 e11 => ?_
      walk_at "gg"
      refine g_mkL (by walk_at "ln") fun p12 H12 n12 S12 e12 => ?_
      walk_at "gg"
      refine g_rep47 e12 (by omega) (by omega) (by simp) fun p13 H13 n13 S13 e13 => ?_
      have S1013 := (S11.trans S12).trans S13
      have du : Dp K H13 (.ref p11) (.tuple [.str "impossible", .int r.i]) := .tup (SqT.of ((S12.trans S13) _ _ e11)) (.cons (.str _) (.cons (.int _) .nil))
      have d0 : Dp K H13 (.ref q0) (.tuple [.str "impossible", .int r.i]) := .tup (SqT.of (S1013 _ _ e0)) (.cons (.str _) (.cons (.int _) .nil))
      have d1 : Dp K H13 (.ref q1) (.tuple [.str "impossible", .int r.i]) := .tup (SqT.of (S1013 _ _ e1)) (.cons (.str _) (.cons (.int _) .nil))
      have b1 : bare (.list [.tuple [.str "impossible", .int r.i], .tuple [.str "impossible", .int r.i]]) = true := by simp [bare, bareAll]
      have s1 : SeqAt.shaped (.list [.tuple [.str "impossible", .int r.i], .tuple [.str "impossible", .int r.i]]) = true := by
        simp [SeqAt.shaped, PyData.canLay0, PyData.canLayAll0, PyData.depth, PyData.depthAll]
        decide +kernel
      refine g_eqD (.lst (SqL.of (S1013 _ _ eD10)) (.cons d0 (.cons d1 .nil))) (.lst (SqL.of e13) (.cons du (.cons du .nil))) s1 s1 ?_
      rw [eqv_yes b1 b1 rfl]
      walk_at "gg"
      refine g_ifT rfl ?_
      walk_at "gg"
      refine g_mkL (by walk_at "ln") fun p14 H14 n14 S14 e14 => ?_
      walk_at "gg"
      have S1014 := S1013.trans S14
      refine g_repr (.lst (SqL.of e14) (.cons (.lst (SqL.of (S1014 _ _ ha10)) (dpAll_ints ks)) (.cons (dp_pts (hb10.same S1014)) (.cons (.lst (SqL.of (S1014 _ _ hc10)) (dpAll_ints ps)) .nil)))) fsc (by decide) (by decide) ?_
      walk_at "gg"
      exact kr _ _ (ExtN.trans X10 (Same.smT S1014)) (tabs_same T10 S1014)
    | none =>
      obtain ⟨q0, ns, rfl, _, e0, pm0, up0⟩ := t0.2.1 bl rfl
      obtain ⟨q1, ts, rfl, _, e1, pm1, up1⟩ := t1.2.2 bl (by decide)
      rw [bl] at dv
      cases dv
      have ro := rows_up ks rs ps
      have gh := good_hits ro bl pm0 up0
      have ga := good_apart ro bl pm1 up1
      have ss : showS ks rs ps (some (ns.map PyData.int)) = true := by rw [showS_hits]; exact gh.1
      have st := good_showT bl pm1 up1
      have cl := chosen_len bl
      have ln0 : ns.length ≤ 900 := by rw [gh.2]; omega
      have ln1 : ts.length = ns.length := by rw [gh.2, pm1.length_eq]
      walk_at "gg"
      refine g_ifF (by simp) ?_
      walk_at "gg"
      refine g_ixL (SqL.of eD10) rfl ?_
      walk_at "gg"
      refine ⟨q0, lw, c, ns, wishRows ks rs ps, ps, rfl, e0, W10, hc10, by omega, fun H11 S11 => ?_⟩
      rw [gh.1]
      refine ⟨true, rfl, ?_⟩
      refine g_ifF rfl ?_
      walk_at "gg"
      refine g_ixL (SqL.of (S11 _ _ eD10)) rfl ?_
      walk_at "gg"
      refine ⟨q1, lw, c, ts, wishRows ks rs ps, ps, rfl, e1.same S11, W10.same S11, S11 _ _ hc10, by omega, Nat.le_trans wl (by decide), by omega, fun H12 S12 => ?_⟩
      rw [ga]
      refine ⟨true, rfl, ?_⟩
      refine g_ifF rfl ?_
      walk_at "gg"
      have S1012 := S11.trans S12
      have e12 : DtL K H12 q1 (β := Pr) ts := e1.same S1012
      refine g_ixL (SqL.of (S1012 _ _ eD10)) rfl ?_
      walk_at "gg"
      refine g_lenD (β := Pr) e12 ?_
      walk_at "gg"
      refine g_ixL (SqL.of (S1012 _ _ eD10)) rfl ?_
      walk_at "gg"
      refine g_len (SqL.of (S1012 _ _ e0)) ?_
      rw [List.length_map, ln1]
      walk_at "gg"
      refine g_ifF (by simp) ?_
      walk_at "gg"
      refine g_ixL (SqL.of (S1012 _ _ eD10)) rfl ?_
      walk_at "gg"
      refine ⟨_, _, _, _, _, _, _, _, rfl, thI (S1012 _ _ ha10) (by omega), thP (hb10.same S1012) (by omega), thI (S1012 _ _ hc10) (by omega), thI (S1012 _ _ e0) (by omega), fun _ H13 S13 => ?_, fun z => by omega, fun z => by omega⟩
      rw [kI_map, rP_map, kI_map, ss]
      walk_at "gg"
      refine ⟨true, true, rfl, rfl, ?_⟩
      refine ⟨_, rfl, ?_⟩
      refine g_ifF rfl ?_
      walk_at "gg"
      have S1013 := S1012.trans S13
      refine g_ixL (SqL.of (S1013 _ _ eD10)) rfl ?_
      walk_at "gg"
      refine ⟨_, _, _, _, _, _, _, _, rfl, thI (S1013 _ _ ha10) (by omega), thP (hb10.same S1013) (by omega), thI (S1013 _ _ hc10) (by omega), thP (e1.same S1013) (by omega), fun _ H14 S14 => ?_, fun z => by omega, fun z => by omega⟩
      rw [kI_map, rP_map, kI_map, st]
      walk_at "gg"
      refine ⟨true, true, rfl, rfl, ?_⟩
      refine ⟨_, rfl, ?_⟩
      refine g_ifF rfl ?_
      walk_at "gg"
      refine g_mkL (by walk_at "ln") fun p15 H15 n15 S15 e15 => ?_
      walk_at "gg"
      have S1015 := (S1013.trans S14).trans S15
      refine g_repr (.lst (SqL.of e15) (.cons (.lst (SqL.of (S1015 _ _ ha10)) (dpAll_ints ks)) (.cons (dp_pts (hb10.same S1015)) (.cons (.lst (SqL.of (S1015 _ _ hc10)) (dpAll_ints ps)) .nil)))) fsc (by decide) (by decide) ?_
      walk_at "gg"
      exact kr _ _ (ExtN.trans X10 (Same.smT S1015)) (tabs_same T10 S1015)
end
end Gk

/-! powers of greater bases -/
namespace Gx
open PySem L2
def CPowB (i j : Int) : Prop := 0 ≤ j ∧ j ≤ 10000 ∧ i.natAbs < 2 ^ 1000
theorem op_powB {X : Cx} : OpR X (binaryOp .Pow) (rI CPowB fun i j => .int (i ^ j.toNat)) := opI fun i j _ _ _ _ _ hc q => PyProof.Rows.pow_int hc.1 (by
  have hb : Builtin.Int.intBits i ≤ 1000 := PyProof.Rows.intBits_le hc.2.2
  have h1 : (Builtin.Int.intBits i : Int) * j ≤ 1000 * j := Int.mul_le_mul_of_nonneg_right (by omega) hc.1
  have := hc.2.1
  omega) q
theorem g_powB {a b : Int} {H : Hp} {Q : VK} (hc : CPowB a b) (q : Q (.int (a ^ b.toNat)) H) : rI CPowB (fun i j => .int (i ^ j.toNat)) (.int a) (.int b) H Q := ⟨a, b, rfl, rfl, hc, q⟩
end Gx

/-! the tape of draws of the laws of spacers (k47 to k49) -/
namespace Gk
open PySem L2 Gx
open C8 (Cal Met Mak pe_c pe_mt pe_mt0 pe_mk pe_gc)
local macro_rules | `(tactic| walk_at "g") => `(tactic| (first
  | with_reducible refine g_seq ?_ | with_reducible refine g_asg ?_ | ((with_reducible show tVar _ _ _ _); refine g_var rfl ?_) | with_reducible refine g_c ?_ | with_reducible refine g_name ?_ | with_reducible refine g_op ?_ | with_reducible refine g_I0 ?_
  | with_reducible refine g_cons ?_ | with_reducible refine g_nil ?_ | with_reducible refine g_exbl ?_ | with_reducible refine g_exint ?_ | with_reducible refine g_test ?_ | with_reducible refine g_B ?_ | with_reducible refine g_ifS ?_ | with_reducible refine g_ret ?_ | with_reducible refine g_retN ?_ | with_reducible refine g_next ?_
  | with_reducible refine g_CB ?_ | with_reducible refine g_sub ?_ | with_reducible refine g_drop ?_ | with_reducible refine g_not ?_ | with_reducible refine g_and ?_ | with_reducible refine g_or ?_ | with_reducible refine g_andV ?_ | with_reducible refine g_orV ?_ | with_reducible refine g_notV ?_ | with_reducible refine g_ifE ?_ | with_reducible refine g_isN ?_
  | with_reducible refine g_par ?_ | with_reducible refine g_expar ?_ | with_reducible refine g_chain ?_ | with_reducible refine g_un ?_ | with_reducible refine g_U ?_ | with_reducible refine g_bits ?_ | ((with_reducible show rEq _ _ _ _); refine g_eq rfl ?_) | ((with_reducible show rNe _ _ _ _); refine g_ne rfl ?_)
  | with_reducible refine g_for ?_ | with_reducible refine g_iRng1 ?_ | with_reducible refine g_iRng2 ?_ | with_reducible refine g_iList ?_ | with_reducible refine g_iTup ?_
  | ((with_reducible refine g_Imul ?hc ?_); (case hc => (first | (refine Or.inl ⟨?_, ?_⟩ <;> first | decide | omega) | (refine Or.inr ⟨?_, ?_⟩ <;> first | decide | omega))))
  | ((with_reducible refine g_Idiv ?hc ?_); (case hc => (first | (exact ⟨by decide, by decide⟩) | assumption)))
  | ((with_reducible refine g_Imod ?hc ?_); (case hc => (first | assumption | omega | decide)))
  | ((with_reducible refine g_exR1 ?hlo ?hhi ?_); (case hlo => omega); (case hhi => omega))
  | ((with_reducible refine g_exR2 ?hb ?_); (case hb => omega))
  | with_reducible refine g_lst ?_ | with_reducible refine g_tup ?_ | with_reducible refine g_call ?_ | with_reducible refine g_BM ?_ | with_reducible refine g_BM0 ?_
  | with_reducible refine g_intB ?_ | with_reducible refine g_lc ?_ | with_reducible refine g_yes ?_ | with_reducible refine g_iZip ?_ | with_reducible refine g_sl ?_ | with_reducible refine g_noP ?_ | with_reducible refine g_part ?_ | with_reducible refine g_gcons ?_ | with_reducible refine g_gnil ?_
  | with_reducible refine g_tfld ?_ | with_reducible refine g_tmeth ?_ | with_reducible refine g_tmake ?_ | with_reducible refine g_sfld ?_ | with_reducible refine g_tprop ?_ | with_reducible refine g_tstar ?_ | with_reducible refine g_tmethK ?_ | with_reducible refine g_isN1 ?_ | with_reducible refine g_notN1 ?_ | with_reducible refine g_callK0 ?_ | with_reducible refine g_m1 ?_ | with_reducible refine g_isstr ?_ | with_reducible refine g_iStr ?_ | with_reducible refine g_exS ?_ | with_reducible refine g_iEnum ?_))
local macro_rules | `(tactic| walk_at "gs1") => `(tactic| (first
  | with_reducible refine g_seq ?_ | with_reducible refine g_asg ?_ | ((with_reducible show tVar _ _ _ _); refine g_var rfl ?_) | with_reducible refine g_c ?_ | with_reducible refine g_name ?_ | with_reducible refine g_op ?_ | with_reducible refine g_I0 ?_
  | with_reducible refine g_cons ?_ | with_reducible refine g_nil ?_ | with_reducible refine g_exbl ?_ | with_reducible refine g_exint ?_ | with_reducible refine g_test ?_ | with_reducible refine g_B ?_ | with_reducible refine g_ifS ?_ | with_reducible refine g_retN ?_ | with_reducible refine g_next ?_
  | with_reducible refine g_CB ?_ | with_reducible refine g_sub ?_ | with_reducible refine g_drop ?_ | with_reducible refine g_not ?_ | with_reducible refine g_and ?_ | with_reducible refine g_or ?_ | with_reducible refine g_andV ?_ | with_reducible refine g_orV ?_ | with_reducible refine g_notV ?_ | with_reducible refine g_ifE ?_ | with_reducible refine g_isN ?_
  | with_reducible refine g_par ?_ | with_reducible refine g_expar ?_ | with_reducible refine g_chain ?_ | with_reducible refine g_un ?_ | with_reducible refine g_U ?_ | with_reducible refine g_bits ?_ | ((with_reducible show rEq _ _ _ _); refine g_eq rfl ?_) | ((with_reducible show rNe _ _ _ _); refine g_ne rfl ?_)
  | with_reducible refine g_for ?_ | with_reducible refine g_iRng1 ?_ | with_reducible refine g_iRng2 ?_ | with_reducible refine g_iList ?_ | with_reducible refine g_iTup ?_
  | ((with_reducible refine g_Imul ?hc ?_); (case hc => (first | (refine Or.inl ⟨?_, ?_⟩ <;> first | decide | omega) | (refine Or.inr ⟨?_, ?_⟩ <;> first | decide | omega))))
  | ((with_reducible refine g_Idiv ?hc ?_); (case hc => (first | (exact ⟨by decide, by decide⟩) | assumption)))
  | ((with_reducible refine g_Imod ?hc ?_); (case hc => (first | assumption | omega | decide)))
  | ((with_reducible refine g_exR1 ?hlo ?hhi ?_); (case hlo => omega); (case hhi => omega))
  | ((with_reducible refine g_exR2 ?hb ?_); (case hb => omega))
  | with_reducible refine g_lst ?_ | with_reducible refine g_tup ?_ | with_reducible refine g_call ?_ | with_reducible refine g_BM ?_ | with_reducible refine g_BM0 ?_
  | with_reducible refine g_intB ?_ | with_reducible refine g_lc ?_ | with_reducible refine g_yes ?_ | with_reducible refine g_iZip ?_ | with_reducible refine g_sl ?_ | with_reducible refine g_noP ?_ | with_reducible refine g_part ?_ | with_reducible refine g_gcons ?_ | with_reducible refine g_gnil ?_
  | with_reducible refine g_tfld ?_ | with_reducible refine g_tmeth ?_ | with_reducible refine g_tmake ?_ | with_reducible refine g_sfld ?_ | with_reducible refine g_tprop ?_ | with_reducible refine g_tstar ?_ | with_reducible refine g_tmethK ?_ | with_reducible refine g_isN1 ?_ | with_reducible refine g_notN1 ?_ | with_reducible refine g_callK0 ?_ | with_reducible refine g_m1 ?_ | with_reducible refine g_isstr ?_ | with_reducible refine g_iStr ?_ | with_reducible refine g_exS ?_ | with_reducible refine g_iEnum ?_))
local macro_rules | `(tactic| walk_at "gx1") => `(tactic| (first
  | with_reducible refine g_seq ?_ | with_reducible refine g_asg ?_ | ((with_reducible show tVar _ _ _ _); refine g_var rfl ?_) | with_reducible refine g_c ?_ | with_reducible refine g_name ?_ | with_reducible refine g_op ?_ | with_reducible refine g_I0 ?_
  | with_reducible refine g_cons ?_ | with_reducible refine g_nil ?_ | with_reducible refine g_exbl ?_ | with_reducible refine g_exint ?_ | with_reducible refine g_test ?_ | with_reducible refine g_B ?_ | with_reducible refine g_ifS ?_ | with_reducible refine g_retN ?_ | with_reducible refine g_next ?_
  | with_reducible refine g_CB ?_ | with_reducible refine g_sub ?_ | with_reducible refine g_drop ?_ | with_reducible refine g_not ?_ | with_reducible refine g_and ?_ | with_reducible refine g_or ?_ | with_reducible refine g_andV ?_ | with_reducible refine g_orV ?_ | with_reducible refine g_notV ?_ | with_reducible refine g_ret ?_ | with_reducible refine g_isN ?_
  | with_reducible refine g_par ?_ | with_reducible refine g_expar ?_ | with_reducible refine g_chain ?_ | with_reducible refine g_un ?_ | with_reducible refine g_U ?_ | with_reducible refine g_bits ?_ | ((with_reducible show rEq _ _ _ _); refine g_eq rfl ?_) | ((with_reducible show rNe _ _ _ _); refine g_ne rfl ?_)
  | with_reducible refine g_for ?_ | with_reducible refine g_iRng1 ?_ | with_reducible refine g_iRng2 ?_ | with_reducible refine g_iList ?_ | with_reducible refine g_iTup ?_
  | ((with_reducible refine g_Imul ?hc ?_); (case hc => (first | (refine Or.inl ⟨?_, ?_⟩ <;> first | decide | omega) | (refine Or.inr ⟨?_, ?_⟩ <;> first | decide | omega))))
  | ((with_reducible refine g_Idiv ?hc ?_); (case hc => (first | (exact ⟨by decide, by decide⟩) | assumption)))
  | ((with_reducible refine g_Imod ?hc ?_); (case hc => (first | assumption | omega | decide)))
  | ((with_reducible refine g_exR1 ?hlo ?hhi ?_); (case hlo => omega); (case hhi => omega))
  | ((with_reducible refine g_exR2 ?hb ?_); (case hb => omega))
  | with_reducible refine g_lst ?_ | with_reducible refine g_tup ?_ | with_reducible refine g_call ?_ | with_reducible refine g_BM ?_ | with_reducible refine g_BM0 ?_
  | with_reducible refine g_intB ?_ | with_reducible refine g_lc ?_ | with_reducible refine g_yes ?_ | with_reducible refine g_iZip ?_ | with_reducible refine g_sl ?_ | with_reducible refine g_noP ?_ | with_reducible refine g_part ?_ | with_reducible refine g_gcons ?_ | with_reducible refine g_gnil ?_
  | with_reducible refine g_tfld ?_ | with_reducible refine g_tmeth ?_ | with_reducible refine g_tmake ?_ | with_reducible refine g_sfld ?_ | with_reducible refine g_tprop ?_ | with_reducible refine g_tstar ?_ | with_reducible refine g_tmethK ?_ | with_reducible refine g_isN1 ?_ | with_reducible refine g_notN1 ?_ | with_reducible refine g_callK0 ?_ | with_reducible refine g_m1 ?_ | with_reducible refine g_isstr ?_ | with_reducible refine g_iStr ?_ | with_reducible refine g_exS ?_ | with_reducible refine g_iEnum ?_))
local macro_rules | `(tactic| walk_at "hp") => `(tactic| (first | assumption | exact upd_same | (refine same_get (by assumption) ?_; walk_at "hp")))
local macro_rules | `(tactic| walk_at "sm") => `(tactic| (first | assumption | exact Same.refl _ | (refine Same.trans ?ha (by assumption); walk_at "sm")))
local macro_rules | `(tactic| walk_at "nn") => `(tactic| (first | assumption | (refine same_free (by assumption) ?_; walk_at "nn")))
local macro_rules | `(tactic| walk_at "sb") => `(tactic| (first | decide | (refine small_bits ?_ ?_ <;> omega)))
local macro_rules | `(tactic| walk_at "ln") => `(tactic| (simp only [List.length_cons, List.length_nil]; omega))
local macro_rules | `(tactic| walk_at "gg") => `(tactic| (repeat walk_at "g"))
local macro_rules | `(tactic| walk_at "gs") => `(tactic| (repeat walk_at "gs1"))
local macro_rules | `(tactic| walk_at "gx") => `(tactic| (repeat walk_at "gx1"))

def TapeG (c : Nat) (vs : List V) : Prop := ∃ x y z : Int, vs = [.int x, .int y, .int z] ∧ 0 ≤ x ∧ 0 ≤ y ∧ y < 2 ^ 147 ∧ 0 ≤ z ∧ z ≤ (c : Int)
/-- f is a tape that was asked at most c times -/
def Tape (c : Nat) (H : Hp) (f : Addr) : Prop := H f = some (HidO (TapeG c) f)
theorem Tape.same {c : Nat} {H H' : Hp} {f : Addr} (h : Tape c H f) (s : Same H H') : Tape c H' f := s _ _ h
theorem Tape.mono {c d : Nat} {H : Hp} {f : Addr} (h : H f = some (HidO (TapeG c) f)) : True := trivial
def spNext0 : Sp := fun vs H Q _ => ∃ (f : Addr) (x y z m : Int), vs = [.ref f, .int m] ∧ H f = some (.lst [.int x, .int y, .int z]) ∧ 0 ≤ x ∧ 0 ≤ y ∧ y < 2 ^ 147 ∧ 0 ≤ z ∧ z ≤ 1000000 ∧ 0 < m ∧ m.natAbs < 2 ^ 1000 ∧
  ∀ (r x' z' : Int) (H' : Hp), 0 ≤ r → r < m → 0 ≤ x' → 0 ≤ z' → z' ≤ z + 1 → (∀ a o, a ≠ f → H a = some o → H' a = some o) → H' f = some (.lst [.int x', .int y, .int z']) → Q (.int r) H'
/-- a draw -/
def spNext : Sp := fun vs H Q _ => ∃ (f : Addr) (c : Nat) (m : Int), vs = [.ref f, .int m] ∧ Tape c H f ∧ c ≤ 1000000 ∧ 0 < m ∧ m.natAbs < 2 ^ 1000 ∧ ∀ (r : Int) (H' : Hp), 0 ≤ r → r < m → But f H H' → Tape (c + 1) H' f → Q (.int r) H'
section
variable {P : Program} {w : World} {K : PySem.W.Frag} {mg : Str → Option Value} {base : Heap} {X : Cx}
theorem next_view {k : Nat} {fa : Addr} {fd : FuncData} {ps : List Str} (hl : ps.length = 2) (F : FnOk P w K mg base CX0 k fa fd ps spNext0) : FnOk P w K mg base CX0 k fa fd ps spNext := by
  refine hid_view F (fun _ vs H Q E h => ?_) fun vs H Q E h => ?_
  · obtain ⟨f, c, m, rfl, _⟩ := h
    exact hl.symm
  · obtain ⟨f, c, m, rfl, hf, c1, m0, m1, k⟩ := h
    refine ⟨f, TapeG c, TapeG (c + 1), hf, fun xs g => ?_⟩
    obtain ⟨x, y, z, rfl, x0, y0, y1, z0, z1⟩ := g
    refine ⟨f, x, y, z, m, rfl, upd_same, x0, y0, y1, z0, by omega, m0, m1, fun r x' z' H' r0 r1 x0' z0' z1' ke kf => ?_⟩
    refine ⟨⟨_, ⟨x', y, z', rfl, x0', y0, y1, z0', by omega⟩, kf⟩, ?_⟩
    refine k r _ r0 r1 (fun a o na e => ?_) upd_same
    rw [upd_ne na]
    exact ke a o na (by rw [upd_ne na]; exact e)
abbrev s_next : Stmt := top 25
abbrev N_next : List Str := ["_law_tape_here", "_law_many", "_law_found", "_law_mixed"]
theorem sc_next : FnScope N_next ["_law_tape_here", "_law_many"] (defScope s_next) := ⟨rfl, rfl, rfl, by decide +kernel, rfl, by decide +kernel, by decide +kernel⟩

theorem ok_next {f : Addr} {fd : FuncData} (D : Dn K mg "_law_next" s_next ["_law_tape_here", "_law_many"] f fd) (T : Bt mg) : Cal P w K mg base 1 "_law_next" spNext [] := by
  refine cal_of D (next_view rfl (D.fn.ok sc_next (fun vs H Q E h => ?_) (fun cdv A outer s H vs Q E hr h => ?_)))
  · obtain ⟨f, x, y, z, m, rfl, _⟩ := h
    rfl
  · obtain ⟨f, x, y, z, m, rfl, hf, x0, y0, y1, z0, z1, m0, m1, k⟩ := h
    refine ⟨_, (pss_cons (ps_if (pt_cmpR op_gt (pe_ix ix_list (pv 0) pe_int (fun _ _ => rfl)) pe_int (nomark _)) (pss_cons (ps_set (i := 2) sc_next.nd rfl (Or.inl rfl) (pe_op op_mod (pe_ix ix_list (pv 0) pe_int (fun _ _ => rfl)) (pv 1)))
    (pss_cons (ps_asg (pe_op op_fdivW (pe_ix ix_list (pv 0) pe_int (fun _ _ => rfl)) (pv 1)) (pg_sub (pv 0) pe_int set_list))
    (pss_one (ps_ret (pv 2))))) pss_nil)
    (pss_cons (ps_asg (pe_op op_add (pe_ix ix_list (pv 0) pe_int (fun _ _ => rfl)) pe_int) (pg_sub (pv 0) pe_int set_list))
    (pss_cons (ps_set (i := 3) sc_next.nd rfl (Or.inl rfl) (pe_op op_mod (pe_op op_powB (pe_op op_add (pe_ix ix_list (pv 0) pe_int (fun _ _ => rfl)) (pe_op op_mul pe_int (pe_ix ix_list (pv 0) pe_int (fun _ _ => rfl)))) pe_int) (pe_op op_add (pe_op op_powB pe_int pe_int) pe_int)))
    (pss_cons (ps_set (i := 3) sc_next.nd rfl (Or.inl rfl) (pe_op op_mod (pe_op op_powB (pe_op op_add (pv 3) (pe_op op_mul pe_int (pe_ix ix_list (pv 0) pe_int (fun _ _ => rfl)))) pe_int) (pe_op op_add (pe_op op_powB pe_int pe_int) pe_int)))
    (pss_one (ps_ret (pe_op op_mod (pe_op op_fdivW (pv 3) pe_int) (pv 1)))))))), ?_⟩
    have y2 : y < 178405961588244985132285746181186892047843328 := by
      have e : (2 : Int) ^ 147 = 178405961588244985132285746181186892047843328 := by decide +kernel
      rw [← e]
      exact y1
    walk_at "gg"
    refine g_ixL (SqL.of hf) rfl ?_
    walk_at "gg"
    refine g_ite (fun hx => ?_) (fun hx => ?_)
    · walk_at "gg"
      refine g_ixL (SqL.of hf) rfl ?_
      walk_at "gg"
      refine g_ixL (SqL.of hf) rfl ?_
      walk_at "gg"
      refine g_Idiv (wide_div m0 m1 (by decide) (by decide)) ?_
      walk_at "gg"
      refine g_setL hf rfl ?_
      walk_at "gg"
      exact k _ (x / m) z _ (Int.emod_nonneg _ (by omega)) (Int.emod_lt_of_pos _ m0) (Int.ediv_nonneg x0 (by omega)) z0 (by omega) (fun a o h1 e => by rw [upd_ne h1]; exact e) upd_same
    · walk_at "gg"
      refine g_ixL (SqL.of hf) rfl ?_
      walk_at "gg"
      refine g_setL hf rfl ?_
      walk_at "gg"
      refine g_ixL (SqL.of upd_same) rfl ?_
      walk_at "gg"
      refine g_ixL (SqL.of upd_same) rfl ?_
      walk_at "gg"
      refine g_powB ⟨by decide, by decide, by omega⟩ ?_
      walk_at "gg"
      refine g_powB ⟨by decide, by decide, by decide⟩ ?_
      walk_at "gg"
      generalize hy : (y + 40000003 * (z + 1)) ^ (Int.toNat 3) % ((10 : Int) ^ (Int.toNat 41) + 37) = v
      have e41 : (10 : Int) ^ (Int.toNat 41) = 100000000000000000000000000000000000000000 := by decide +kernel
      have v0 : 0 ≤ v := by rw [← hy]; exact Int.emod_nonneg _ (by rw [e41]; decide)
      have v1 : v < 100000000000000000000000000000000000000037 := by rw [← hy, e41]; exact Int.emod_lt_of_pos _ (by decide)
      refine g_ixL (SqL.of upd_same) rfl ?_
      walk_at "gg"
      refine g_powB ⟨by decide, by decide, by omega⟩ ?_
      walk_at "gg"
      refine g_powB ⟨by decide, by decide, by decide⟩ ?_
      walk_at "gg"
      refine k _ x (z + 1) _ (Int.emod_nonneg _ (by omega)) (Int.emod_lt_of_pos _ m0) x0 (by omega) (by omega) (fun a o h1 e => by rw [upd_ne h1]; exact e) upd_same
def spTape0 (K : PySem.W.Frag) : Sp := fun vs H Q _ => ∃ (a : Addr) (ns : List Int) (k : Int), vs = [.ref a, .int k] ∧ SqL K H a (ns.map V.int) ∧ 0 ≤ k ∧ k ≤ 100 ∧
  ∀ (p : Addr) (x y : Int) (H' : Hp), 0 ≤ x → 0 ≤ y → y < 2 ^ 147 → H p = none → Same H H' → H' p = some (.lst [.int x, .int y, .int 0]) → Q (.ref p) H'
def spTape (K : PySem.W.Frag) : Sp := fun vs H Q _ => ∃ (a : Addr) (ns : List Int) (k : Int), vs = [.ref a, .int k] ∧ SqL K H a (ns.map V.int) ∧ 0 ≤ k ∧ k ≤ 100 ∧
  ∀ (p : Addr) (H' : Hp), H p = none → Same H H' → Tape 0 H' p → Q (.ref p) H'
abbrev s_tape : Stmt := top 24
abbrev N_tape : List Str := ["_law_script", "_law_k", "_law_cell"]
theorem sc_tape : FnScope N_tape ["_law_script", "_law_k"] (defScope s_tape) := ⟨rfl, rfl, rfl, by decide +kernel, rfl, by decide +kernel, by decide +kernel⟩

theorem ok_tape0 {f : Addr} {fd : FuncData} (D : Dn K mg "_law_tape" s_tape ["_law_script", "_law_k"] f fd) (T : Bt mg) : FnOk P w K mg base L2.CX0 1 f fd ["_law_script", "_law_k"] (spTape0 K) := by
  refine D.fn.ok sc_tape (fun vs H Q E h => ?_) (fun cdv A outer s H vs Q E hr h => ?_)
  · obtain ⟨a, ns, k, rfl, _⟩ := h
    rfl
  · obtain ⟨a, ns, n, rfl, ha, hn, hn2, k⟩ := h
    refine ⟨_, (pss_cons (ps_set (i := 2) sc_tape.nd rfl (Or.inl rfl) (pe_ifExp (pt_cmpR op_lt (pv 1) (pe_callB cr_lenQ (by rfl) T.n_len bt_len (pa_cons (pv 0) pa_nil)) (nomark _)) (pe_callB cr_absQ (by rfl) T.n_abs bt_abs (pa_cons (pe_ix ix_list (pv 0) (pv 1) (fun _ _ => rfl)) pa_nil)) pe_int))
    (pss_one (ps_ret (pe_lst (pa_cons (pe_callB (cr_maxQ rfl) (by rfl) T.n_max bt_max (pa_cons pe_int (pa_cons (pe_op op_sub (pv 2) (pe_op op_pow pe_int pe_int)) pa_nil))) (pa_cons (pe_op op_add (pe_op op_mod (pv 2) (pe_op op_add (pe_op op_pow pe_int pe_int) pe_int)) (pe_op op_mul pe_int (pv 1))) (pa_cons pe_int pa_nil))))))), ?_⟩
    walk_at "gg"
    refine g_len ha ?_
    rw [List.length_map]
    walk_at "gg"
    refine g_ite (fun hlt => ?_) (fun hlt => ?_)
    · walk_at "gg"
      refine g_ixN ha hn hlt fun v _ _ => ?_
      walk_at "gg"
      refine g_abs fun c c0 _ => ?_
      walk_at "gg"
      refine g_pow (c := 1000000000000000000) ⟨by decide, by decide, by decide⟩ (by decide +kernel) ?_
      walk_at "gg"
      refine g_max2 fun x x0 _ _ => ?_
      walk_at "gg"
      refine g_pow (c := 100000000000000000000000000000000000000000000) ⟨by decide, by decide, by decide⟩ (by decide +kernel) ?_
      walk_at "gg"
      refine g_mkL (by walk_at "ln") fun p H1 n1 S1 e1 => ?_
      have e147 : (2 : Int) ^ 147 = 178405961588244985132285746181186892047843328 := by decide +kernel
      exact k p x _ H1 x0 (by omega) (by rw [e147]; omega) n1 S1 e1
    · walk_at "gg"
      refine g_pow (c := 1000000000000000000) ⟨by decide, by decide, by decide⟩ (by decide +kernel) ?_
      walk_at "gg"
      refine g_max2 fun x x0 _ _ => ?_
      walk_at "gg"
      refine g_pow (c := 100000000000000000000000000000000000000000000) ⟨by decide, by decide, by decide⟩ (by decide +kernel) ?_
      walk_at "gg"
      refine g_mkL (by walk_at "ln") fun p H1 n1 S1 e1 => ?_
      have e147 : (2 : Int) ^ 147 = 178405961588244985132285746181186892047843328 := by decide +kernel
      exact k p x _ H1 x0 (by omega) (by rw [e147]; omega) n1 S1 e1
theorem ok_tape {f : Addr} {fd : FuncData} (D : Dn K mg "_law_tape" s_tape ["_law_script", "_law_k"] f fd) (T : Bt mg) : Cal P w K mg base 1 "_law_tape" (spTape K) [] := by
  refine cal_of D (hid_made (ok_tape0 D T) fun vs H Q E h => ?_)
  obtain ⟨a, ns, n, rfl, ha, hn, hn2, k⟩ := h
  refine ⟨a, ns, n, rfl, ha, hn, hn2, fun p x y H' hx hy hy2 np S e => ⟨p, TapeG 0, _, ⟨x, y, 0, rfl, hx, hy, hy2, by decide, by decide⟩, e, k p _ np (same_mut S np) upd_same⟩⟩
end
end Gk

/-! law k47 -/
namespace Gk
open PySem L2 Gx
open LamX hiding takes0
open C8 (Cal Met Mak pe_c pe_mt pe_mt0 pe_mk pe_gc)
local macro_rules | `(tactic| walk_at "g") => `(tactic| (first
  | with_reducible refine g_seq ?_ | with_reducible refine g_asg ?_ | ((with_reducible show tVar _ _ _ _); refine g_var rfl ?_) | with_reducible refine g_c ?_ | with_reducible refine g_name ?_ | with_reducible refine g_op ?_ | with_reducible refine g_I0 ?_
  | with_reducible refine g_cons ?_ | with_reducible refine g_nil ?_ | with_reducible refine g_exbl ?_ | with_reducible refine g_exint ?_ | with_reducible refine g_test ?_ | with_reducible refine g_B ?_ | with_reducible refine g_ifS ?_ | with_reducible refine g_ret ?_ | with_reducible refine g_retN ?_ | with_reducible refine g_next ?_
  | with_reducible refine g_CB ?_ | with_reducible refine g_sub ?_ | with_reducible refine g_drop ?_ | with_reducible refine g_not ?_ | with_reducible refine g_and ?_ | with_reducible refine g_or ?_ | with_reducible refine g_andV ?_ | with_reducible refine g_orV ?_ | with_reducible refine g_notV ?_ | with_reducible refine g_ifE ?_ | with_reducible refine g_isN ?_
  | with_reducible refine g_par ?_ | with_reducible refine g_expar ?_ | with_reducible refine g_chain ?_ | with_reducible refine g_un ?_ | with_reducible refine g_U ?_ | with_reducible refine g_bits ?_ | ((with_reducible show rEq _ _ _ _); refine g_eq rfl ?_) | ((with_reducible show rNe _ _ _ _); refine g_ne rfl ?_)
  | with_reducible refine g_for ?_ | with_reducible refine g_iRng1 ?_ | with_reducible refine g_iRng2 ?_ | with_reducible refine g_iList ?_ | with_reducible refine g_iTup ?_
  | ((with_reducible refine g_Imul ?hc ?_); (case hc => (first | (refine Or.inl ⟨?_, ?_⟩ <;> first | decide | omega) | (refine Or.inr ⟨?_, ?_⟩ <;> first | decide | omega))))
  | ((with_reducible refine g_Idiv ?hc ?_); (case hc => (first | (exact ⟨by decide, by decide⟩) | assumption)))
  | ((with_reducible refine g_Imod ?hc ?_); (case hc => (first | assumption | omega | decide)))
  | ((with_reducible refine g_exR1 ?hlo ?hhi ?_); (case hlo => omega); (case hhi => omega))
  | ((with_reducible refine g_exR2 ?hb ?_); (case hb => omega))
  | with_reducible refine g_lst ?_ | with_reducible refine g_tup ?_ | with_reducible refine g_call ?_ | with_reducible refine g_BM ?_ | with_reducible refine g_BM0 ?_
  | with_reducible refine g_intB ?_ | with_reducible refine g_lc ?_ | with_reducible refine g_yes ?_ | with_reducible refine g_iZip ?_ | with_reducible refine g_sl ?_ | with_reducible refine g_noP ?_ | with_reducible refine g_part ?_ | with_reducible refine g_gcons ?_ | with_reducible refine g_gnil ?_
  | with_reducible refine g_tfld ?_ | with_reducible refine g_tmeth ?_ | with_reducible refine g_tmake ?_ | with_reducible refine g_sfld ?_ | with_reducible refine g_tprop ?_ | with_reducible refine g_tstar ?_ | with_reducible refine g_tmethK ?_ | with_reducible refine g_isN1 ?_ | with_reducible refine g_notN1 ?_ | with_reducible refine g_callK0 ?_ | with_reducible refine g_m1 ?_ | with_reducible refine g_isstr ?_ | with_reducible refine g_iStr ?_ | with_reducible refine g_exS ?_ | with_reducible refine g_iEnum ?_))
local macro_rules | `(tactic| walk_at "gs1") => `(tactic| (first
  | with_reducible refine g_seq ?_ | with_reducible refine g_asg ?_ | ((with_reducible show tVar _ _ _ _); refine g_var rfl ?_) | with_reducible refine g_c ?_ | with_reducible refine g_name ?_ | with_reducible refine g_op ?_ | with_reducible refine g_I0 ?_
  | with_reducible refine g_cons ?_ | with_reducible refine g_nil ?_ | with_reducible refine g_exbl ?_ | with_reducible refine g_exint ?_ | with_reducible refine g_test ?_ | with_reducible refine g_B ?_ | with_reducible refine g_ifS ?_ | with_reducible refine g_retN ?_ | with_reducible refine g_next ?_
  | with_reducible refine g_CB ?_ | with_reducible refine g_sub ?_ | with_reducible refine g_drop ?_ | with_reducible refine g_not ?_ | with_reducible refine g_and ?_ | with_reducible refine g_or ?_ | with_reducible refine g_andV ?_ | with_reducible refine g_orV ?_ | with_reducible refine g_notV ?_ | with_reducible refine g_ifE ?_ | with_reducible refine g_isN ?_
  | with_reducible refine g_par ?_ | with_reducible refine g_expar ?_ | with_reducible refine g_chain ?_ | with_reducible refine g_un ?_ | with_reducible refine g_U ?_ | with_reducible refine g_bits ?_ | ((with_reducible show rEq _ _ _ _); refine g_eq rfl ?_) | ((with_reducible show rNe _ _ _ _); refine g_ne rfl ?_)
  | with_reducible refine g_for ?_ | with_reducible refine g_iRng1 ?_ | with_reducible refine g_iRng2 ?_ | with_reducible refine g_iList ?_ | with_reducible refine g_iTup ?_
  | ((with_reducible refine g_Imul ?hc ?_); (case hc => (first | (refine Or.inl ⟨?_, ?_⟩ <;> first | decide | omega) | (refine Or.inr ⟨?_, ?_⟩ <;> first | decide | omega))))
  | ((with_reducible refine g_Idiv ?hc ?_); (case hc => (first | (exact ⟨by decide, by decide⟩) | assumption)))
  | ((with_reducible refine g_Imod ?hc ?_); (case hc => (first | assumption | omega | decide)))
  | ((with_reducible refine g_exR1 ?hlo ?hhi ?_); (case hlo => omega); (case hhi => omega))
  | ((with_reducible refine g_exR2 ?hb ?_); (case hb => omega))
  | with_reducible refine g_lst ?_ | with_reducible refine g_tup ?_ | with_reducible refine g_call ?_ | with_reducible refine g_BM ?_ | with_reducible refine g_BM0 ?_
  | with_reducible refine g_intB ?_ | with_reducible refine g_lc ?_ | with_reducible refine g_yes ?_ | with_reducible refine g_iZip ?_ | with_reducible refine g_sl ?_ | with_reducible refine g_noP ?_ | with_reducible refine g_part ?_ | with_reducible refine g_gcons ?_ | with_reducible refine g_gnil ?_
  | with_reducible refine g_tfld ?_ | with_reducible refine g_tmeth ?_ | with_reducible refine g_tmake ?_ | with_reducible refine g_sfld ?_ | with_reducible refine g_tprop ?_ | with_reducible refine g_tstar ?_ | with_reducible refine g_tmethK ?_ | with_reducible refine g_isN1 ?_ | with_reducible refine g_notN1 ?_ | with_reducible refine g_callK0 ?_ | with_reducible refine g_m1 ?_ | with_reducible refine g_isstr ?_ | with_reducible refine g_iStr ?_ | with_reducible refine g_exS ?_ | with_reducible refine g_iEnum ?_))
local macro_rules | `(tactic| walk_at "gx1") => `(tactic| (first
  | with_reducible refine g_seq ?_ | with_reducible refine g_asg ?_ | ((with_reducible show tVar _ _ _ _); refine g_var rfl ?_) | with_reducible refine g_c ?_ | with_reducible refine g_name ?_ | with_reducible refine g_op ?_ | with_reducible refine g_I0 ?_
  | with_reducible refine g_cons ?_ | with_reducible refine g_nil ?_ | with_reducible refine g_exbl ?_ | with_reducible refine g_exint ?_ | with_reducible refine g_test ?_ | with_reducible refine g_B ?_ | with_reducible refine g_ifS ?_ | with_reducible refine g_retN ?_ | with_reducible refine g_next ?_
  | with_reducible refine g_CB ?_ | with_reducible refine g_sub ?_ | with_reducible refine g_drop ?_ | with_reducible refine g_not ?_ | with_reducible refine g_and ?_ | with_reducible refine g_or ?_ | with_reducible refine g_andV ?_ | with_reducible refine g_orV ?_ | with_reducible refine g_notV ?_ | with_reducible refine g_ret ?_ | with_reducible refine g_isN ?_
  | with_reducible refine g_par ?_ | with_reducible refine g_expar ?_ | with_reducible refine g_chain ?_ | with_reducible refine g_un ?_ | with_reducible refine g_U ?_ | with_reducible refine g_bits ?_ | ((with_reducible show rEq _ _ _ _); refine g_eq rfl ?_) | ((with_reducible show rNe _ _ _ _); refine g_ne rfl ?_)
  | with_reducible refine g_for ?_ | with_reducible refine g_iRng1 ?_ | with_reducible refine g_iRng2 ?_ | with_reducible refine g_iList ?_ | with_reducible refine g_iTup ?_
  | ((with_reducible refine g_Imul ?hc ?_); (case hc => (first | (refine Or.inl ⟨?_, ?_⟩ <;> first | decide | omega) | (refine Or.inr ⟨?_, ?_⟩ <;> first | decide | omega))))
  | ((with_reducible refine g_Idiv ?hc ?_); (case hc => (first | (exact ⟨by decide, by decide⟩) | assumption)))
  | ((with_reducible refine g_Imod ?hc ?_); (case hc => (first | assumption | omega | decide)))
  | ((with_reducible refine g_exR1 ?hlo ?hhi ?_); (case hlo => omega); (case hhi => omega))
  | ((with_reducible refine g_exR2 ?hb ?_); (case hb => omega))
  | with_reducible refine g_lst ?_ | with_reducible refine g_tup ?_ | with_reducible refine g_call ?_ | with_reducible refine g_BM ?_ | with_reducible refine g_BM0 ?_
  | with_reducible refine g_intB ?_ | with_reducible refine g_lc ?_ | with_reducible refine g_yes ?_ | with_reducible refine g_iZip ?_ | with_reducible refine g_sl ?_ | with_reducible refine g_noP ?_ | with_reducible refine g_part ?_ | with_reducible refine g_gcons ?_ | with_reducible refine g_gnil ?_
  | with_reducible refine g_tfld ?_ | with_reducible refine g_tmeth ?_ | with_reducible refine g_tmake ?_ | with_reducible refine g_sfld ?_ | with_reducible refine g_tprop ?_ | with_reducible refine g_tstar ?_ | with_reducible refine g_tmethK ?_ | with_reducible refine g_isN1 ?_ | with_reducible refine g_notN1 ?_ | with_reducible refine g_callK0 ?_ | with_reducible refine g_m1 ?_ | with_reducible refine g_isstr ?_ | with_reducible refine g_iStr ?_ | with_reducible refine g_exS ?_ | with_reducible refine g_iEnum ?_))
local macro_rules | `(tactic| walk_at "hp") => `(tactic| (first | assumption | exact upd_same | (refine same_get (by assumption) ?_; walk_at "hp")))
local macro_rules | `(tactic| walk_at "sm") => `(tactic| (first | assumption | exact Same.refl _ | (refine Same.trans ?ha (by assumption); walk_at "sm")))
local macro_rules | `(tactic| walk_at "nn") => `(tactic| (first | assumption | (refine same_free (by assumption) ?_; walk_at "nn")))
local macro_rules | `(tactic| walk_at "sb") => `(tactic| (first | decide | (refine small_bits ?_ ?_ <;> omega)))
local macro_rules | `(tactic| walk_at "ln") => `(tactic| (simp only [List.length_cons, List.length_nil]; omega))
local macro_rules | `(tactic| walk_at "gg") => `(tactic| (repeat walk_at "g"))
local macro_rules | `(tactic| walk_at "gs") => `(tactic| (repeat walk_at "gs1"))
local macro_rules | `(tactic| walk_at "gx") => `(tactic| (repeat walk_at "gx1"))

local macro_rules | `(tactic| walk_at "g") => `(tactic| (first | with_reducible refine g_cX ?_ | with_reducible refine g_cKX ?_))
/-- a heap of lists alone -/
theorem lists_only (f : Addr) : ∃ h : Heap, h.get? f = some { cls := .type "list", data := .seq #[.int 0 0, .int 0 0, .int 0 0] } ∧ ∀ (x : Addr) (o : Obj), h.get? x = some o → o.data = .seq #[.int 0 0, .int 0 0, .int 0 0] := by
  refine ⟨⟨Array.replicate (f + 1) { cls := .type "list", data := .seq #[.int 0 0, .int 0 0, .int 0 0] }, {}⟩, ?_, fun x o e => ?_⟩
  · unfold Heap.get?
    simp
  · unfold Heap.get? at e
    simp only [Array.getElem?_replicate] at e
    split at e
    · rename_i h
      split at h
      · cases h
      · cases h
    · split at e
      · obtain rfl := Option.some.inj e
        rfl
      · cases e
theorem tape_code {c : Nat} {f c' : Addr} {q : Str} : HidO (TapeG c) f ≠ LamX.CodeO c' q := fun z => by
  obtain ⟨h, h1, h2⟩ := lists_only f
  have z2 : HidP (TapeG c) f = fun h => ∃ (oc : Obj) (vs : Array Value) (t : Tok), h.get? c' = some oc ∧ oc.data = .fields vs ∧ vs[1]? = some (.str q t) := HO.ext.inj z
  have p : HidP (TapeG c) f h := ⟨[.int 0, .int 0, .int 0], [.int 0 0, .int 0 0, .int 0 0], 0, ⟨0, 0, 0, rfl, by decide, by decide, by decide, by decide, Int.natCast_nonneg c⟩, by decide, .cons ⟨0, rfl⟩ (.cons ⟨0, rfl⟩ (.cons ⟨0, rfl⟩ .nil)), h1⟩
  rw [z2] at p
  obtain ⟨oc, vs, t, e, d, _⟩ := p
  cases (h2 _ _ e).symm.trans d
/-- tables stay where the tape is asked -/
theorem Tape.tabs {c : Nat} {H H' : Hp} {f : Addr} {TT : List (Addr × Str)} (h : Tape c H f) (b : But f H H') (t : LamX.Tabs TT H) : LamX.Tabs TT H' := fun p hp => by
  obtain ⟨ps, h1, h2, h3⟩ := t p hp
  refine ⟨ps, b _ _ (fun z => ?_) h1, h2, fun pos cv hc => ?_⟩
  · rw [z, h] at h1
    cases h1
  · obtain ⟨c', e1, e2⟩ := h3 pos cv hc
    refine ⟨c', e1, b _ _ (fun z => ?_) e2⟩
    rw [z, h] at e2
    exact tape_code (Option.some.inj e2)
theorem Tape.kp {c : Nat} {H H' : Hp} {f : Addr} (h : Tape c H f) (b : But f H H') : Kp H H' := fun a o p e => b a o (fun z => by
  subst z
  rw [h] at e
  obtain rfl := Option.some.inj e
  cases p) e
section
variable {K : PySem.W.Frag} {H H' : Hp} {f : Addr} {c : Nat}
theorem odd_hid {G : List V → Prop} {f : Addr} : Odd (HidO G f) := ⟨fun xs z => (by cases z), fun xs z => (by cases z), fun ob u z => (by cases z)⟩
theorem dps_tape (h : Tape c H f) (b : But f H H') {vs : List V} {ds : List PyData} (x : DpAll K H vs ds) : DpAll K H' vs ds := dp_oddAll h odd_hid b ds vs x
theorem ne_tape (h : Tape c H f) {a : Addr} {xs : List V} (e : H a = some (.lst xs)) : a ≠ f := fun z => by
  have h : H f = some (HidO (TapeG c) f) := h
  rw [← z, e] at h
  cases h
theorem lst_tape (h : Tape c H f) (b : But f H H') {a : Addr} {xs : List V} (e : H a = some (.lst xs)) : H' a = some (.lst xs) := b _ _ (ne_tape h e) e
theorem pts_tape {α : Type} [Kd α] (h : Tape c H f) (b : But f H H') {a : Addr} {as : List α} (x : PtsL K H a as) : PtsL K H' a as := by
  obtain ⟨xs, e, d⟩ := x
  exact ⟨xs, lst_tape h b e, dps_tape h b d⟩
theorem sq_tape {a : Addr} {xs : List V} (hx : Tape c H f) (b : But f H H') (h : SqL K H a xs) : SqL K H' a xs := sqL_odd hx odd_hid b h
theorem kp_sqL {a : Addr} {xs : List V} (k : Kp H H') (h : SqL K H a xs) : SqL K H' a xs := by
  rcases h with (h | ⟨o, h⟩) | h
  · exact .inl (.inl (k _ _ rfl h))
  · exact .inl (.inr ⟨o, k _ _ rfl h⟩)
  · exact .inr h
theorem but_trans {H1 H2 H3 : Hp} (a : But f H1 H2) (b : But f H2 H3) : But f H1 H3 := fun p o n e => b p o n (a p o n e)
theorem but_of {H1 H2 : Hp} (s : Same H1 H2) : But f H1 H2 := fun p o _ e => s p o e
theorem tape_smT {H1 H2 : Hp} (h : Tape c H1 f) (s : SmT H1 H2) : Tape c H2 f := s f _ h (fun ps z => by cases z)
theorem g_nxt {m : Int} {Q : VK} {E : XK} (hf : Tape c H f) (hc : c ≤ 1000000) (hm : 0 < m) (hb : m.natAbs < 2 ^ 1000) (k : ∀ r H', 0 ≤ r → r < m → But f H H' → Tape (c + 1) H' f → Q (.int r) H') : spNext ([V.ref f, V.int m] ++ []) H Q E := ⟨f, c, m, rfl, hf, hc, hm, hb, k⟩
/-- a comprehension whose turns draw from the tape -/
theorem lc_draw {α : Type} [Kd α] {H1 : Hp} {Q : VK} {σ : L2.St} {te : TE} {g : TG} {vs : List Nat} {J : It} {n m : Nat} {item : Nat → V → Prop} (B : α → Prop) (t1 : Tape c H1 f) (hn : n ≤ 100000)
    (src : ∀ H, But f H1 H → ∀ i, (i < n → J.go i H ∧ ∀ x H', J.yld i H x H' → H' = H ∧ item i x) ∧ (n ≤ i → J.stop i H))
    (turn : ∀ i x c2 H' (Nx : V → Hp → Prop), i < n → item i x → But f H1 H' → Tape c2 H' f → c2 ≤ c + m * i → (∀ y a c3 H4, But f H' H4 → Tape c3 H4 f → c3 ≤ c2 + m → Dp K H4 y (Kd.D a) → B a → Nx y H4) → g x (wipe σ vs) H' fun σ2 H2 => wipe σ2 vs = wipe σ vs ∧ te σ2 H2 Nx)
    (done : ∀ D c2 (as : List α) H', H1 D = none → But f H1 H' → Tape c2 H' f → c2 ≤ c + m * n → as.length = n → (∀ a ∈ as, B a) → PtsL K H' D as → Q (.ref D) H') : LC g tYes te vs J σ H1 Q := by
  intro D hD
  refine ⟨fun i k H => k = n - i ∧ i ≤ n ∧ ∃ acc, But f H1 H ∧ H D = some (.lst acc) ∧ (∃ c2, Tape c2 H f ∧ c2 ≤ c + m * i) ∧ ∃ as : List α, as.length = i ∧ DpAll K H acc (as.map Kd.D) ∧ ∀ a ∈ as, B a,
    ⟨n, rfl, Nat.zero_le _, [], but_of (same_new hD), upd_same, ⟨c, t1.same (same_new hD), Nat.le_add_right _ _⟩, [], rfl, .nil, nofun⟩, ?_⟩
  rintro i k H ⟨rfl, hi, acc, b1, e, ⟨c2, t2, l2⟩, as, la, da, ba⟩
  have lacc : acc.length = i := by rw [dpAll_len da, List.length_map, la]
  rcases Nat.lt_or_ge i n with lt | ge
  · right
    obtain ⟨go, yl⟩ := (src H b1 i).1 lt
    refine ⟨go, fun H' => i + 1 ≤ n ∧ ∃ acc, But f H1 H' ∧ H' D = some (.lst acc) ∧ (∃ c2, Tape c2 H' f ∧ c2 ≤ c + m * (i + 1)) ∧ ∃ as : List α, as.length = i + 1 ∧ DpAll K H' acc (as.map Kd.D) ∧ ∀ a ∈ as, B a, fun H' ⟨l1, q⟩ => ⟨n - (i + 1), by omega, rfl, l1, q⟩, fun x H' y => ?_⟩
    obtain ⟨rfl, it⟩ := yl x H' y
    have tt := turn i x c2 H' (fun y H4 => ∃ acc', H4 D = some (.lst acc') ∧ acc'.length < sizeLine ∧ (i + 1 ≤ n ∧ ∃ acc, But f H1 (upd H4 D (.lst (acc' ++ [y]))) ∧ upd H4 D (.lst (acc' ++ [y])) D = some (.lst acc) ∧ (∃ c2, Tape c2 (upd H4 D (.lst (acc' ++ [y]))) f ∧ c2 ≤ c + m * (i + 1)) ∧ ∃ as : List α, as.length = i + 1 ∧ DpAll K (upd H4 D (.lst (acc' ++ [y]))) acc (as.map Kd.D) ∧ ∀ a ∈ as, B a)) lt it b1 t2 l2 fun y a c3 H4 b4 t4 l4 dy hb => ?_
    · exact tt
    · have e4 := lst_tape t2 b4 e
      have nf : D ≠ f := ne_tape t2 e
      refine ⟨acc, e4, big_lt (by omega), lt, acc ++ [y], fun p o np ep => ?_, upd_same, ⟨c3, ?_, ?_⟩, as ++ [a], by rw [List.length_append, la]; rfl, ?_, fun z hz => ?_⟩
      · have nD : p ≠ D := fun z => by rw [z, hD] at ep; cases ep
        rw [upd_ne nD]
        exact b4 _ _ np (b1 _ _ np ep)
      · show upd H4 D _ f = _
        rw [upd_ne (fun z => nf z.symm)]
        exact t4
      · rw [Nat.mul_add, Nat.mul_one]
        omega
      · refine dp_butAll e4 (but_same (Same.refl _)) _ _ (kd_nols _) ?_
        rw [List.map_append]
        exact dpAll_append (dps_tape t2 b4 da) (.cons dy .nil)
      · rcases List.mem_append.mp hz with hz | hz
        · exact ba z hz
        · rw [List.mem_singleton.mp hz]
          exact hb
  · left
    have e0 : i = n := Nat.le_antisymm hi ge
    subst e0
    exact ⟨(src H b1 i).2 (Nat.le_refl _), done D c2 as H hD b1 t2 l2 la ba ⟨acc, e, da⟩⟩
theorem src_rngB {lo : Int} {n : Nat} {H1 : Hp} : ∀ H, But f H1 H → ∀ i, (i < n → (Itr lo n).go i H ∧ ∀ x H', (Itr lo n).yld i H x H' → H' = H ∧ x = .int (lo + (i : Nat))) ∧ (n ≤ i → (Itr lo n).stop i H) := fun H _ i => ⟨fun hi => ⟨hi, fun x H' y => y⟩, fun hi => hi⟩
theorem src_lstB {p : Addr} {xs : List V} {H1 : Hp} (e : H1 p = some (.lst xs)) (n : p ≠ f) : ∀ H, But f H1 H → ∀ i, (i < xs.length → (Itl K p).go i H ∧ ∀ x H', (Itl K p).yld i H x H' → H' = H ∧ xs[i]? = some x) ∧ (xs.length ≤ i → (Itl K p).stop i H) := fun H b i => by
  have sq : SqL K H p xs := SqL.of (b _ _ n e)
  exact ⟨fun hi => ⟨⟨xs, xs[i], sq, List.getElem?_eq_getElem hi⟩, fun x H' y => ⟨y.1, y.2 xs sq⟩⟩, fun hi => ⟨xs, sq, hi⟩⟩
end
/-- drawn keys, ranges and puts are good -/
theorem chk_drawn {ks : List Int} {rs : List Pr} {ps : List Int} (up : Up ks) (lk : ks.length ≤ 200) (hr : ∀ r ∈ rs, r.1 ≤ r.2) (lr : rs.length ≤ 30) (hp : ∀ p ∈ ps, p ∉ ks) (lp : ps.length ≤ 30) : chkL ks rs ps := by
  refine ⟨?_, lk, lr, lp⟩
  have ai : ∀ ns : List Int, (ns.map PyData.int).all isIntD = true := fun ns => by
    rw [List.all_map]
    exact List.all_eq_true.mpr fun _ _ => rfl
  have mi : ∀ ns : List Int, (ns.map PyData.int).map intD = ns := fun ns => by
    rw [List.map_map]
    exact List.map_id _
  have k1 : keysOk (some (ks.map PyData.int)) = true := by
    unfold keysOk liOk
    dsimp only
    rw [ai, mi, List.length_map, decide_eq_true lk]
    unfold upI
    rw [zip_iff.mpr up]
    rfl
  have k2 : spansOk (some (rs.map Gx.prD)) = true := by
    unfold spansOk
    dsimp only
    rw [List.length_map, decide_eq_true lr, Bool.true_and, List.all_map]
    exact List.all_eq_true.mpr fun r h => decide_eq_true (hr r h)
  have k3 : putsOk (some (ks.map PyData.int)) (some (ps.map PyData.int)) = true := by
    unfold putsOk liOk
    dsimp only
    rw [ai, mi, Option.getD_some, mi, List.length_map, decide_eq_true lp]
    have : (ps.any fun n => decide (n ∈ ks)) = false := List.any_eq_false.mpr fun n hn => by simpa using hp n hn
    rw [this]
    rfl
  unfold chk
  rw [k1, k2, k3]
  rfl
end Gk

/-! law k47 -/
namespace Gk
open PySem L2 Gx
open LamX hiding takes0
open C8 (Cal Met Mak pe_c pe_mt pe_mt0 pe_mk pe_gc)
local macro_rules | `(tactic| walk_at "g") => `(tactic| (first
  | with_reducible refine g_seq ?_ | with_reducible refine g_asg ?_ | ((with_reducible show tVar _ _ _ _); refine g_var rfl ?_) | with_reducible refine g_c ?_ | with_reducible refine g_name ?_ | with_reducible refine g_op ?_ | with_reducible refine g_I0 ?_
  | with_reducible refine g_cons ?_ | with_reducible refine g_nil ?_ | with_reducible refine g_exbl ?_ | with_reducible refine g_exint ?_ | with_reducible refine g_test ?_ | with_reducible refine g_B ?_ | with_reducible refine g_ifS ?_ | with_reducible refine g_ret ?_ | with_reducible refine g_retN ?_ | with_reducible refine g_next ?_
  | with_reducible refine g_CB ?_ | with_reducible refine g_sub ?_ | with_reducible refine g_drop ?_ | with_reducible refine g_not ?_ | with_reducible refine g_and ?_ | with_reducible refine g_or ?_ | with_reducible refine g_andV ?_ | with_reducible refine g_orV ?_ | with_reducible refine g_notV ?_ | with_reducible refine g_ifE ?_ | with_reducible refine g_isN ?_
  | with_reducible refine g_par ?_ | with_reducible refine g_expar ?_ | with_reducible refine g_chain ?_ | with_reducible refine g_un ?_ | with_reducible refine g_U ?_ | with_reducible refine g_bits ?_ | ((with_reducible show rEq _ _ _ _); refine g_eq rfl ?_) | ((with_reducible show rNe _ _ _ _); refine g_ne rfl ?_)
  | with_reducible refine g_for ?_ | with_reducible refine g_iRng1 ?_ | with_reducible refine g_iRng2 ?_ | with_reducible refine g_iList ?_ | with_reducible refine g_iTup ?_
  | ((with_reducible refine g_Imul ?hc ?_); (case hc => (first | (refine Or.inl ⟨?_, ?_⟩ <;> first | decide | omega) | (refine Or.inr ⟨?_, ?_⟩ <;> first | decide | omega))))
  | ((with_reducible refine g_Idiv ?hc ?_); (case hc => (first | (exact ⟨by decide, by decide⟩) | assumption)))
  | ((with_reducible refine g_Imod ?hc ?_); (case hc => (first | assumption | omega | decide)))
  | ((with_reducible refine g_exR1 ?hlo ?hhi ?_); (case hlo => omega); (case hhi => omega))
  | ((with_reducible refine g_exR2 ?hb ?_); (case hb => omega))
  | with_reducible refine g_lst ?_ | with_reducible refine g_tup ?_ | with_reducible refine g_call ?_ | with_reducible refine g_BM ?_ | with_reducible refine g_BM0 ?_
  | with_reducible refine g_intB ?_ | with_reducible refine g_lc ?_ | with_reducible refine g_yes ?_ | with_reducible refine g_iZip ?_ | with_reducible refine g_sl ?_ | with_reducible refine g_noP ?_ | with_reducible refine g_part ?_ | with_reducible refine g_gcons ?_ | with_reducible refine g_gnil ?_
  | with_reducible refine g_tfld ?_ | with_reducible refine g_tmeth ?_ | with_reducible refine g_tmake ?_ | with_reducible refine g_sfld ?_ | with_reducible refine g_tprop ?_ | with_reducible refine g_tstar ?_ | with_reducible refine g_tmethK ?_ | with_reducible refine g_isN1 ?_ | with_reducible refine g_notN1 ?_ | with_reducible refine g_callK0 ?_ | with_reducible refine g_m1 ?_ | with_reducible refine g_isstr ?_ | with_reducible refine g_iStr ?_ | with_reducible refine g_exS ?_ | with_reducible refine g_iEnum ?_))
local macro_rules | `(tactic| walk_at "gs1") => `(tactic| (first
  | with_reducible refine g_seq ?_ | with_reducible refine g_asg ?_ | ((with_reducible show tVar _ _ _ _); refine g_var rfl ?_) | with_reducible refine g_c ?_ | with_reducible refine g_name ?_ | with_reducible refine g_op ?_ | with_reducible refine g_I0 ?_
  | with_reducible refine g_cons ?_ | with_reducible refine g_nil ?_ | with_reducible refine g_exbl ?_ | with_reducible refine g_exint ?_ | with_reducible refine g_test ?_ | with_reducible refine g_B ?_ | with_reducible refine g_ifS ?_ | with_reducible refine g_retN ?_ | with_reducible refine g_next ?_
  | with_reducible refine g_CB ?_ | with_reducible refine g_sub ?_ | with_reducible refine g_drop ?_ | with_reducible refine g_not ?_ | with_reducible refine g_and ?_ | with_reducible refine g_or ?_ | with_reducible refine g_andV ?_ | with_reducible refine g_orV ?_ | with_reducible refine g_notV ?_ | with_reducible refine g_ifE ?_ | with_reducible refine g_isN ?_
  | with_reducible refine g_par ?_ | with_reducible refine g_expar ?_ | with_reducible refine g_chain ?_ | with_reducible refine g_un ?_ | with_reducible refine g_U ?_ | with_reducible refine g_bits ?_ | ((with_reducible show rEq _ _ _ _); refine g_eq rfl ?_) | ((with_reducible show rNe _ _ _ _); refine g_ne rfl ?_)
  | with_reducible refine g_for ?_ | with_reducible refine g_iRng1 ?_ | with_reducible refine g_iRng2 ?_ | with_reducible refine g_iList ?_ | with_reducible refine g_iTup ?_
  | ((with_reducible refine g_Imul ?hc ?_); (case hc => (first | (refine Or.inl ⟨?_, ?_⟩ <;> first | decide | omega) | (refine Or.inr ⟨?_, ?_⟩ <;> first | decide | omega))))
  | ((with_reducible refine g_Idiv ?hc ?_); (case hc => (first | (exact ⟨by decide, by decide⟩) | assumption)))
  | ((with_reducible refine g_Imod ?hc ?_); (case hc => (first | assumption | omega | decide)))
  | ((with_reducible refine g_exR1 ?hlo ?hhi ?_); (case hlo => omega); (case hhi => omega))
  | ((with_reducible refine g_exR2 ?hb ?_); (case hb => omega))
  | with_reducible refine g_lst ?_ | with_reducible refine g_tup ?_ | with_reducible refine g_call ?_ | with_reducible refine g_BM ?_ | with_reducible refine g_BM0 ?_
  | with_reducible refine g_intB ?_ | with_reducible refine g_lc ?_ | with_reducible refine g_yes ?_ | with_reducible refine g_iZip ?_ | with_reducible refine g_sl ?_ | with_reducible refine g_noP ?_ | with_reducible refine g_part ?_ | with_reducible refine g_gcons ?_ | with_reducible refine g_gnil ?_
  | with_reducible refine g_tfld ?_ | with_reducible refine g_tmeth ?_ | with_reducible refine g_tmake ?_ | with_reducible refine g_sfld ?_ | with_reducible refine g_tprop ?_ | with_reducible refine g_tstar ?_ | with_reducible refine g_tmethK ?_ | with_reducible refine g_isN1 ?_ | with_reducible refine g_notN1 ?_ | with_reducible refine g_callK0 ?_ | with_reducible refine g_m1 ?_ | with_reducible refine g_isstr ?_ | with_reducible refine g_iStr ?_ | with_reducible refine g_exS ?_ | with_reducible refine g_iEnum ?_))
local macro_rules | `(tactic| walk_at "gx1") => `(tactic| (first
  | with_reducible refine g_seq ?_ | with_reducible refine g_asg ?_ | ((with_reducible show tVar _ _ _ _); refine g_var rfl ?_) | with_reducible refine g_c ?_ | with_reducible refine g_name ?_ | with_reducible refine g_op ?_ | with_reducible refine g_I0 ?_
  | with_reducible refine g_cons ?_ | with_reducible refine g_nil ?_ | with_reducible refine g_exbl ?_ | with_reducible refine g_exint ?_ | with_reducible refine g_test ?_ | with_reducible refine g_B ?_ | with_reducible refine g_ifS ?_ | with_reducible refine g_retN ?_ | with_reducible refine g_next ?_
  | with_reducible refine g_CB ?_ | with_reducible refine g_sub ?_ | with_reducible refine g_drop ?_ | with_reducible refine g_not ?_ | with_reducible refine g_and ?_ | with_reducible refine g_or ?_ | with_reducible refine g_andV ?_ | with_reducible refine g_orV ?_ | with_reducible refine g_notV ?_ | with_reducible refine g_ret ?_ | with_reducible refine g_isN ?_
  | with_reducible refine g_par ?_ | with_reducible refine g_expar ?_ | with_reducible refine g_chain ?_ | with_reducible refine g_un ?_ | with_reducible refine g_U ?_ | with_reducible refine g_bits ?_ | ((with_reducible show rEq _ _ _ _); refine g_eq rfl ?_) | ((with_reducible show rNe _ _ _ _); refine g_ne rfl ?_)
  | with_reducible refine g_for ?_ | with_reducible refine g_iRng1 ?_ | with_reducible refine g_iRng2 ?_ | with_reducible refine g_iList ?_ | with_reducible refine g_iTup ?_
  | ((with_reducible refine g_Imul ?hc ?_); (case hc => (first | (refine Or.inl ⟨?_, ?_⟩ <;> first | decide | omega) | (refine Or.inr ⟨?_, ?_⟩ <;> first | decide | omega))))
  | ((with_reducible refine g_Idiv ?hc ?_); (case hc => (first | (exact ⟨by decide, by decide⟩) | assumption)))
  | ((with_reducible refine g_Imod ?hc ?_); (case hc => (first | assumption | omega | decide)))
  | ((with_reducible refine g_exR1 ?hlo ?hhi ?_); (case hlo => omega); (case hhi => omega))
  | ((with_reducible refine g_exR2 ?hb ?_); (case hb => omega))
  | with_reducible refine g_lst ?_ | with_reducible refine g_tup ?_ | with_reducible refine g_call ?_ | with_reducible refine g_BM ?_ | with_reducible refine g_BM0 ?_
  | with_reducible refine g_intB ?_ | with_reducible refine g_lc ?_ | with_reducible refine g_yes ?_ | with_reducible refine g_iZip ?_ | with_reducible refine g_sl ?_ | with_reducible refine g_noP ?_ | with_reducible refine g_part ?_ | with_reducible refine g_gcons ?_ | with_reducible refine g_gnil ?_
  | with_reducible refine g_tfld ?_ | with_reducible refine g_tmeth ?_ | with_reducible refine g_tmake ?_ | with_reducible refine g_sfld ?_ | with_reducible refine g_tprop ?_ | with_reducible refine g_tstar ?_ | with_reducible refine g_tmethK ?_ | with_reducible refine g_isN1 ?_ | with_reducible refine g_notN1 ?_ | with_reducible refine g_callK0 ?_ | with_reducible refine g_m1 ?_ | with_reducible refine g_isstr ?_ | with_reducible refine g_iStr ?_ | with_reducible refine g_exS ?_ | with_reducible refine g_iEnum ?_))
local macro_rules | `(tactic| walk_at "hp") => `(tactic| (first | assumption | exact upd_same | (refine same_get (by assumption) ?_; walk_at "hp")))
local macro_rules | `(tactic| walk_at "sm") => `(tactic| (first | assumption | exact Same.refl _ | (refine Same.trans ?ha (by assumption); walk_at "sm")))
local macro_rules | `(tactic| walk_at "nn") => `(tactic| (first | assumption | (refine same_free (by assumption) ?_; walk_at "nn")))
local macro_rules | `(tactic| walk_at "sb") => `(tactic| (first | decide | (refine small_bits ?_ ?_ <;> omega)))
local macro_rules | `(tactic| walk_at "ln") => `(tactic| (simp only [List.length_cons, List.length_nil]; omega))
local macro_rules | `(tactic| walk_at "gg") => `(tactic| (repeat walk_at "g"))
local macro_rules | `(tactic| walk_at "gs") => `(tactic| (repeat walk_at "gs1"))
local macro_rules | `(tactic| walk_at "gx") => `(tactic| (repeat walk_at "gx1"))

local macro_rules | `(tactic| walk_at "g") => `(tactic| (first | with_reducible refine g_cX ?_ | with_reducible refine g_cKX ?_))
section
variable {P : Program} {w : World} {K : PySem.W.Frag} {mg : Str → Option Value} {base : Heap} {X : Cx} {H : Hp}
def spLaw (TT : List (Addr × Str)) (K : PySem.W.Frag) : Sp := fun vs H Q _ => ∃ (a : Addr) (ns : List Int), vs = [.ref a] ∧ SqL K H a (ns.map V.int) ∧ Tabs TT H ∧ ∀ H', Q (.bl true) H'
abbrev s_law : Stmt := top 35
abbrev N_law : List Str := ["_law_script", "_law_k", "_law_tape_here", "_law_turn", "_law_some_keys", "_law_starts", "_law_spans", "_law_some_puts", "_law_step", "_law_a", "_law_x"]
theorem sc_law : FnScope N_law ["_law_script"] (defScope s_law) := ⟨rfl, rfl, rfl, by decide +kernel, rfl, by decide +kernel, by decide +kernel⟩

theorem ok_law {f CE CR CI : Addr} {fd : FuncData} {TT : List (Addr × Str)} (D : Dn K mg "law" s_law ["_law_script"] f fd) (T : Bt mg) (c__law_tape : Cal P w K mg base 1 "_law_tape" (spTape K) []) (c__law_next : Cal P w K mg base 1 "_law_next" spNext [])
    (c__law_right : CalG P w K mg base 6 "_law_right" (spRight47 K TT)) (c_fewest_spacers : CalX P w K mg base 4 "fewest_spacers" (spFewestG K CI TT)) (c_needless : CalXN P w K mg base 4 "needless" (spNeed K CE CR)) : FnG P w K mg base 7 f fd ["_law_script"] (spLaw TT K) := by
  refine fnG_of D.fn sc_law (fun vs H Q E h => ?_) (fun cdv A outer s H vs Q E gd hr h => ?_)
  · obtain ⟨a, ns, rfl, _⟩ := h
    rfl
  · obtain ⟨a, ns, rfl, ha, hT, k⟩ := h
    refine ⟨_, (pss_cons (ps_for PassesOwn.never rfl (pi_range1 (by rfl) T.n_range (pa_cons (pe_callB (cr_maxQ rfl) (by rfl) T.n_max bt_max (pa_cons pe_int (pa_cons (pe_callB (cr_minQ rfl) (by rfl) T.n_min bt_min (pa_cons pe_int (pa_cons (pe_callB cr_lenQ (by rfl) T.n_len bt_len (pa_cons (pv 0) pa_nil)) pa_nil))) pa_nil))) pa_nil)) (pg_name (i := 1) sc_law.nd rfl (Or.inl rfl)) (pss_cons (ps_set (i := 2) sc_law.nd rfl (Or.inr rfl) (pe_c c__law_tape hr (by decide) (by rfl) (pa_cons (pv 0) (pa_cons (pv 1) pa_nil))))
    (pss_one (ps_for PassesOwn.never rfl (pi_range1 (by rfl) T.n_range (pa_cons pe_int pa_nil)) (pg_name (i := 3) sc_law.nd rfl (Or.inl rfl)) (pss_cons (ps_set (i := 4) sc_law.nd rfl (Or.inr rfl) (pe_callB (cr_sortAny rfl) (by rfl) T.n_sorted bt_sorted (pa_cons (pe_callTy (cr_setAny rfl hr) (by rfl) T.n_set bt_set (pa_cons (pe_lc (own := [("_law_step", 8)]) (g := gName 8) (tt := tYes) rfl sc_law.nd (pi_range1 (by rfl) T.n_range (pa_cons (pe_c c__law_next hr (by decide) (by rfl) (pa_cons (pv 2) (pa_cons pe_int pa_nil))) pa_nil)) (blkOk_by (own := [("_law_step", 8)]) (N := N_law) (sc := defScope s_law) (by decide +kernel)) (fun _ _ _ _ _ => pg_name (i := 8) sc_law.nd rfl (Or.inl rfl)) (fun _ _ _ _ _ => pts_nil) (fun _ _ _ _ _ => (pe_op op_sub (pe_c c__law_next hr (by decide) (by rfl) (pa_cons (pv 2) (pa_cons pe_int pa_nil))) pe_int))) pa_nil)) pa_nil)))
    (pss_cons (ps_setLc (i := 5) (own := [("_law_step", 8)]) (g := gName 8) (tt := tYes) rfl sc_law.nd rfl rfl (sw_true rfl rfl rfl (by decide +kernel)) (pi_range1 (by rfl) T.n_range (pa_cons (pe_c c__law_next hr (by decide) (by rfl) (pa_cons (pv 2) (pa_cons pe_int pa_nil))) pa_nil)) (blkOk_by (own := [("_law_step", 8)]) (N := N_law) (sc := defScope s_law) (by decide +kernel)) (fun _ _ _ _ _ => pg_name (i := 8) sc_law.nd rfl (Or.inl rfl)) (fun _ _ _ _ _ => pts_nil) (fun _ _ _ _ _ => (pe_op op_sub (pe_c c__law_next hr (by decide) (by rfl) (pa_cons (pv 2) (pa_cons pe_int pa_nil))) pe_int)))
    (pss_cons (ps_setLc (i := 6) (own := [("_law_a", 9)]) (g := gName 9) (tt := tYes) rfl sc_law.nd rfl rfl (sw_true rfl rfl rfl (by decide +kernel)) (pi_list (pv 5)) (blkOk_by (own := [("_law_a", 9)]) (N := N_law) (sc := defScope s_law) (by decide +kernel)) (fun _ _ _ _ _ => pg_name (i := 9) sc_law.nd rfl (Or.inl rfl)) (fun _ _ _ _ _ => pts_nil) (fun _ _ _ _ _ => (pe_tup (pa_cons (pv 9) (pa_cons (pe_op op_add (pv 9) (pe_ix (show IxR _ (rIxL K) from ix_list) (pe_lst (pa_cons pe_int (pa_cons (pe_c c__law_next hr (by decide) (by rfl) (pa_cons (pv 2) (pa_cons pe_int pa_nil))) pa_nil))) (pe_c c__law_next hr (by decide) (by rfl) (pa_cons (pv 2) (pa_cons pe_int pa_nil))) (fun _ _ => rfl))) pa_nil)))))
    (pss_cons (ps_setLc (i := 7) (own := [("_law_step", 8)]) (g := gName 8) (tt := tYes) rfl sc_law.nd rfl rfl (sw_true rfl rfl rfl (by decide +kernel)) (pi_range1 (by rfl) T.n_range (pa_cons (pe_c c__law_next hr (by decide) (by rfl) (pa_cons (pv 2) (pa_cons pe_int pa_nil))) pa_nil)) (blkOk_by (own := [("_law_step", 8)]) (N := N_law) (sc := defScope s_law) (by decide +kernel)) (fun _ _ _ _ _ => pg_name (i := 8) sc_law.nd rfl (Or.inl rfl)) (fun _ _ _ _ _ => pts_nil) (fun _ _ _ _ _ => (pe_op op_sub (pe_c c__law_next hr (by decide) (by rfl) (pa_cons (pv 2) (pa_cons pe_int pa_nil))) pe_int)))
    (pss_cons (ps_setLc (i := 7) (own := [("_law_x", 10)]) (g := gName 10) rfl sc_law.nd rfl rfl (sw_true rfl rfl rfl (by decide +kernel)) (pi_list (pv 7)) (blkOk_by (own := [("_law_x", 10)]) (N := N_law) (sc := defScope s_law) (by decide +kernel)) (fun _ _ _ _ _ => pg_name (i := 10) sc_law.nd rfl (Or.inl rfl)) (fun _ _ _ _ _ => (pts_one (pt_cmpR (show OpR _ (compareOp .NotIn) (rIn K true) from op_notIn_seq) (pv 10) (pv 4) (by rfl)))) (fun _ _ _ _ _ => (pv 10)))
    (pss_one (ps_if (pt_not (pt_val (pe_cG c__law_right gd hr (by decide) (by rfl) (pa_cons (pv 4) (pa_cons (pv 6) (pa_cons (pv 7) pa_nil)))))) (pss_one (ps_ret pe_bl)) pss_nil)))))))))))
    (pss_one (ps_ret (pe_and (pe_cmpR (op_neD hr.units) ( pe_cX (E := fun _ _ _ _ => False) c_fewest_spacers hr (by decide) (by rfl) (passN) (pa_cons (pe_lst (pa_cons pe_int (pa_cons pe_int pa_nil))) (pa_cons (pe_lst (pa_cons (pe_tup (pa_cons pe_int (pa_cons pe_int pa_nil))) pa_nil)) (pa_cons (pe_lst (pa_cons pe_int (pa_cons pe_int (pa_cons pe_int pa_nil)))) pa_nil)))) (pe_lst pa_nil) (nomark _)) (pe_one (pe_cmpR (op_eqD hr.units) (pe_cXN (E := fun _ _ _ _ => False) c_needless hr (by decide) (by rfl) passNN (pa_cons (pe_lst pa_nil) (pa_cons (pe_lst (pa_cons (pe_tup (pa_cons pe_int (pa_cons pe_int pa_nil))) pa_nil)) (pa_cons (pe_lst (pa_cons pe_int pa_nil)) pa_nil)))) (pe_lst pa_nil) (nomark _))))))), ?_⟩
    walk_at "gg"
    refine g_len ha ?_
    walk_at "gg"
    refine g_min2 fun m _ m3 _ => ?_
    walk_at "gg"
    refine g_max2 fun n n1 _ n2 => ?_
    walk_at "gg"
    refine fw_range (fun i σ H' => ∃ (v1 v2 v3 v4 v5 v6 v7 v8 v9 v10 : Option V), σ = [some (.ref a), v1, v2, v3, v4, v5, v6, v7, v8, v9, v10] ∧ SqL K H' a (ns.map V.int) ∧ Tabs TT H') ⟨none, none, none, none, none, none, none, none, none, none, rfl, ha, hT⟩ ?_ ?_
    · rintro i σ H1 hi ⟨v1, v2, v3, v4, v5, v6, v7, v8, v9, v10, rfl, ha1, T1⟩
      generalize hj : (0 + (i : Int)) = j
      walk_at "gg"
      refine ⟨a, ns, j, rfl, ha1, by omega, by omega, fun f H2 nf S2 tf => ?_⟩
      have ha2 := same_sq S2 ha1
      have T2 := tabs_same T1 S2
      walk_at "gg"
      refine fw_range (fun i σ H' => ∃ (cc : Nat) (v3 v4 v5 v6 v7 v8 v9 v10 : Option V), σ = [some (.ref a), some (.int j), some (.ref f), v3, v4, v5, v6, v7, v8, v9, v10] ∧ SqL K H' a (ns.map V.int) ∧ Tabs TT H' ∧ Tape cc H' f ∧ cc ≤ 50 * i) ⟨0, _, _, _, _, _, _, _, _, rfl, ha2, T2, tf, by omega⟩ ?_ ?_
      · rintro i2 σ H3 hi2 ⟨cc, v3, v4, v5, v6, v7, v8, v9, v10, rfl, ha3, T3, t3, c3⟩
        have i6 : i2 < 6 := hi2
        walk_at "gg"
        refine g_nxt t3 (by omega) (by decide) (by decide) fun n4 H4 n40 n41 B4 t4 => ?_
        have ha4 := sq_tape t3 B4 ha3
        have T4 := t3.tabs B4 T3
        walk_at "gg"
        refine lc_draw (K := K) (α := Int) (m := 1) (fun k => -2 ≤ k ∧ k ≤ 12) t4 (by omega) src_rngB (fun q x c2 H' Nx hq it b t l kx => ?_) fun p5 c5 xs5 H5 n5 B5 t5 l5 ln5 b5 e5 => ?_
        · subst it
          walk_at "gg"
          refine ⟨rfl, ?_⟩
          walk_at "gg"
          refine g_nxt t (by omega) (by decide) (by decide) fun r H6 r0 r1 B6 t6 => ?_
          walk_at "gg"
          exact kx _ (r - 2) _ H6 B6 t6 (Nat.le_refl _) (.int _) ⟨by omega, by omega⟩
        have ha5 := sq_tape t4 B5 ha4
        have T5 := t4.tabs B5 T4
        walk_at "gg"
        refine Sk.mkS (α := Int) e5 (by omega) fun q6 H6 n6 S6 e6 => ?_
        refine Sk.srt (α := Int) e6 fun ks p7 H7 uk mk lk n7 S7 e7 => ?_
        have S57 := S6.trans S7
        have ha7 := same_sq S57 ha5
        have T7 := tabs_same T5 S57
        have t7 := t5.same S57
        have hk7 := ptsI_of e7
        have lks : ks.length ≤ 4 := by omega
        have bk : ∀ k ∈ ks, smallI k := fun k h => by
          have := b5 k ((mk k).mp h)
          unfold smallI
          omega
        clear e5 e6 e7 S6 S7 S57 n5 n6 n7 ha5 ha4 ha3 T3 T4 T5 t3 t4 t5 B4 B5 b5
        walk_at "gg"
        refine g_nxt t7 (by omega) (by decide) (by decide) fun n8 H8 n80 n81 B8 t8 => ?_
        have ha8 := sq_tape t7 B8 ha7
        have T8 := t7.tabs B8 T7
        have hk8 := lst_tape t7 B8 hk7
        walk_at "gg"
        refine lc_draw (K := K) (α := Int) (m := 1) (fun k => -1 ≤ k ∧ k ≤ 11) t8 (by omega) src_rngB (fun q x c2 H' Nx hq it b t l kx => ?_) fun p9 c9 ss H9 n9 B9 t9 l9 ln9 b9 e9 => ?_
        · subst it
          walk_at "gg"
          refine ⟨rfl, ?_⟩
          walk_at "gg"
          refine g_nxt t (by omega) (by decide) (by decide) fun r H6 r0 r1 B6 t6 => ?_
          walk_at "gg"
          exact kx _ (r - 1) _ H6 B6 t6 (Nat.le_refl _) (.int _) ⟨by omega, by omega⟩
        have ha9 := sq_tape t8 B9 ha8
        have T9 := t8.tabs B9 T8
        have hk9 := lst_tape t8 B9 hk8
        clear ha7 ha8 T7 T8 hk7 hk8 B8 B9 t7 t8
        walk_at "gg"
        have hs9 := ptsI_of e9
        refine ⟨_, rfl, ⟨_, SqL.of hs9⟩, ?_⟩
        refine lc_draw (K := K) (α := Pr) (m := 2) (n := ss.length) (item := fun i x => ∃ k, ss[i]? = some k ∧ x = .int k) (fun r => -1 ≤ r.1 ∧ r.1 ≤ r.2 ∧ r.2 ≤ 14) t9 (by omega) ?_ (fun q x c2 H' Nx hq it b t l kx => ?_) fun p10 c10 rs H10 n10 B10 t10 l10 ln10 b10 e10 => ?_
        · intro Hh b i
          have z := src_lstB (K := K) hs9 (ne_tape t9 hs9) Hh b i
          rw [List.length_map] at z
          refine ⟨fun hi => ⟨(z.1 hi).1, fun x H' y => ?_⟩, z.2⟩
          obtain ⟨e1, e2⟩ := (z.1 hi).2 x H' y
          rw [List.getElem?_map] at e2
          obtain ⟨k0, hk0, rfl⟩ := Option.map_eq_some_iff.mp e2
          exact ⟨e1, k0, hk0, rfl⟩
        · obtain ⟨k0, hk0, rfl⟩ := it
          have bk0 := b9 k0 (List.mem_of_getElem? hk0)
          walk_at "gg"
          refine ⟨rfl, ?_⟩
          walk_at "gg"
          refine g_nxt t (by omega) (by decide) (by decide) fun r H11 r0 r1 B11 t11 => ?_
          walk_at "gg"
          refine g_mkL (by walk_at "ln") fun p12 H12 n12 S12 e12 => ?_
          walk_at "gg"
          refine g_nxt (t11.same S12) (by omega) (by decide) (by decide) fun r2 H13 r20 r21 B13 t13 => ?_
          refine g_ixI (fun n => 0 ≤ n ∧ n ≤ 3) (lst_tape (t11.same S12) B13 e12) r20 r21 (all_cons ⟨_, rfl, by omega⟩ (all_cons ⟨_, rfl, by omega⟩ all_nil)) fun mo ⟨mo1, mo2⟩ => ?_
          walk_at "gg"
          refine g_mkT (by walk_at "ln") fun p14 H14 n14 S14 e14 => ?_
          exact kx _ (k0, k0 + mo) _ H14 (but_trans B11 (but_trans (but_of S12) (but_trans B13 (but_of S14)))) (t13.same S14) (by omega) (.tup (SqT.of e14) (.cons (.int _) (.cons (.int _) .nil))) ⟨by omega, by omega, by omega⟩
        have ha10 := sq_tape t9 B10 ha9
        have T10 := t9.tabs B10 T9
        have hk10 := lst_tape t9 B10 hk9
        clear ha9 T9 hk9 hs9 e9 b9 B10 t9
        walk_at "gg"
        refine g_nxt t10 (by omega) (by decide) (by decide) fun n11 H11 n110 n111 B11 t11 => ?_
        have ha11 := sq_tape t10 B11 ha10
        have T11 := t10.tabs B11 T10
        have hk11 := lst_tape t10 B11 hk10
        have hr11 := pts_tape t10 B11 e10
        walk_at "gg"
        refine lc_draw (K := K) (α := Int) (m := 1) (fun k => -2 ≤ k ∧ k ≤ 12) t11 (by omega) src_rngB (fun q x c2 H' Nx hq it b t l kx => ?_) fun p12 c12 qs H12 n12 B12 t12 l12 ln12 b12 e12 => ?_
        · subst it
          walk_at "gg"
          refine ⟨rfl, ?_⟩
          walk_at "gg"
          refine g_nxt t (by omega) (by decide) (by decide) fun r H6 r0 r1 B6 t6 => ?_
          walk_at "gg"
          exact kx _ (r - 2) _ H6 B6 t6 (Nat.le_refl _) (.int _) ⟨by omega, by omega⟩
        have ha12 := sq_tape t11 B12 ha11
        have T12 := t11.tabs B12 T11
        have hk12 := lst_tape t11 B12 hk11
        have hr12 := pts_tape t11 B12 hr11
        clear ha10 ha11 T10 T11 hk10 hk11 hr11 e10 B11 B12 t10 t11
        have hq12 := ptsI_of e12
        walk_at "gg"
        refine ⟨_, rfl, ⟨_, SqL.of hq12⟩, ?_⟩
        refine lc_filtI (SqL.of hq12) (by omega) (fun x => !decide (x ∈ ks)) (fun x H' Nx No hx S ky kn => ?_) fun p13 H13 n13 S13 e13 => ?_
        · walk_at "gg"
          refine ⟨rfl, ?_⟩
          walk_at "gg"
          refine g_notInI (SqL.of (S _ _ hk12)) ?_
          walk_at "gg"
          refine g_iteNd (fun c => ?_) (fun c => ?_)
          · walk_at "gg"
            exact ky _ (Same.refl _) (by simpa using c)
          · exact kn _ (Same.refl _) (by simpa using c)
        walk_at "gg"
        have lf : (qs.filter fun x => !decide (x ∈ ks)).length ≤ qs.length := List.length_filter_le _ _
        refine ⟨p7, p10, p13, ks, rs, _, rfl, S13 _ _ hk12, hr12.same S13, e13, chk_drawn uk (by omega) (fun r h => (b10 r h).2.1) (by omega) (fun p h => by simpa using (List.mem_filter.mp h).2) (by omega), tabs_same T12 S13, bk, fun p h => ?_, fun r h => ?_, fun H14 X14 T14 => ?_⟩
        · have := b12 p (List.mem_filter.mp h).1
          unfold smallI
          omega
        · have := b10 r h
          unfold smallI
          omega
        · walk_at "gg"
          exact ⟨c12, _, _, _, _, _, _, _, _, rfl, kp_sqL X14.kp (same_sq S13 ha12), T14, tape_smT (t12.same S13) X14, by omega⟩
      · rintro σ H3 ⟨cc, v3, v4, v5, v6, v7, v8, v9, v10, rfl, ha3, T3, t3, c3⟩
        exact ⟨_, _, _, _, _, _, _, _, _, _, rfl, ha3, T3⟩
    · rintro σ H1 ⟨v1, v2, v3, v4, v5, v6, v7, v8, v9, v10, rfl, ha1, T1⟩
      clear ha hT
      walk_at "gg"
      refine g_mkL (by walk_at "ln") fun p2 H2 n2 S2 e2 => ?_
      walk_at "gg"
      refine g_mkT (by walk_at "ln") fun p3 H3 n3 S3 e3 => ?_
      walk_at "gg"
      refine g_mkL (by walk_at "ln") fun p4 H4 n4 S4 e4 => ?_
      walk_at "gg"
      refine g_mkL (by walk_at "ln") fun p5 H5 n5 S5 e5 => ?_
      walk_at "gg"
      have S25 := (S3.trans S4).trans S5
      have rp : PtsL K H5 p4 [((10, 20) : Pr)] := ⟨_, S5 _ _ e4, .cons (.tup (SqT.of ((S4.trans S5) _ _ e3)) (.cons (.int _) (.cons (.int _) .nil))) .nil⟩
      have no : blockedR [30, 50, 5] (wishRows [0, 100] [(10, 20)] [30, 50, 5]) = none := by decide +kernel
      refine ⟨p2, p4, p5, [0, 100], [(10, 20)], [30, 50, 5], rfl, S25 _ _ e2, rp, e5, ⟨by decide +kernel, by decide, by decide, by decide⟩, tabs_same T1 (S2.trans S25), fun r h => (by rw [no] at h; cases h), fun _ l ms H6 nl X6 T6 e6 pm up => ?_⟩
      have ne : ms ≠ [] := fun z => by
        have g := (good_hits (rows_up _ _ _) no pm up).1
        rw [z] at g
        revert g
        decide +kernel
      walk_at "gg"
      refine g_mkL (by walk_at "ln") fun p7 H7 n7 S7 e7 => ?_
      walk_at "gg"
      refine g_neNil (ptsI (S7 _ _ e6)) e7 ?_
      refine ⟨_, rfl, ?_⟩
      refine g_ifT (by simp [ne]) ?_
      walk_at "gg"
      refine g_mkL (by walk_at "ln") fun p8 H8 n8 S8 e8 => ?_
      walk_at "gg"
      refine g_mkT (by walk_at "ln") fun p9 H9 n9 S9 e9 => ?_
      walk_at "gg"
      refine g_mkL (by walk_at "ln") fun p10 H10 n10 S10 e10 => ?_
      walk_at "gg"
      refine g_mkL (by walk_at "ln") fun p11 H11 n11 S11 e11 => ?_
      walk_at "gg"
      have S811 := (S9.trans S10).trans S11
      refine ⟨_, _, _, some [], some [.tuple [.int 1, .int 1]], some [.int 1], rfl, .lst (S811 _ _ e8) .nil (by decide), .lst (S11 _ _ e10) (.cons (.tup (SqT.of ((S10.trans S11) _ _ e9)) (.cons (.int _) (.cons (.int _) .nil))) .nil) (by decide), .lst e11 (.cons (.int _) .nil) (by decide), fun c0 l2 H12 nl2 S12 e12 => ?_, fun c => absurd c (by decide +kernel), fun c => absurd c (by decide +kernel)⟩
      walk_at "gg"
      refine g_mkL (by walk_at "ln") fun p13 H13 n13 S13 e13 => ?_
      walk_at "gg"
      refine g_eqNil (e12.same S13) e13 ?_
      have z : decide ((wishRows (kI (some [])) (rP (some [.tuple [.int 1, .int 1]])) (kI (some [.int 1]))).map rowPr = []) = true := by decide +kernel
      rw [z]
      exact k _
end
end Gk

/-! Impossible is made -/
namespace Gk
open PySem L2 Gx
open C8 (Cal Met Mak pe_c pe_mt pe_mt0 pe_mk pe_gc)
local macro_rules | `(tactic| walk_at "g") => `(tactic| (first
  | with_reducible refine g_seq ?_ | with_reducible refine g_asg ?_ | ((with_reducible show tVar _ _ _ _); refine g_var rfl ?_) | with_reducible refine g_c ?_ | with_reducible refine g_name ?_ | with_reducible refine g_op ?_ | with_reducible refine g_I0 ?_
  | with_reducible refine g_cons ?_ | with_reducible refine g_nil ?_ | with_reducible refine g_exbl ?_ | with_reducible refine g_exint ?_ | with_reducible refine g_test ?_ | with_reducible refine g_B ?_ | with_reducible refine g_ifS ?_ | with_reducible refine g_ret ?_ | with_reducible refine g_retN ?_ | with_reducible refine g_next ?_
  | with_reducible refine g_CB ?_ | with_reducible refine g_sub ?_ | with_reducible refine g_drop ?_ | with_reducible refine g_not ?_ | with_reducible refine g_and ?_ | with_reducible refine g_or ?_ | with_reducible refine g_andV ?_ | with_reducible refine g_orV ?_ | with_reducible refine g_notV ?_ | with_reducible refine g_ifE ?_ | with_reducible refine g_isN ?_
  | with_reducible refine g_par ?_ | with_reducible refine g_expar ?_ | with_reducible refine g_chain ?_ | with_reducible refine g_un ?_ | with_reducible refine g_U ?_ | with_reducible refine g_bits ?_ | ((with_reducible show rEq _ _ _ _); refine g_eq rfl ?_) | ((with_reducible show rNe _ _ _ _); refine g_ne rfl ?_)
  | with_reducible refine g_for ?_ | with_reducible refine g_iRng1 ?_ | with_reducible refine g_iRng2 ?_ | with_reducible refine g_iList ?_ | with_reducible refine g_iTup ?_
  | ((with_reducible refine g_Imul ?hc ?_); (case hc => (first | (refine Or.inl ⟨?_, ?_⟩ <;> first | decide | omega) | (refine Or.inr ⟨?_, ?_⟩ <;> first | decide | omega))))
  | ((with_reducible refine g_Idiv ?hc ?_); (case hc => (first | (exact ⟨by decide, by decide⟩) | assumption)))
  | ((with_reducible refine g_Imod ?hc ?_); (case hc => (first | assumption | omega | decide)))
  | ((with_reducible refine g_exR1 ?hlo ?hhi ?_); (case hlo => omega); (case hhi => omega))
  | ((with_reducible refine g_exR2 ?hb ?_); (case hb => omega))
  | with_reducible refine g_lst ?_ | with_reducible refine g_tup ?_ | with_reducible refine g_call ?_ | with_reducible refine g_BM ?_ | with_reducible refine g_BM0 ?_
  | with_reducible refine g_intB ?_ | with_reducible refine g_lc ?_ | with_reducible refine g_yes ?_ | with_reducible refine g_iZip ?_ | with_reducible refine g_sl ?_ | with_reducible refine g_noP ?_ | with_reducible refine g_part ?_ | with_reducible refine g_gcons ?_ | with_reducible refine g_gnil ?_
  | with_reducible refine g_tfld ?_ | with_reducible refine g_tmeth ?_ | with_reducible refine g_tmake ?_ | with_reducible refine g_sfld ?_ | with_reducible refine g_tprop ?_ | with_reducible refine g_tstar ?_ | with_reducible refine g_tmethK ?_ | with_reducible refine g_isN1 ?_ | with_reducible refine g_notN1 ?_ | with_reducible refine g_callK0 ?_ | with_reducible refine g_m1 ?_ | with_reducible refine g_isstr ?_ | with_reducible refine g_iStr ?_ | with_reducible refine g_exS ?_ | with_reducible refine g_iEnum ?_))
local macro_rules | `(tactic| walk_at "gs1") => `(tactic| (first
  | with_reducible refine g_seq ?_ | with_reducible refine g_asg ?_ | ((with_reducible show tVar _ _ _ _); refine g_var rfl ?_) | with_reducible refine g_c ?_ | with_reducible refine g_name ?_ | with_reducible refine g_op ?_ | with_reducible refine g_I0 ?_
  | with_reducible refine g_cons ?_ | with_reducible refine g_nil ?_ | with_reducible refine g_exbl ?_ | with_reducible refine g_exint ?_ | with_reducible refine g_test ?_ | with_reducible refine g_B ?_ | with_reducible refine g_ifS ?_ | with_reducible refine g_retN ?_ | with_reducible refine g_next ?_
  | with_reducible refine g_CB ?_ | with_reducible refine g_sub ?_ | with_reducible refine g_drop ?_ | with_reducible refine g_not ?_ | with_reducible refine g_and ?_ | with_reducible refine g_or ?_ | with_reducible refine g_andV ?_ | with_reducible refine g_orV ?_ | with_reducible refine g_notV ?_ | with_reducible refine g_ifE ?_ | with_reducible refine g_isN ?_
  | with_reducible refine g_par ?_ | with_reducible refine g_expar ?_ | with_reducible refine g_chain ?_ | with_reducible refine g_un ?_ | with_reducible refine g_U ?_ | with_reducible refine g_bits ?_ | ((with_reducible show rEq _ _ _ _); refine g_eq rfl ?_) | ((with_reducible show rNe _ _ _ _); refine g_ne rfl ?_)
  | with_reducible refine g_for ?_ | with_reducible refine g_iRng1 ?_ | with_reducible refine g_iRng2 ?_ | with_reducible refine g_iList ?_ | with_reducible refine g_iTup ?_
  | ((with_reducible refine g_Imul ?hc ?_); (case hc => (first | (refine Or.inl ⟨?_, ?_⟩ <;> first | decide | omega) | (refine Or.inr ⟨?_, ?_⟩ <;> first | decide | omega))))
  | ((with_reducible refine g_Idiv ?hc ?_); (case hc => (first | (exact ⟨by decide, by decide⟩) | assumption)))
  | ((with_reducible refine g_Imod ?hc ?_); (case hc => (first | assumption | omega | decide)))
  | ((with_reducible refine g_exR1 ?hlo ?hhi ?_); (case hlo => omega); (case hhi => omega))
  | ((with_reducible refine g_exR2 ?hb ?_); (case hb => omega))
  | with_reducible refine g_lst ?_ | with_reducible refine g_tup ?_ | with_reducible refine g_call ?_ | with_reducible refine g_BM ?_ | with_reducible refine g_BM0 ?_
  | with_reducible refine g_intB ?_ | with_reducible refine g_lc ?_ | with_reducible refine g_yes ?_ | with_reducible refine g_iZip ?_ | with_reducible refine g_sl ?_ | with_reducible refine g_noP ?_ | with_reducible refine g_part ?_ | with_reducible refine g_gcons ?_ | with_reducible refine g_gnil ?_
  | with_reducible refine g_tfld ?_ | with_reducible refine g_tmeth ?_ | with_reducible refine g_tmake ?_ | with_reducible refine g_sfld ?_ | with_reducible refine g_tprop ?_ | with_reducible refine g_tstar ?_ | with_reducible refine g_tmethK ?_ | with_reducible refine g_isN1 ?_ | with_reducible refine g_notN1 ?_ | with_reducible refine g_callK0 ?_ | with_reducible refine g_m1 ?_ | with_reducible refine g_isstr ?_ | with_reducible refine g_iStr ?_ | with_reducible refine g_exS ?_ | with_reducible refine g_iEnum ?_))
local macro_rules | `(tactic| walk_at "gx1") => `(tactic| (first
  | with_reducible refine g_seq ?_ | with_reducible refine g_asg ?_ | ((with_reducible show tVar _ _ _ _); refine g_var rfl ?_) | with_reducible refine g_c ?_ | with_reducible refine g_name ?_ | with_reducible refine g_op ?_ | with_reducible refine g_I0 ?_
  | with_reducible refine g_cons ?_ | with_reducible refine g_nil ?_ | with_reducible refine g_exbl ?_ | with_reducible refine g_exint ?_ | with_reducible refine g_test ?_ | with_reducible refine g_B ?_ | with_reducible refine g_ifS ?_ | with_reducible refine g_retN ?_ | with_reducible refine g_next ?_
  | with_reducible refine g_CB ?_ | with_reducible refine g_sub ?_ | with_reducible refine g_drop ?_ | with_reducible refine g_not ?_ | with_reducible refine g_and ?_ | with_reducible refine g_or ?_ | with_reducible refine g_andV ?_ | with_reducible refine g_orV ?_ | with_reducible refine g_notV ?_ | with_reducible refine g_ret ?_ | with_reducible refine g_isN ?_
  | with_reducible refine g_par ?_ | with_reducible refine g_expar ?_ | with_reducible refine g_chain ?_ | with_reducible refine g_un ?_ | with_reducible refine g_U ?_ | with_reducible refine g_bits ?_ | ((with_reducible show rEq _ _ _ _); refine g_eq rfl ?_) | ((with_reducible show rNe _ _ _ _); refine g_ne rfl ?_)
  | with_reducible refine g_for ?_ | with_reducible refine g_iRng1 ?_ | with_reducible refine g_iRng2 ?_ | with_reducible refine g_iList ?_ | with_reducible refine g_iTup ?_
  | ((with_reducible refine g_Imul ?hc ?_); (case hc => (first | (refine Or.inl ⟨?_, ?_⟩ <;> first | decide | omega) | (refine Or.inr ⟨?_, ?_⟩ <;> first | decide | omega))))
  | ((with_reducible refine g_Idiv ?hc ?_); (case hc => (first | (exact ⟨by decide, by decide⟩) | assumption)))
  | ((with_reducible refine g_Imod ?hc ?_); (case hc => (first | assumption | omega | decide)))
  | ((with_reducible refine g_exR1 ?hlo ?hhi ?_); (case hlo => omega); (case hhi => omega))
  | ((with_reducible refine g_exR2 ?hb ?_); (case hb => omega))
  | with_reducible refine g_lst ?_ | with_reducible refine g_tup ?_ | with_reducible refine g_call ?_ | with_reducible refine g_BM ?_ | with_reducible refine g_BM0 ?_
  | with_reducible refine g_intB ?_ | with_reducible refine g_lc ?_ | with_reducible refine g_yes ?_ | with_reducible refine g_iZip ?_ | with_reducible refine g_sl ?_ | with_reducible refine g_noP ?_ | with_reducible refine g_part ?_ | with_reducible refine g_gcons ?_ | with_reducible refine g_gnil ?_
  | with_reducible refine g_tfld ?_ | with_reducible refine g_tmeth ?_ | with_reducible refine g_tmake ?_ | with_reducible refine g_sfld ?_ | with_reducible refine g_tprop ?_ | with_reducible refine g_tstar ?_ | with_reducible refine g_tmethK ?_ | with_reducible refine g_isN1 ?_ | with_reducible refine g_notN1 ?_ | with_reducible refine g_callK0 ?_ | with_reducible refine g_m1 ?_ | with_reducible refine g_isstr ?_ | with_reducible refine g_iStr ?_ | with_reducible refine g_exS ?_ | with_reducible refine g_iEnum ?_))
local macro_rules | `(tactic| walk_at "hp") => `(tactic| (first | assumption | exact upd_same | (refine same_get (by assumption) ?_; walk_at "hp")))
local macro_rules | `(tactic| walk_at "sm") => `(tactic| (first | assumption | exact Same.refl _ | (refine Same.trans ?ha (by assumption); walk_at "sm")))
local macro_rules | `(tactic| walk_at "nn") => `(tactic| (first | assumption | (refine same_free (by assumption) ?_; walk_at "nn")))
local macro_rules | `(tactic| walk_at "sb") => `(tactic| (first | decide | (refine small_bits ?_ ?_ <;> omega)))
local macro_rules | `(tactic| walk_at "ln") => `(tactic| (simp only [List.length_cons, List.length_nil]; omega))
local macro_rules | `(tactic| walk_at "gg") => `(tactic| (repeat walk_at "g"))
local macro_rules | `(tactic| walk_at "gs") => `(tactic| (repeat walk_at "gs1"))
local macro_rules | `(tactic| walk_at "gx") => `(tactic| (repeat walk_at "gx1"))

section
variable {P : Program} {w : World} {K : PySem.W.Frag} {mg : Str → Option Value} {base : Heap} {X : Cx} {C LE : Addr} {mc : Value}
abbrev s_Impossible_init : Stmt := inClass (top 4) 0
abbrev N_Impossible_init : List Str := ["self", "index"]
theorem sc_Impossible_init : FnScope N_Impossible_init ["self", "index"] (defScope s_Impossible_init) := ⟨rfl, rfl, rfl, by decide +kernel, rfl, by decide +kernel, by decide +kernel⟩

theorem ok_impG {f : Addr} {fd : FuncData} (F : Fun K "__init__" "Impossible.__init__" s_Impossible_init f fd) (T : OexC K C) (np : PySem.W.findIn K (.ref C) "index" = some none) (hm : mg "LockError" = some (.ref LE)) (ga : PySem.W.specialIn K (.ref LE) "__getattribute__" = some (some (.builtin "type.__getattribute__")))
    (rd : PySem.W.readsIn K LE mc = true) (fc : PySem.W.findCls K (.ref LE) mc "__init__" = some (.val (.builtin "ValueError.__init__"))) : FnOk P w K mg base CX0 1 f fd ["self", "index"] (spExcI C "index") := by
  refine F.ok sc_Impossible_init (fun vs H Q E h => ?_) (fun cdv A outer s H vs Q E hr h => ?_)
  · obtain ⟨a, v, rfl, _⟩ := h
    rfl
  · obtain ⟨a, v, rfl, ha, k⟩ := h
    refine ⟨_, (pss_cons (ps_expr (pe_above (by rfl) hm ga rd fc (pa_cons (pv 0) (pa_cons pe_str pa_nil))))
    (pss_one (ps_ost (pv 0) (pv 1)))), ?_⟩
    walk_at "gg"
    refine g_veI ?_
    walk_at "gg"
    refine ⟨a, C, _, rfl, (by show 1 ≤ 1000; decide), T, ha, ?_⟩
    with_reducible refine g_ost ?_
    walk_at "gg"
    exact ⟨a, C, rfl, T, np, .inl ⟨ha, fun d nd ne => k d nd ne⟩⟩
end
end Gk

set_option maxHeartbeats 2000000
/-! the law's own call, where some defs make lambdas: the tables of their code objects are tracked from the start -/
namespace Gx
open PySem L2 PySem.Spec PyProof.Rows
/-- an empty table of code objects -/
abbrev tab0 : Obj := { cls := .none, data := .fields #[] }
/-- the script and the tables -/
def hpT (ts : List Addr) (a : Addr) (scr : Option HO) : Hp := fun b => if b ∈ ts then some (.tbl #[]) else if b = a then scr else none
theorem hpT_tab {ts : List Addr} {a b : Addr} {scr : Option HO} (h : b ∈ ts) : hpT ts a scr b = some (.tbl #[]) := if_pos h
theorem hpT_some {ts : List Addr} {a b : Addr} {scr : Option HO} {u : HO} (e : hpT ts a scr b = some u) : (b ∈ ts ∧ u = .tbl #[]) ∨ (b ∉ ts ∧ b = a ∧ scr = some u) := by
  unfold hpT at e
  split at e
  · exact .inl ⟨by assumption, (Option.some.inj e).symm⟩
  · split at e
    · exact .inr ⟨by assumption, by assumption, e⟩
    · cases e
theorem law_callT {P : Program} {w : World} {K : PySem.W.Frag} {mg mb : Str → Option Value} {k : Nat} {fa a : Addr} {cs : List (Addr × Addr)} {fd : FuncData} {x : Str} {sp : Sp} {s1 : Shared} {vs : List Value} {ns : List Int}
    (inK : K.In s1.heap) (gn : s1.heap.Ns mainGlobals mg) (bn : s1.heap.Ns builtinsNs mb) (bb : ∀ x : Str, x ≠ "__name__" → mb x = bootBuiltins x) (lim : s1.heap.NoLimit) (gens : s1.gens = #[])
    (tabs : ∀ p ∈ cs, s1.heap.get? p.2 = some tab0) (offK : ∀ p ∈ cs, K.lookup p.2 = none) (heads : ∀ p ∈ cs, PySem.W.CodeHd s1.heap p.1 p.2)
    (bmod : ∃ (bm : Addr) (ob : Obj), mg "__builtins__" = some (.ref bm) ∧ bm ≠ builtinsNs ∧ s1.heap.get? bm = some ob ∧ ob.cls = .type "module" ∧ ob.dict = some builtinsNs ∧ ob.data = .plain)
    (la : s1.heap.get? a = some { cls := .type "list", data := .seq vs.toArray }) (li : IntsAre vs ns) (ll : ns.length ≤ sizeLine) (room : Room k callerA)
    (F : ∀ base : Heap, K.In base → base.Ns mainGlobals mg → (∀ p ∈ cs, LamX.TabB base mg p.1 p.2) → FnG P w K mg base k fa fd [x] sp) (bnd : ∀ (s : Shared) (u : Value), BindsTo s fd ⟨[u], []⟩ [(x, u)])
    (goal : ∀ H : Hp, (∀ p ∈ cs, H p.2 = some (.tbl #[])) → SqL K H a (ns.map V.int) → sp [.ref a] H (fun v _ => v = .bl true) fun _ _ _ => False) :
    codeAny (model P w) callerA (.call (.ref fa) ⟨[.ref a], []⟩) (fun r s' => r = .ok (.ret (.bool true)) ∧ OldK s1.heap s'.heap ∧ s'.os = s1.os ∧ AllBare s'.gens) s1 := by
  have rel := vals_ints li
  let ts := cs.map (·.2)
  have inT : ∀ {p}, p ∈ cs → p.2 ∈ ts := fun {p} hp => List.mem_map.mpr ⟨p, hp, rfl⟩
  have at_T : ∀ {b}, b ∈ ts → s1.heap.get? b = some tab0 := fun {b} hb => by
    obtain ⟨p, hp, rfl⟩ := List.mem_map.mp hb
    exact tabs p hp
  have aT : a ∉ ts := fun z => by
    have e := (at_T z).symm.trans la
    exact (show False by cases (show Data.fields #[] = Data.seq vs.toArray _ from congrArg Obj.data (Option.some.inj e)))
  have key : ∀ scr : Option HO, (∀ u, scr = some u → K.lookup a = none ∧ u = .frz { cls := .type "list", data := .seq vs.toArray } (.lst (ns.map V.int))) → SqL K (hpT ts a scr) a (ns.map V.int) →
      codeAny (model P w) callerA (.call (.ref fa) ⟨[.ref a], []⟩) (fun r s' => r = .ok (.ret (.bool true)) ∧ OldK s1.heap s'.heap ∧ s'.os = s1.os ∧ AllBare s'.gens) s1 := by
    intro scr hscr sq
    -- what stands where nothing is tracked
    have nt : ∀ {b : Addr} {o : Obj}, s1.heap.get? b = some o → o.data ≠ .fields #[] → (∀ vs n, o.data ≠ .seq vs n) → hpT ts a scr b = none := fun {b o} e d1 d2 => by
      cases q : hpT ts a scr b with
      | none => rfl
      | some u =>
        rcases hpT_some q with ⟨h, _⟩ | ⟨_, rfl, _⟩
        · obtain rfl := Option.some.inj (e.symm.trans (at_T h))
          exact absurd rfl d1
        · obtain rfl := Option.some.inj (e.symm.trans la)
          exact absurd rfl (d2 _ _)
    have hid : ∀ {b : Addr} {o : Obj}, s1.heap.get? b = some o → o.data ≠ .fields #[] → (∀ vs n, o.data ≠ .seq vs n) → (hidT s1.heap (hpT ts a scr)).get? b = some o := fun e d1 d2 => hidT_get e (nt e d1 d2)
    have nsH : ∀ {b : Addr} {m : Str → Option Value}, s1.heap.Ns b m → (hidT s1.heap (hpT ts a scr)).Ns b m := fun {b m} ⟨o, es, ep, e, d, r⟩ => ⟨o, es, ep, hid e (by rw [d]; intro z; cases z) (fun vs n => by rw [d]; intro z; cases z), d, r⟩
    have inB : K.In (hidT s1.heap (hpT ts a scr)) := fun b o e => hidT_get (inK b o e) (by
      cases q : hpT ts a scr b with
      | none => rfl
      | some u =>
        rcases hpT_some q with ⟨h, _⟩ | ⟨_, rfl, h⟩
        · obtain ⟨p, hp, rfl⟩ := List.mem_map.mp h
          rw [offK p hp] at e
          cases e
        · rw [(hscr u h).1] at e
          cases e)
    have md : Mod K mg (hidT s1.heap (hpT ts a scr)) := ⟨inB, nsH gn, ⟨mb, nsH bn, bb⟩, (by obtain ⟨mc, h1, h2⟩ := lim; exact ⟨mc, nsH h1, h2⟩)⟩
    have gT : mainGlobals ∉ ts := fun z => by
      obtain ⟨o, es, ep, e, d, _⟩ := gn
      obtain rfl := Option.some.inj (e.symm.trans (at_T z))
      cases d
    have tb : ∀ p ∈ cs, LamX.TabB (hidT s1.heap (hpT ts a scr)) mg p.1 p.2 := fun p hp => by
      refine ⟨?_, ?_, fun z => gT (by rw [z]; exact inT hp)⟩
      · obtain ⟨o, us, file, tf, flags, tg, inF, text, tt, e, c1, c2, c3, rest⟩ := heads p hp
        refine ⟨o, us, file, tf, flags, tg, inF, text, tt, hid e (fun z => ?_) (fun vs n z => ?_), c1, c2, c3, rest⟩
        · have z2 := Data.fields.inj (c2.symm.trans z)
          rw [z2] at c3
          cases c3
        · cases c2.symm.trans z
      · obtain ⟨bm, ob, b1, b2, b3, b4, b5, b6⟩ := bmod
        refine ⟨bm, ob, b1, b2, fun z => ?_, fun z => ?_, hid b3 (by rw [b6]; intro z; cases z) (fun vs n => by rw [b6]; intro z; cases z), b4, b5, b6⟩
        · obtain ⟨o, es, ep, e, d, _⟩ := gn
          rw [z] at b3
          obtain rfl := Option.some.inj (e.symm.trans b3)
          cases d.symm.trans b6
        · rw [z] at b3
          obtain rfl := Option.some.inj (b3.symm.trans (tabs p hp))
          cases b6
    have hok : HOk P w (hpT ts a scr) s1.heap := fun b u e => by
      rcases hpT_some e with ⟨h, rfl⟩ | ⟨_, rfl, h⟩
      · exact at_T h
      · obtain ⟨_, rfl⟩ := hscr u h
        exact ⟨la, by rw [List.length_map]; exact ll, vs, _, rel, la⟩
    have st : Env0 P w K mg (hidT s1.heap (hpT ts a scr)) callerA [] s1 (hpT ts a scr) := ⟨rfl, md, fun b o e => of_hidT e, Nat.le_of_eq (hidT_size _ _), trivial, (fun b hb => nomatch hb), hok, .of_eq gens⟩
    refine codeAny_mono ((F _ inB (nsH gn) tb).goes callerA [] s1 (hpT ts a scr) ⟨[.ref a], []⟩ [.ref a] [.ref a] _ _ rfl room st (bnd s1 (.ref a)) (.cons rfl .nil) (goal _ (fun p hp => hpT_tab (inT hp)) sq)) fun r s2 done => ?_
    cases r with
    | error e => exact done.elim
    | ok fl =>
      cases fl with
      | next => exact done.elim
      | brk => exact done.elim
      | cont => exact done.elim
      | ret u =>
        obtain ⟨v, H2, os, bare, un, hok2, rv, q⟩ := done
        obtain rfl : v = .bl true := q
        obtain rfl : u = Value.bool true := rv
        have stays : ∀ {b o}, b ∉ ts → s1.heap.get? b = some o → s2.heap.get? b = some o := fun {b o} nb e => by
          cases q : hpT ts a scr b with
          | none => exact un.keep b o e q (fun z => nomatch z) (fun z => nomatch z)
          | some u =>
            rcases hpT_some q with ⟨h, _⟩ | ⟨_, rfl, h⟩
            · exact absurd h nb
            · obtain ⟨_, rfl⟩ := hscr u h
              have e2 := (hok2 b _ (un.frzs b _ _ q)).1
              obtain rfl := Option.some.inj (e.symm.trans la)
              exact e2
        have grows : ∀ {p}, p ∈ cs → ∃ more : Array Value, s2.heap.get? p.2 = some { cls := .none, data := .fields more } := fun {p} hp => by
          obtain ⟨more, z⟩ := un.tbls p.2 #[] (hpT_tab (inT hp))
          exact ⟨_, hok2 p.2 _ z⟩
        refine ⟨rfl, ⟨fun b o e => ?_, fun b o e => ?_⟩, os, bare⟩
        · by_cases hb : b ∈ ts
          · obtain ⟨p, hp, rfl⟩ := List.mem_map.mp hb
            obtain ⟨more, hm⟩ := grows hp
            obtain rfl := Option.some.inj (e.symm.trans (tabs p hp))
            exact .inr (.inl ⟨((heads p hp).tab (tabs p hp)).isCodeTable, rfl, #[], more, rfl, by rw [Array.empty_append]; exact hm⟩)
          · exact .inl (stays hb e)
        · by_cases hb : b ∈ ts
          · obtain ⟨p, hp, rfl⟩ := List.mem_map.mp hb
            obtain ⟨more, hm⟩ := grows hp
            exact ⟨_, hm⟩
          · exact ⟨o, stays hb e⟩
  cases hk : K.lookup a with
  | some o =>
    have e := (inK a o hk).symm.trans la
    obtain rfl := Option.some.inj e
    exact key none nofun (.inr ⟨_, vs.toArray, _, hk, rfl, rfl, rfl, by rw [List.size_toArray, li.length]; exact ll, by simpa using rel⟩)
  | none =>
    refine key (some (.frz { cls := .type "list", data := .seq vs.toArray } (.lst (ns.map V.int)))) (fun u e => ⟨hk, (Option.some.inj e).symm⟩) (.inl (.inr ⟨{ cls := .type "list", data := .seq vs.toArray }, ?_⟩))
    unfold hpT
    rw [if_neg aT, if_pos rfl]
theorem walkT {l : PySem.W.OpenLaw} {n k : Nat} {q : Program} {loose : List Str} {XP : (Str → Option Value) → Heap → Prop} {YP : World → Heap → Prop} {d : DefRec} {K : Params → PySem.W.Frag} {sp : PySem.W.Frag → Sp} {x : Str} {cs : List (Addr × Addr)}
    (hn : l.most = some n) (hn2 : n ≤ sizeLine) (hdf : d.params.defaults = []) (hr : Room k callerA) (hY : ∀ (w : World) (h : Heap), YP w h → (K w.params).In h)
    (hT : ∀ (w : World) (h : Heap), YP w h → ∀ p ∈ cs, h.get? p.2 = some tab0)
    (F : ∀ (w : World) (mg : Str → Option Value) (fa : Addr) (h : Heap), (K w.params).In h → h.Ns mainGlobals mg → mg d.name = some (.ref fa) →
      ∃ fd : FuncData, (∀ (s : Shared) (u : Value), BindsTo s fd ⟨[u], []⟩ [(x, u)]) ∧ ∀ base : Heap, (K w.params).In base → base.Ns mainGlobals mg → (∀ p ∈ cs, LamX.TabB base mg p.1 p.2) → FnG l.prog w (K w.params) mg base k fa fd [x] (sp (K w.params)))
    (hC : ∀ (w : World) (h : Heap), (K w.params).In h → ∀ p ∈ cs, PySem.W.CodeHd h p.1 p.2) (hN : ∀ (w : World), ∀ p ∈ cs, (K w.params).lookup p.2 = none)
    (hsp : ∀ (K : PySem.W.Frag) (H : Hp) (a : Addr) (ns : List Int), ns.length ≤ n → (∀ p ∈ cs, H p.2 = some (.tbl #[])) → SqL K H a (ns.map V.int) → sp K [.ref a] H (fun v _ => v = .bl true) fun _ _ _ => False) :
    PySem.W.WalkO q loose XP YP l.row.toRowW d [] (fun f vs => PySem.call f vs) := by
  refine Att.attach_call hn hdf fun w s₀ s1 mg mb fa o pm cd doc a vs ns G Y ho hd hcd named hobj hints few hg => ?_
  have inK := hY w _ Y
  obtain ⟨fd, bnd, mk⟩ := F w mg fa _ inK G.T.g named
  exact law_callT inK G.T.g G.T.b G.T.builtins G.T.nolimit hg (hT w _ Y) (hN w) (hC w _ inK) G.T.bmain hobj hints (Nat.le_trans few hn2) hr mk bnd fun H hH sq => hsp (K w.params) H a ns few hH sq
/-- .. one def that makes a lambda -/
theorem walkT1 {l : PySem.W.OpenLaw} {n k : Nat} {q : Program} {loose : List Str} {XP : (Str → Option Value) → Heap → Prop} {YP : World → Heap → Prop} {d : DefRec} {K : Params → PySem.W.Frag} {sp : Addr → PySem.W.Frag → Sp} {x : Str} {c P : Addr}
    (hn : l.most = some n) (hn2 : n ≤ sizeLine) (hdf : d.params.defaults = []) (hr : Room k callerA) (hY : ∀ (w : World) (h : Heap), YP w h → (K w.params).In h)
    (hT : ∀ (w : World) (h : Heap), YP w h → h.get? P = some tab0)
    (F : ∀ (w : World) (mg : Str → Option Value) (fa : Addr) (h : Heap), (K w.params).In h → h.Ns mainGlobals mg → mg d.name = some (.ref fa) →
      ∃ fd : FuncData, (∀ (s : Shared) (u : Value), BindsTo s fd ⟨[u], []⟩ [(x, u)]) ∧ ∀ base : Heap, (K w.params).In base → base.Ns mainGlobals mg → LamX.TabB base mg c P → FnG l.prog w (K w.params) mg base k fa fd [x] (sp P (K w.params)))
    (hC : ∀ (w : World) (h : Heap), (K w.params).In h → PySem.W.CodeHd h c P) (hN : ∀ (w : World), (K w.params).lookup P = none)
    (hsp : ∀ (K : PySem.W.Frag) (P : Addr) (H : Hp) (a : Addr) (ns : List Int), ns.length ≤ n → H P = some (.tbl #[]) → SqL K H a (ns.map V.int) → sp P K [.ref a] H (fun v _ => v = .bl true) fun _ _ _ => False) :
    PySem.W.WalkO q loose XP YP l.row.toRowW d [] (fun f vs => PySem.call f vs) :=
  walkT (cs := [(c, P)]) (sp := sp P) hn hn2 hdf hr hY (fun w h y p hp => by rw [List.mem_singleton.mp hp]; exact hT w h y) (fun w mg fa h i s g => by
      obtain ⟨fd, b, m⟩ := F w mg fa h i s g
      exact ⟨fd, b, fun base i s tb => m base i s (tb (c, P) List.mem_cons_self)⟩)
    (fun w h i p hp => by rw [List.mem_singleton.mp hp]; exact hC w h i) (fun w p hp => by rw [List.mem_singleton.mp hp]; exact hN w) fun K H a ns l hH sq => hsp K P H a ns l (hH (c, P) List.mem_cons_self) sq
/-- an empty table is a table -/
theorem tabs0 {H : Hp} {P : Addr} {q : Str} (h : H P = some (.tbl #[])) : LamX.Tabs [(P, q)] H := fun p hp => by
  obtain rfl := List.mem_singleton.mp hp
  exact ⟨#[], h, trivial, fun pos cv z => by cases z⟩
end Gx

/-! the head by one kernel run, where some defs make lambdas: the tables of their code objects are written out beside the rest -/
namespace Gx
open PySem PySem.W
/-- the parts of K and the empty tables ts -/
abbrev fragT (K : Params → Frag) (ts : List Addr) : Params → Frag := fun P => K P ++ ts.map fun a => (a, tab0)
theorem fragT_as {K : Params → Frag} {as : List Addr} (e : ∀ P, as = (K P).map (·.1)) (ts : List Addr) : ∀ P, as ++ ts = (fragT K ts P).map (·.1) := fun P => by
  unfold fragT
  rw [List.map_append, ← e P, List.map_map]
  congr 1
  exact (List.map_id ts).symm
abbrev hookT (K : Params → Frag) (as : List Addr) (e : ∀ P, as = (K P).map (·.1)) (ts : List Addr) : Hook := kHook (fragT K ts) (as ++ ts) (fragT_as e ts)
theorem lookT {P : Addr} : ∀ {ts : List Addr}, P ∈ ts → List.lookup P (ts.map fun a => (a, tab0)) = some tab0
  | a :: r, h => by
    by_cases q : P = a
    · subst q
      simp [List.lookup]
    · have : (P == a) = false := by simpa using q
      simp only [List.map_cons, List.lookup, this]
      exact lookT ((List.mem_cons.mp h).resolve_left q)
theorem fragT_in {K : Params → Frag} {as : List Addr} {e : ∀ P, as = (K P).map (·.1)} {ts : List Addr} {w : World} {h : Heap} (Y : (hookT K as e ts).says w h) : (K w.params).In h := fun a o q =>
  Y a o (by show List.lookup a (K w.params ++ ts.map fun a => (a, tab0)) = some o
            rw [List.lookup_append]
            have q : List.lookup a (K w.params) = some o := q
            rw [q]
            rfl)
theorem fragT_tab {K : Params → Frag} {as : List Addr} {e : ∀ P, as = (K P).map (·.1)} {ts : List Addr} {w : World} {h : Heap} {P : Addr} (Y : (hookT K as e ts).says w h) (hP : P ∈ ts) (off : (K w.params).lookup P = none) : h.get? P = some tab0 :=
  Y P tab0 (by
    show List.lookup P (K w.params ++ ts.map fun a => (a, tab0)) = some tab0
    rw [List.lookup_append]
    have q : List.lookup P (K w.params) = none := off
    rw [q, lookT hP]
    rfl)
end Gx

set_option maxHeartbeats 4000000
section
open PySem PySem.W PyProof.Rows
local macro_rules | `(tactic| o_head ($f:ident $k $a $e $t)) => `(tactic| o_headL (Gx.hookT $k $a $e $t))
set_option maxRecDepth 100000 in
set_option maxHeartbeats 0 in
open_top Gk.headHolds for PySem.Challenge.rw_gapreach_k47_spacers_and_separate_waits
end

namespace Gk
open PySem L2 Gx PySem.Spec PyProof.Rows
open C8 (Cal Met Mak pe_c pe_mt pe_mt0 pe_mk pe_gc)
theorem all_mk {l : PySem.W.OpenLaw} {w : World} {K : PySem.W.Frag} {h : Heap} {mg : Str → Option Value} {fa f_law f_tape f_next f_wish f_wishes f_free_in f_hits f_apart f_by_steps f_blocked f_told f_right f_is_whole f_is_list_of_integers f_is_rising f_is_span f_check_all f_wished_interval f_wished_rows f_greatest_allowed f_needless f_chosen_rows cc_chosen_rows f_fewest_spacers f_separate f_shows_spacers f_are_apart f_shows_separate C_InvalidPoints C_InvalidRange C_Impossible C_LockError f_Impossible_init Pt : Addr} (X : K.In h) (G : h.Ns mainGlobals mg) (hfa : mg "law" = some (.ref fa))
    {od_law an_law od_tape an_tape od_next an_next od_wish an_wish od_wishes an_wishes od_free_in an_free_in od_hits an_hits od_apart an_apart od_by_steps an_by_steps od_blocked an_blocked od_told an_told od_right an_right od_is_whole an_is_whole od_is_list_of_integers an_is_list_of_integers od_is_rising an_is_rising od_is_span an_is_span od_check_all an_check_all od_wished_interval an_wished_interval od_wished_rows an_wished_rows od_greatest_allowed an_greatest_allowed od_needless an_needless od_chosen_rows an_chosen_rows od_fewest_spacers an_fewest_spacers od_separate an_separate od_shows_spacers an_shows_spacers od_are_apart an_are_apart od_shows_separate an_shows_separate od_Impossible_init an_Impossible_init : Option Addr} {sl_law sl_tape sl_next sl_wish sl_wishes sl_free_in sl_hits sl_apart sl_by_steps sl_blocked sl_told sl_right sl_is_whole sl_is_list_of_integers sl_is_rising sl_is_span sl_check_all sl_wished_interval sl_wished_rows sl_greatest_allowed sl_needless sl_chosen_rows sl_fewest_spacers sl_separate sl_shows_spacers sl_are_apart sl_shows_separate sl_Impossible_init : Array (Option Value)} {oc_law kV_law dc_law pm_law cd_law ct_law oc_tape kV_tape dc_tape pm_tape cd_tape ct_tape oc_next kV_next dc_next pm_next cd_next ct_next oc_wish kV_wish dc_wish pm_wish cd_wish ct_wish oc_wishes kV_wishes dc_wishes pm_wishes cd_wishes ct_wishes oc_free_in kV_free_in dc_free_in pm_free_in cd_free_in ct_free_in oc_hits kV_hits dc_hits pm_hits cd_hits ct_hits oc_apart kV_apart dc_apart pm_apart cd_apart ct_apart oc_by_steps kV_by_steps dc_by_steps pm_by_steps cd_by_steps ct_by_steps oc_blocked kV_blocked dc_blocked pm_blocked cd_blocked ct_blocked oc_told kV_told dc_told pm_told cd_told ct_told oc_right kV_right dc_right pm_right cd_right ct_right oc_is_whole kV_is_whole dc_is_whole pm_is_whole cd_is_whole ct_is_whole oc_is_list_of_integers kV_is_list_of_integers dc_is_list_of_integers pm_is_list_of_integers cd_is_list_of_integers ct_is_list_of_integers oc_is_rising kV_is_rising dc_is_rising pm_is_rising cd_is_rising ct_is_rising oc_is_span kV_is_span dc_is_span pm_is_span cd_is_span ct_is_span oc_check_all kV_check_all dc_check_all pm_check_all cd_check_all ct_check_all oc_wished_interval kV_wished_interval dc_wished_interval pm_wished_interval cd_wished_interval ct_wished_interval oc_wished_rows kV_wished_rows dc_wished_rows pm_wished_rows cd_wished_rows ct_wished_rows oc_greatest_allowed kV_greatest_allowed dc_greatest_allowed pm_greatest_allowed cd_greatest_allowed ct_greatest_allowed oc_needless kV_needless dc_needless pm_needless cd_needless ct_needless oc_chosen_rows kV_chosen_rows dc_chosen_rows pm_chosen_rows ct_chosen_rows oc_fewest_spacers kV_fewest_spacers dc_fewest_spacers pm_fewest_spacers cd_fewest_spacers ct_fewest_spacers oc_separate kV_separate dc_separate pm_separate cd_separate ct_separate oc_shows_spacers kV_shows_spacers dc_shows_spacers pm_shows_spacers cd_shows_spacers ct_shows_spacers oc_are_apart kV_are_apart dc_are_apart pm_are_apart cd_are_apart ct_are_apart oc_shows_separate kV_shows_separate dc_shows_separate pm_shows_separate cd_shows_separate ct_shows_separate oc_Impossible_init kV_Impossible_init dc_Impossible_init pm_Impossible_init cd_Impossible_init ct_Impossible_init : Value} {tk_MOST_KEYS tk_MOST_ROWS : Tok} {nm_Impossible q_Impossible : Str} {N_Impossible : Addr} {bs_Impossible sub_Impossible : List Value} {sn_Impossible : List Str} {ab_Impossible : Bool} {col_Impossible : Option Bool} {dd_Impossible : Option Addr} {m0_Impossible m1_Impossible m2_Impossible m3_Impossible m5_Impossible : Option Value}
    (a_law : PySem.W.nsIn K mainGlobals "law" = some (some (.ref f_law)))
    (l_law : K.lookup f_law = some ⟨oc_law, od_law, .func (PySem.W.fnOf "law" "law" (defArgs s_law) (defBody s_law) (defScope s_law) .none kV_law dc_law pm_law an_law cd_law ct_law), sl_law⟩)
    (c_law : PySem.W.codeIn K cd_law "law" = true)
    (k_law : PySem.W.keepIn K (.ref f_law) = true)
    (a_tape : PySem.W.nsIn K mainGlobals "_law_tape" = some (some (.ref f_tape)))
    (l_tape : K.lookup f_tape = some ⟨oc_tape, od_tape, .func (PySem.W.fnOf "_law_tape" "_law_tape" (defArgs s_tape) (defBody s_tape) (defScope s_tape) .none kV_tape dc_tape pm_tape an_tape cd_tape ct_tape), sl_tape⟩)
    (c_tape : PySem.W.codeIn K cd_tape "_law_tape" = true)
    (k_tape : PySem.W.keepIn K (.ref f_tape) = true)
    (a_next : PySem.W.nsIn K mainGlobals "_law_next" = some (some (.ref f_next)))
    (l_next : K.lookup f_next = some ⟨oc_next, od_next, .func (PySem.W.fnOf "_law_next" "_law_next" (defArgs s_next) (defBody s_next) (defScope s_next) .none kV_next dc_next pm_next an_next cd_next ct_next), sl_next⟩)
    (c_next : PySem.W.codeIn K cd_next "_law_next" = true)
    (k_next : PySem.W.keepIn K (.ref f_next) = true)
    (a_wish : PySem.W.nsIn K mainGlobals "_law_wish" = some (some (.ref f_wish)))
    (l_wish : K.lookup f_wish = some ⟨oc_wish, od_wish, .func (PySem.W.fnOf "_law_wish" "_law_wish" (defArgs s_wish) (defBody s_wish) (defScope s_wish) .none kV_wish dc_wish pm_wish an_wish cd_wish ct_wish), sl_wish⟩)
    (c_wish : PySem.W.codeIn K cd_wish "_law_wish" = true)
    (k_wish : PySem.W.keepIn K (.ref f_wish) = true)
    (a_wishes : PySem.W.nsIn K mainGlobals "_law_wishes" = some (some (.ref f_wishes)))
    (l_wishes : K.lookup f_wishes = some ⟨oc_wishes, od_wishes, .func (PySem.W.fnOf "_law_wishes" "_law_wishes" (defArgs s_wishes) (defBody s_wishes) (defScope s_wishes) .none kV_wishes dc_wishes pm_wishes an_wishes cd_wishes ct_wishes), sl_wishes⟩)
    (c_wishes : PySem.W.codeIn K cd_wishes "_law_wishes" = true)
    (k_wishes : PySem.W.keepIn K (.ref f_wishes) = true)
    (a_free_in : PySem.W.nsIn K mainGlobals "_law_free_in" = some (some (.ref f_free_in)))
    (l_free_in : K.lookup f_free_in = some ⟨oc_free_in, od_free_in, .func (PySem.W.fnOf "_law_free_in" "_law_free_in" (defArgs s_free_in) (defBody s_free_in) (defScope s_free_in) .none kV_free_in dc_free_in pm_free_in an_free_in cd_free_in ct_free_in), sl_free_in⟩)
    (c_free_in : PySem.W.codeIn K cd_free_in "_law_free_in" = true)
    (k_free_in : PySem.W.keepIn K (.ref f_free_in) = true)
    (a_hits : PySem.W.nsIn K mainGlobals "_law_hits" = some (some (.ref f_hits)))
    (l_hits : K.lookup f_hits = some ⟨oc_hits, od_hits, .func (PySem.W.fnOf "_law_hits" "_law_hits" (defArgs s_hits) (defBody s_hits) (defScope s_hits) .none kV_hits dc_hits pm_hits an_hits cd_hits ct_hits), sl_hits⟩)
    (c_hits : PySem.W.codeIn K cd_hits "_law_hits" = true)
    (k_hits : PySem.W.keepIn K (.ref f_hits) = true)
    (a_apart : PySem.W.nsIn K mainGlobals "_law_apart" = some (some (.ref f_apart)))
    (l_apart : K.lookup f_apart = some ⟨oc_apart, od_apart, .func (PySem.W.fnOf "_law_apart" "_law_apart" (defArgs s_apart) (defBody s_apart) (defScope s_apart) .none kV_apart dc_apart pm_apart an_apart cd_apart ct_apart), sl_apart⟩)
    (c_apart : PySem.W.codeIn K cd_apart "_law_apart" = true)
    (k_apart : PySem.W.keepIn K (.ref f_apart) = true)
    (a_by_steps : PySem.W.nsIn K mainGlobals "_law_by_steps" = some (some (.ref f_by_steps)))
    (l_by_steps : K.lookup f_by_steps = some ⟨oc_by_steps, od_by_steps, .func (PySem.W.fnOf "_law_by_steps" "_law_by_steps" (defArgs s_by_steps) (defBody s_by_steps) (defScope s_by_steps) .none kV_by_steps dc_by_steps pm_by_steps an_by_steps cd_by_steps ct_by_steps), sl_by_steps⟩)
    (c_by_steps : PySem.W.codeIn K cd_by_steps "_law_by_steps" = true)
    (k_by_steps : PySem.W.keepIn K (.ref f_by_steps) = true)
    (a_blocked : PySem.W.nsIn K mainGlobals "_law_blocked" = some (some (.ref f_blocked)))
    (l_blocked : K.lookup f_blocked = some ⟨oc_blocked, od_blocked, .func (PySem.W.fnOf "_law_blocked" "_law_blocked" (defArgs s_blocked) (defBody s_blocked) (defScope s_blocked) .none kV_blocked dc_blocked pm_blocked an_blocked cd_blocked ct_blocked), sl_blocked⟩)
    (c_blocked : PySem.W.codeIn K cd_blocked "_law_blocked" = true)
    (k_blocked : PySem.W.keepIn K (.ref f_blocked) = true)
    (a_told : PySem.W.nsIn K mainGlobals "_law_told" = some (some (.ref f_told)))
    (l_told : K.lookup f_told = some ⟨oc_told, od_told, .func (PySem.W.fnOf "_law_told" "_law_told" (defArgs s_told) (defBody s_told) (defScope s_told) .none kV_told dc_told pm_told an_told cd_told ct_told), sl_told⟩)
    (c_told : PySem.W.codeIn K cd_told "_law_told" = true)
    (k_told : PySem.W.keepIn K (.ref f_told) = true)
    (a_right : PySem.W.nsIn K mainGlobals "_law_right" = some (some (.ref f_right)))
    (l_right : K.lookup f_right = some ⟨oc_right, od_right, .func (PySem.W.fnOf "_law_right" "_law_right" (defArgs s_right) (defBody s_right) (defScope s_right) .none kV_right dc_right pm_right an_right cd_right ct_right), sl_right⟩)
    (c_right : PySem.W.codeIn K cd_right "_law_right" = true)
    (k_right : PySem.W.keepIn K (.ref f_right) = true)
    (a_is_whole : PySem.W.nsIn K mainGlobals "is_whole" = some (some (.ref f_is_whole)))
    (l_is_whole : K.lookup f_is_whole = some ⟨oc_is_whole, od_is_whole, .func (PySem.W.fnOf "is_whole" "is_whole" (defArgs s_is_whole) (defBody s_is_whole) (defScope s_is_whole) .none kV_is_whole dc_is_whole pm_is_whole an_is_whole cd_is_whole ct_is_whole), sl_is_whole⟩)
    (c_is_whole : PySem.W.codeIn K cd_is_whole "is_whole" = true)
    (k_is_whole : PySem.W.keepIn K (.ref f_is_whole) = true)
    (a_is_list_of_integers : PySem.W.nsIn K mainGlobals "is_list_of_integers" = some (some (.ref f_is_list_of_integers)))
    (l_is_list_of_integers : K.lookup f_is_list_of_integers = some ⟨oc_is_list_of_integers, od_is_list_of_integers, .func (PySem.W.fnOf "is_list_of_integers" "is_list_of_integers" (defArgs s_is_list_of_integers) (defBody s_is_list_of_integers) (defScope s_is_list_of_integers) .none kV_is_list_of_integers dc_is_list_of_integers pm_is_list_of_integers an_is_list_of_integers cd_is_list_of_integers ct_is_list_of_integers), sl_is_list_of_integers⟩)
    (c_is_list_of_integers : PySem.W.codeIn K cd_is_list_of_integers "is_list_of_integers" = true)
    (k_is_list_of_integers : PySem.W.keepIn K (.ref f_is_list_of_integers) = true)
    (a_is_rising : PySem.W.nsIn K mainGlobals "is_rising" = some (some (.ref f_is_rising)))
    (l_is_rising : K.lookup f_is_rising = some ⟨oc_is_rising, od_is_rising, .func (PySem.W.fnOf "is_rising" "is_rising" (defArgs s_is_rising) (defBody s_is_rising) (defScope s_is_rising) .none kV_is_rising dc_is_rising pm_is_rising an_is_rising cd_is_rising ct_is_rising), sl_is_rising⟩)
    (c_is_rising : PySem.W.codeIn K cd_is_rising "is_rising" = true)
    (k_is_rising : PySem.W.keepIn K (.ref f_is_rising) = true)
    (a_is_span : PySem.W.nsIn K mainGlobals "is_span" = some (some (.ref f_is_span)))
    (l_is_span : K.lookup f_is_span = some ⟨oc_is_span, od_is_span, .func (PySem.W.fnOf "is_span" "is_span" (defArgs s_is_span) (defBody s_is_span) (defScope s_is_span) .none kV_is_span dc_is_span pm_is_span an_is_span cd_is_span ct_is_span), sl_is_span⟩)
    (c_is_span : PySem.W.codeIn K cd_is_span "is_span" = true)
    (k_is_span : PySem.W.keepIn K (.ref f_is_span) = true)
    (a_check_all : PySem.W.nsIn K mainGlobals "check_all" = some (some (.ref f_check_all)))
    (l_check_all : K.lookup f_check_all = some ⟨oc_check_all, od_check_all, .func (PySem.W.fnOf "check_all" "check_all" (defArgs s_check_all) (defBody s_check_all) (defScope s_check_all) .none kV_check_all dc_check_all pm_check_all an_check_all cd_check_all ct_check_all), sl_check_all⟩)
    (c_check_all : PySem.W.codeIn K cd_check_all "check_all" = true)
    (k_check_all : PySem.W.keepIn K (.ref f_check_all) = true)
    (a_wished_interval : PySem.W.nsIn K mainGlobals "wished_interval" = some (some (.ref f_wished_interval)))
    (l_wished_interval : K.lookup f_wished_interval = some ⟨oc_wished_interval, od_wished_interval, .func (PySem.W.fnOf "wished_interval" "wished_interval" (defArgs s_wished_interval) (defBody s_wished_interval) (defScope s_wished_interval) .none kV_wished_interval dc_wished_interval pm_wished_interval an_wished_interval cd_wished_interval ct_wished_interval), sl_wished_interval⟩)
    (c_wished_interval : PySem.W.codeIn K cd_wished_interval "wished_interval" = true)
    (k_wished_interval : PySem.W.keepIn K (.ref f_wished_interval) = true)
    (a_wished_rows : PySem.W.nsIn K mainGlobals "wished_rows" = some (some (.ref f_wished_rows)))
    (l_wished_rows : K.lookup f_wished_rows = some ⟨oc_wished_rows, od_wished_rows, .func (PySem.W.fnOf "wished_rows" "wished_rows" (defArgs s_wished_rows) (defBody s_wished_rows) (defScope s_wished_rows) .none kV_wished_rows dc_wished_rows pm_wished_rows an_wished_rows cd_wished_rows ct_wished_rows), sl_wished_rows⟩)
    (c_wished_rows : PySem.W.codeIn K cd_wished_rows "wished_rows" = true)
    (k_wished_rows : PySem.W.keepIn K (.ref f_wished_rows) = true)
    (a_greatest_allowed : PySem.W.nsIn K mainGlobals "greatest_allowed" = some (some (.ref f_greatest_allowed)))
    (l_greatest_allowed : K.lookup f_greatest_allowed = some ⟨oc_greatest_allowed, od_greatest_allowed, .func (PySem.W.fnOf "greatest_allowed" "greatest_allowed" (defArgs s_greatest_allowed) (defBody s_greatest_allowed) (defScope s_greatest_allowed) .none kV_greatest_allowed dc_greatest_allowed pm_greatest_allowed an_greatest_allowed cd_greatest_allowed ct_greatest_allowed), sl_greatest_allowed⟩)
    (c_greatest_allowed : PySem.W.codeIn K cd_greatest_allowed "greatest_allowed" = true)
    (k_greatest_allowed : PySem.W.keepIn K (.ref f_greatest_allowed) = true)
    (a_needless : PySem.W.nsIn K mainGlobals "needless" = some (some (.ref f_needless)))
    (l_needless : K.lookup f_needless = some ⟨oc_needless, od_needless, .func (PySem.W.fnOf "needless" "needless" (defArgs s_needless) (defBody s_needless) (defScope s_needless) .none kV_needless dc_needless pm_needless an_needless cd_needless ct_needless), sl_needless⟩)
    (c_needless : PySem.W.codeIn K cd_needless "needless" = true)
    (k_needless : PySem.W.keepIn K (.ref f_needless) = true)
    (a_chosen_rows : PySem.W.nsIn K mainGlobals "chosen_rows" = some (some (.ref f_chosen_rows)))
    (l_chosen_rows : K.lookup f_chosen_rows = some ⟨oc_chosen_rows, od_chosen_rows, .func (PySem.W.fnOf "chosen_rows" "chosen_rows" (defArgs s_chosen_rows) (defBody s_chosen_rows) (defScope s_chosen_rows) .none kV_chosen_rows dc_chosen_rows pm_chosen_rows an_chosen_rows (.ref cc_chosen_rows) ct_chosen_rows), sl_chosen_rows⟩)
    (c_chosen_rows : PySem.W.codeIn K (.ref cc_chosen_rows) "chosen_rows" = true)
    (k_chosen_rows : PySem.W.keepIn K (.ref f_chosen_rows) = true)
    (a_fewest_spacers : PySem.W.nsIn K mainGlobals "fewest_spacers" = some (some (.ref f_fewest_spacers)))
    (l_fewest_spacers : K.lookup f_fewest_spacers = some ⟨oc_fewest_spacers, od_fewest_spacers, .func (PySem.W.fnOf "fewest_spacers" "fewest_spacers" (defArgs s_fewest_spacers) (defBody s_fewest_spacers) (defScope s_fewest_spacers) .none kV_fewest_spacers dc_fewest_spacers pm_fewest_spacers an_fewest_spacers cd_fewest_spacers ct_fewest_spacers), sl_fewest_spacers⟩)
    (c_fewest_spacers : PySem.W.codeIn K cd_fewest_spacers "fewest_spacers" = true)
    (k_fewest_spacers : PySem.W.keepIn K (.ref f_fewest_spacers) = true)
    (a_separate : PySem.W.nsIn K mainGlobals "separate" = some (some (.ref f_separate)))
    (l_separate : K.lookup f_separate = some ⟨oc_separate, od_separate, .func (PySem.W.fnOf "separate" "separate" (defArgs s_separate) (defBody s_separate) (defScope s_separate) .none kV_separate dc_separate pm_separate an_separate cd_separate ct_separate), sl_separate⟩)
    (c_separate : PySem.W.codeIn K cd_separate "separate" = true)
    (k_separate : PySem.W.keepIn K (.ref f_separate) = true)
    (a_shows_spacers : PySem.W.nsIn K mainGlobals "shows_spacers" = some (some (.ref f_shows_spacers)))
    (l_shows_spacers : K.lookup f_shows_spacers = some ⟨oc_shows_spacers, od_shows_spacers, .func (PySem.W.fnOf "shows_spacers" "shows_spacers" (defArgs s_shows_spacers) (defBody s_shows_spacers) (defScope s_shows_spacers) .none kV_shows_spacers dc_shows_spacers pm_shows_spacers an_shows_spacers cd_shows_spacers ct_shows_spacers), sl_shows_spacers⟩)
    (c_shows_spacers : PySem.W.codeIn K cd_shows_spacers "shows_spacers" = true)
    (k_shows_spacers : PySem.W.keepIn K (.ref f_shows_spacers) = true)
    (a_are_apart : PySem.W.nsIn K mainGlobals "are_apart" = some (some (.ref f_are_apart)))
    (l_are_apart : K.lookup f_are_apart = some ⟨oc_are_apart, od_are_apart, .func (PySem.W.fnOf "are_apart" "are_apart" (defArgs s_are_apart) (defBody s_are_apart) (defScope s_are_apart) .none kV_are_apart dc_are_apart pm_are_apart an_are_apart cd_are_apart ct_are_apart), sl_are_apart⟩)
    (c_are_apart : PySem.W.codeIn K cd_are_apart "are_apart" = true)
    (k_are_apart : PySem.W.keepIn K (.ref f_are_apart) = true)
    (a_shows_separate : PySem.W.nsIn K mainGlobals "shows_separate" = some (some (.ref f_shows_separate)))
    (l_shows_separate : K.lookup f_shows_separate = some ⟨oc_shows_separate, od_shows_separate, .func (PySem.W.fnOf "shows_separate" "shows_separate" (defArgs s_shows_separate) (defBody s_shows_separate) (defScope s_shows_separate) .none kV_shows_separate dc_shows_separate pm_shows_separate an_shows_separate cd_shows_separate ct_shows_separate), sl_shows_separate⟩)
    (c_shows_separate : PySem.W.codeIn K cd_shows_separate "shows_separate" = true)
    (k_shows_separate : PySem.W.keepIn K (.ref f_shows_separate) = true)
    (aC_InvalidPoints : PySem.W.nsIn K mainGlobals "InvalidPoints" = some (some (.ref C_InvalidPoints)))
    (xq_InvalidPoints : PySem.W.excIn K C_InvalidPoints [.type "ValueError", .type "Exception", .type "BaseException", .type "object"] "ValueError.__new__" = true)
    (xk_InvalidPoints : PySem.W.keepIn K (.ref C_InvalidPoints) = true)
    (xs_InvalidPoints : PySem.W.subIn K (.ref C_InvalidPoints) (.type "BaseException") = some true)
    (xt_InvalidPoints : PySem.W.typeIn K (.ref C_InvalidPoints) = some (.type "type"))
    (aC_InvalidRange : PySem.W.nsIn K mainGlobals "InvalidRange" = some (some (.ref C_InvalidRange)))
    (xq_InvalidRange : PySem.W.excIn K C_InvalidRange [.type "ValueError", .type "Exception", .type "BaseException", .type "object"] "ValueError.__new__" = true)
    (xk_InvalidRange : PySem.W.keepIn K (.ref C_InvalidRange) = true)
    (xs_InvalidRange : PySem.W.subIn K (.ref C_InvalidRange) (.type "BaseException") = some true)
    (xt_InvalidRange : PySem.W.typeIn K (.ref C_InvalidRange) = some (.type "type"))
    (aC_Impossible : PySem.W.nsIn K mainGlobals "Impossible" = some (some (.ref C_Impossible)))
    (aC_LockError : PySem.W.nsIn K mainGlobals "LockError" = some (some (.ref C_LockError)))
    (x_Impossible : K.lookup C_Impossible = some (excClassObj nm_Impossible q_Impossible C_Impossible N_Impossible bs_Impossible [.ref C_LockError, .type "ValueError", .type "Exception", .type "BaseException", .type "object"] true sn_Impossible sub_Impossible ab_Impossible col_Impossible dd_Impossible m0_Impossible m1_Impossible m2_Impossible m3_Impossible m5_Impossible "ValueError.__new__"))
    (sa_Impossible : PySem.W.findIn K (.ref C_Impossible) "__setattr__" = some (some (.builtin "object.__setattr__")))
    (ga_Impossible : PySem.W.findIn K (.ref C_Impossible) "__getattribute__" = some (some (.builtin "BaseException.__getattribute__")))
    (gg_Impossible : PySem.W.findIn K (.ref C_Impossible) "__getattr__" = some none)
    (np_Impossible_index : PySem.W.findIn K (.ref C_Impossible) "index" = some none)
    (a_Impossible_init : PySem.W.findIn K (.ref C_Impossible) "__init__" = some (some (.ref f_Impossible_init)))
    (t_Impossible_init : PySem.W.typeIn K (.ref f_Impossible_init) = some (.type "function"))
    (l_Impossible_init : K.lookup f_Impossible_init = some ⟨oc_Impossible_init, od_Impossible_init, .func (PySem.W.fnOf "__init__" "Impossible.__init__" (defArgs s_Impossible_init) (defBody s_Impossible_init) (defScope s_Impossible_init) .none kV_Impossible_init dc_Impossible_init pm_Impossible_init an_Impossible_init cd_Impossible_init ct_Impossible_init), sl_Impossible_init⟩)
    (c_Impossible_init : PySem.W.codeIn K cd_Impossible_init "Impossible.__init__" = true)
    (k_Impossible_init : PySem.W.keepIn K (.ref f_Impossible_init) = true)
    (kC_Impossible : PySem.W.keepIn K (.ref C_Impossible) = true)
    (eC_Impossible : PySem.W.subIn K (.ref C_Impossible) (.type "BaseException") = some true)
    (tC_Impossible : PySem.W.typeIn K (.ref C_Impossible) = some (.type "type"))
    (hD_Impossible : PySem.W.hasDictIn K C_Impossible = true)
    (iC_Impossible : PySem.W.isClsIn K C_Impossible = true)
    (sB_Impossible : PySem.W.subIn K (.ref C_Impossible) (.ref C_LockError) = some true)
    (ha_Impossible : PySem.W.findIn K (.ref C_Impossible) "__class__" = some (some (.builtin "object.__class__")))
    (hm_Impossible : PySem.W.mroIn K C_Impossible (.type "object") = some true)
    (cls_get : PySem.W.specialIn K (.builtin "object.__class__") "__get__" = some (some (.builtin "getset_descriptor.__get__")))
    (cls_take : PySem.W.takesIn K (.builtin "object.__class__") = some true)
    (eC_base : PySem.W.subIn K (.ref C_LockError) (.type "BaseException") = some true)
    (hD_base : PySem.W.hasDictIn K C_LockError = true)
    (tC_base : PySem.W.typeIn K (.ref C_LockError) = some (.type "type"))
    (ga_base : PySem.W.specialIn K (.ref C_LockError) "__getattribute__" = some (some (.builtin "type.__getattribute__")))
    (rd_base : PySem.W.readsIn K C_LockError (.type "type") = true)
    (fc_base : PySem.W.findCls K (.ref C_LockError) (.type "type") "__init__" = some (.val (.builtin "ValueError.__init__")))
    (g_MOST_KEYS : PySem.W.nsIn K mainGlobals "MOST_KEYS" = some (some (.int 200 tk_MOST_KEYS)))
    (g_MOST_ROWS : PySem.W.nsIn K mainGlobals "MOST_ROWS" = some (some (.int 30 tk_MOST_ROWS)))
    (su_Impossible_Impossible : PySem.W.subIn K (.ref C_Impossible) (.ref C_Impossible) = some true)
    (z_len : PySem.W.nsIn K mainGlobals "len" = some none)
    (z_abs : PySem.W.nsIn K mainGlobals "abs" = some none)
    (z_max : PySem.W.nsIn K mainGlobals "max" = some none)
    (z_min : PySem.W.nsIn K mainGlobals "min" = some none)
    (z_range : PySem.W.nsIn K mainGlobals "range" = some none)
    (z_sorted : PySem.W.nsIn K mainGlobals "sorted" = some none)
    (z_set : PySem.W.nsIn K mainGlobals "set" = some none)
    (z_list : PySem.W.nsIn K mainGlobals "list" = some none)
    (z_tuple : PySem.W.nsIn K mainGlobals "tuple" = some none)
    (z_dict : PySem.W.nsIn K mainGlobals "dict" = some none)
    (z_int : PySem.W.nsIn K mainGlobals "int" = some none)
    (z_str : PySem.W.nsIn K mainGlobals "str" = some none)
    (z_bool : PySem.W.nsIn K mainGlobals "bool" = some none)
    (z_all : PySem.W.nsIn K mainGlobals "all" = some none)
    (z_any : PySem.W.nsIn K mainGlobals "any" = some none)
    (z_sum : PySem.W.nsIn K mainGlobals "sum" = some none)
    (z_isinstance : PySem.W.nsIn K mainGlobals "isinstance" = some none)
    (z_repr : PySem.W.nsIn K mainGlobals "repr" = some none)
    (z_zip : PySem.W.nsIn K mainGlobals "zip" = some none)
    (z_enumerate : PySem.W.nsIn K mainGlobals "enumerate" = some none)
    : ∃ fd : FuncData, (∀ (s : Shared) (v : Value), BindsTo s fd ⟨[v], []⟩ [("_law_script", v)]) ∧ ∀ base : Heap, K.In base → base.Ns mainGlobals mg → LamX.TabB base mg cc_chosen_rows Pt → FnG l.prog w K mg base 7 fa fd ["_law_script"] (Gk.spLaw [(Pt, Gk.choQ)] K) := by
  have e := hfa.symm.trans (PySem.W.mg_of X G a_law)
  cases e
  have F_law := fun_mk (st := s_law) l_law c_law k_law
  have B_law := F_law.binds (ps := ["_law_script"]) fun _ _ _ _ _ _ us hl => match us, hl with | [_], _ => rfl
  have F_tape := fun_mk (st := s_tape) l_tape c_tape k_tape
  have B_tape := F_tape.binds (ps := ["_law_script", "_law_k"]) fun _ _ _ _ _ _ us hl => match us, hl with | [_, _], _ => rfl
  have G_tape : mg "_law_tape" = some (.ref f_tape) := PySem.W.mg_of X G a_tape
  have D_tape : Dn K mg "_law_tape" s_tape ["_law_script", "_law_k"] f_tape _ := ⟨F_tape, G_tape, B_tape⟩
  have F_next := fun_mk (st := s_next) l_next c_next k_next
  have B_next := F_next.binds (ps := ["_law_tape_here", "_law_many"]) fun _ _ _ _ _ _ us hl => match us, hl with | [_, _], _ => rfl
  have G_next : mg "_law_next" = some (.ref f_next) := PySem.W.mg_of X G a_next
  have D_next : Dn K mg "_law_next" s_next ["_law_tape_here", "_law_many"] f_next _ := ⟨F_next, G_next, B_next⟩
  have F_wish := fun_mk (st := s_wish) l_wish c_wish k_wish
  have B_wish := F_wish.binds (ps := ["_law_some_keys", "_law_span", "_law_x"]) fun _ _ _ _ _ _ us hl => match us, hl with | [_, _, _], _ => rfl
  have G_wish : mg "_law_wish" = some (.ref f_wish) := PySem.W.mg_of X G a_wish
  have D_wish : Dn K mg "_law_wish" s_wish ["_law_some_keys", "_law_span", "_law_x"] f_wish _ := ⟨F_wish, G_wish, B_wish⟩
  have F_wishes := fun_mk (st := s_wishes) l_wishes c_wishes k_wishes
  have B_wishes := F_wishes.binds (ps := ["_law_some_keys", "_law_spans", "_law_some_puts"]) fun _ _ _ _ _ _ us hl => match us, hl with | [_, _, _], _ => rfl
  have G_wishes : mg "_law_wishes" = some (.ref f_wishes) := PySem.W.mg_of X G a_wishes
  have D_wishes : Dn K mg "_law_wishes" s_wishes ["_law_some_keys", "_law_spans", "_law_some_puts"] f_wishes _ := ⟨F_wishes, G_wishes, B_wishes⟩
  have F_free_in := fun_mk (st := s_free_in) l_free_in c_free_in k_free_in
  have B_free_in := F_free_in.binds (ps := ["_law_wish_here", "_law_some_puts"]) fun _ _ _ _ _ _ us hl => match us, hl with | [_, _], _ => rfl
  have G_free_in : mg "_law_free_in" = some (.ref f_free_in) := PySem.W.mg_of X G a_free_in
  have D_free_in : Dn K mg "_law_free_in" s_free_in ["_law_wish_here", "_law_some_puts"] f_free_in _ := ⟨F_free_in, G_free_in, B_free_in⟩
  have F_hits := fun_mk (st := s_hits) l_hits c_hits k_hits
  have B_hits := F_hits.binds (ps := ["_law_told_here", "_law_wishes_here", "_law_some_puts"]) fun _ _ _ _ _ _ us hl => match us, hl with | [_, _, _], _ => rfl
  have G_hits : mg "_law_hits" = some (.ref f_hits) := PySem.W.mg_of X G a_hits
  have D_hits : Dn K mg "_law_hits" s_hits ["_law_told_here", "_law_wishes_here", "_law_some_puts"] f_hits _ := ⟨F_hits, G_hits, B_hits⟩
  have F_apart := fun_mk (st := s_apart) l_apart c_apart k_apart
  have B_apart := F_apart.binds (ps := ["_law_told_here", "_law_wishes_here", "_law_some_puts"]) fun _ _ _ _ _ _ us hl => match us, hl with | [_, _, _], _ => rfl
  have G_apart : mg "_law_apart" = some (.ref f_apart) := PySem.W.mg_of X G a_apart
  have D_apart : Dn K mg "_law_apart" s_apart ["_law_told_here", "_law_wishes_here", "_law_some_puts"] f_apart _ := ⟨F_apart, G_apart, B_apart⟩
  have F_by_steps := fun_mk (st := s_by_steps) l_by_steps c_by_steps k_by_steps
  have B_by_steps := F_by_steps.binds (ps := ["_law_some_keys", "_law_spans", "_law_some_puts"]) fun _ _ _ _ _ _ us hl => match us, hl with | [_, _, _], _ => rfl
  have G_by_steps : mg "_law_by_steps" = some (.ref f_by_steps) := PySem.W.mg_of X G a_by_steps
  have D_by_steps : Dn K mg "_law_by_steps" s_by_steps ["_law_some_keys", "_law_spans", "_law_some_puts"] f_by_steps _ := ⟨F_by_steps, G_by_steps, B_by_steps⟩
  have F_blocked := fun_mk (st := s_blocked) l_blocked c_blocked k_blocked
  have B_blocked := F_blocked.binds (ps := ["_law_wishes_here", "_law_some_puts"]) fun _ _ _ _ _ _ us hl => match us, hl with | [_, _], _ => rfl
  have G_blocked : mg "_law_blocked" = some (.ref f_blocked) := PySem.W.mg_of X G a_blocked
  have D_blocked : Dn K mg "_law_blocked" s_blocked ["_law_wishes_here", "_law_some_puts"] f_blocked _ := ⟨F_blocked, G_blocked, B_blocked⟩
  have F_told := fun_mk (st := s_told) l_told c_told k_told
  have B_told := F_told.binds (ps := ["_law_door", "_law_some_keys", "_law_spans", "_law_some_puts"]) fun _ _ _ _ _ _ us hl => match us, hl with | [_, _, _, _], _ => rfl
  have G_told : mg "_law_told" = some (.ref f_told) := PySem.W.mg_of X G a_told
  have D_told : Dn K mg "_law_told" s_told ["_law_door", "_law_some_keys", "_law_spans", "_law_some_puts"] f_told _ := ⟨F_told, G_told, B_told⟩
  have F_right := fun_mk (st := s_right) l_right c_right k_right
  have B_right := F_right.binds (ps := ["_law_some_keys", "_law_spans", "_law_some_puts"]) fun _ _ _ _ _ _ us hl => match us, hl with | [_, _, _], _ => rfl
  have G_right : mg "_law_right" = some (.ref f_right) := PySem.W.mg_of X G a_right
  have D_right : Dn K mg "_law_right" s_right ["_law_some_keys", "_law_spans", "_law_some_puts"] f_right _ := ⟨F_right, G_right, B_right⟩
  have F_is_whole := fun_mk (st := s_is_whole) l_is_whole c_is_whole k_is_whole
  have B_is_whole := F_is_whole.binds (ps := ["value"]) fun _ _ _ _ _ _ us hl => match us, hl with | [_], _ => rfl
  have G_is_whole : mg "is_whole" = some (.ref f_is_whole) := PySem.W.mg_of X G a_is_whole
  have D_is_whole : Dn K mg "is_whole" s_is_whole ["value"] f_is_whole _ := ⟨F_is_whole, G_is_whole, B_is_whole⟩
  have F_is_list_of_integers := fun_mk (st := s_is_list_of_integers) l_is_list_of_integers c_is_list_of_integers k_is_list_of_integers
  have B_is_list_of_integers := F_is_list_of_integers.binds (ps := ["value", "most"]) fun _ _ _ _ _ _ us hl => match us, hl with | [_, _], _ => rfl
  have G_is_list_of_integers : mg "is_list_of_integers" = some (.ref f_is_list_of_integers) := PySem.W.mg_of X G a_is_list_of_integers
  have D_is_list_of_integers : Dn K mg "is_list_of_integers" s_is_list_of_integers ["value", "most"] f_is_list_of_integers _ := ⟨F_is_list_of_integers, G_is_list_of_integers, B_is_list_of_integers⟩
  have F_is_rising := fun_mk (st := s_is_rising) l_is_rising c_is_rising k_is_rising
  have B_is_rising := F_is_rising.binds (ps := ["value"]) fun _ _ _ _ _ _ us hl => match us, hl with | [_], _ => rfl
  have G_is_rising : mg "is_rising" = some (.ref f_is_rising) := PySem.W.mg_of X G a_is_rising
  have D_is_rising : Dn K mg "is_rising" s_is_rising ["value"] f_is_rising _ := ⟨F_is_rising, G_is_rising, B_is_rising⟩
  have F_is_span := fun_mk (st := s_is_span) l_is_span c_is_span k_is_span
  have B_is_span := F_is_span.binds (ps := ["value"]) fun _ _ _ _ _ _ us hl => match us, hl with | [_], _ => rfl
  have G_is_span : mg "is_span" = some (.ref f_is_span) := PySem.W.mg_of X G a_is_span
  have D_is_span : Dn K mg "is_span" s_is_span ["value"] f_is_span _ := ⟨F_is_span, G_is_span, B_is_span⟩
  have F_check_all := fun_mk (st := s_check_all) l_check_all c_check_all k_check_all
  have B_check_all := F_check_all.binds (ps := ["keys", "ranges", "puts"]) fun _ _ _ _ _ _ us hl => match us, hl with | [_, _, _], _ => rfl
  have G_check_all : mg "check_all" = some (.ref f_check_all) := PySem.W.mg_of X G a_check_all
  have D_check_all : Dn K mg "check_all" s_check_all ["keys", "ranges", "puts"] f_check_all _ := ⟨F_check_all, G_check_all, B_check_all⟩
  have F_wished_interval := fun_mk (st := s_wished_interval) l_wished_interval c_wished_interval k_wished_interval
  have B_wished_interval := F_wished_interval.binds (ps := ["keys", "span", "put"]) fun _ _ _ _ _ _ us hl => match us, hl with | [_, _, _], _ => rfl
  have G_wished_interval : mg "wished_interval" = some (.ref f_wished_interval) := PySem.W.mg_of X G a_wished_interval
  have D_wished_interval : Dn K mg "wished_interval" s_wished_interval ["keys", "span", "put"] f_wished_interval _ := ⟨F_wished_interval, G_wished_interval, B_wished_interval⟩
  have F_wished_rows := fun_mk (st := s_wished_rows) l_wished_rows c_wished_rows k_wished_rows
  have B_wished_rows := F_wished_rows.binds (ps := ["keys", "ranges", "puts"]) fun _ _ _ _ _ _ us hl => match us, hl with | [_, _, _], _ => rfl
  have G_wished_rows : mg "wished_rows" = some (.ref f_wished_rows) := PySem.W.mg_of X G a_wished_rows
  have D_wished_rows : Dn K mg "wished_rows" s_wished_rows ["keys", "ranges", "puts"] f_wished_rows _ := ⟨F_wished_rows, G_wished_rows, B_wished_rows⟩
  have F_greatest_allowed := fun_mk (st := s_greatest_allowed) l_greatest_allowed c_greatest_allowed k_greatest_allowed
  have B_greatest_allowed := F_greatest_allowed.binds (ps := ["interval", "puts"]) fun _ _ _ _ _ _ us hl => match us, hl with | [_, _], _ => rfl
  have G_greatest_allowed : mg "greatest_allowed" = some (.ref f_greatest_allowed) := PySem.W.mg_of X G a_greatest_allowed
  have D_greatest_allowed : Dn K mg "greatest_allowed" s_greatest_allowed ["interval", "puts"] f_greatest_allowed _ := ⟨F_greatest_allowed, G_greatest_allowed, B_greatest_allowed⟩
  have F_needless := fun_mk (st := s_needless) l_needless c_needless k_needless
  have B_needless := F_needless.binds (ps := ["keys", "ranges", "puts"]) fun _ _ _ _ _ _ us hl => match us, hl with | [_, _, _], _ => rfl
  have G_needless : mg "needless" = some (.ref f_needless) := PySem.W.mg_of X G a_needless
  have D_needless : Dn K mg "needless" s_needless ["keys", "ranges", "puts"] f_needless _ := ⟨F_needless, G_needless, B_needless⟩
  have F_chosen_rows := fun_mk (st := s_chosen_rows) l_chosen_rows c_chosen_rows k_chosen_rows
  have FC_chosen_rows : FunC K "chosen_rows" "chosen_rows" s_chosen_rows f_chosen_rows _ cc_chosen_rows := ⟨⟨_, _, _, _, _, _, _, _, rfl, l_chosen_rows, c_chosen_rows⟩⟩
  have B_chosen_rows := F_chosen_rows.binds (ps := ["keys", "ranges", "puts"]) fun _ _ _ _ _ _ us hl => match us, hl with | [_, _, _], _ => rfl
  have G_chosen_rows : mg "chosen_rows" = some (.ref f_chosen_rows) := PySem.W.mg_of X G a_chosen_rows
  have D_chosen_rows : Dn K mg "chosen_rows" s_chosen_rows ["keys", "ranges", "puts"] f_chosen_rows _ := ⟨F_chosen_rows, G_chosen_rows, B_chosen_rows⟩
  have F_fewest_spacers := fun_mk (st := s_fewest_spacers) l_fewest_spacers c_fewest_spacers k_fewest_spacers
  have B_fewest_spacers := F_fewest_spacers.binds (ps := ["keys", "ranges", "puts"]) fun _ _ _ _ _ _ us hl => match us, hl with | [_, _, _], _ => rfl
  have G_fewest_spacers : mg "fewest_spacers" = some (.ref f_fewest_spacers) := PySem.W.mg_of X G a_fewest_spacers
  have D_fewest_spacers : Dn K mg "fewest_spacers" s_fewest_spacers ["keys", "ranges", "puts"] f_fewest_spacers _ := ⟨F_fewest_spacers, G_fewest_spacers, B_fewest_spacers⟩
  have F_separate := fun_mk (st := s_separate) l_separate c_separate k_separate
  have B_separate := F_separate.binds (ps := ["keys", "ranges", "puts"]) fun _ _ _ _ _ _ us hl => match us, hl with | [_, _, _], _ => rfl
  have G_separate : mg "separate" = some (.ref f_separate) := PySem.W.mg_of X G a_separate
  have D_separate : Dn K mg "separate" s_separate ["keys", "ranges", "puts"] f_separate _ := ⟨F_separate, G_separate, B_separate⟩
  have F_shows_spacers := fun_mk (st := s_shows_spacers) l_shows_spacers c_shows_spacers k_shows_spacers
  have B_shows_spacers := F_shows_spacers.binds (ps := ["keys", "ranges", "puts", "thing"]) fun _ _ _ _ _ _ us hl => match us, hl with | [_, _, _, _], _ => rfl
  have G_shows_spacers : mg "shows_spacers" = some (.ref f_shows_spacers) := PySem.W.mg_of X G a_shows_spacers
  have D_shows_spacers : Dn K mg "shows_spacers" s_shows_spacers ["keys", "ranges", "puts", "thing"] f_shows_spacers _ := ⟨F_shows_spacers, G_shows_spacers, B_shows_spacers⟩
  have F_are_apart := fun_mk (st := s_are_apart) l_are_apart c_are_apart k_are_apart
  have B_are_apart := F_are_apart.binds (ps := ["one", "other", "puts"]) fun _ _ _ _ _ _ us hl => match us, hl with | [_, _, _], _ => rfl
  have G_are_apart : mg "are_apart" = some (.ref f_are_apart) := PySem.W.mg_of X G a_are_apart
  have D_are_apart : Dn K mg "are_apart" s_are_apart ["one", "other", "puts"] f_are_apart _ := ⟨F_are_apart, G_are_apart, B_are_apart⟩
  have F_shows_separate := fun_mk (st := s_shows_separate) l_shows_separate c_shows_separate k_shows_separate
  have B_shows_separate := F_shows_separate.binds (ps := ["keys", "ranges", "puts", "thing"]) fun _ _ _ _ _ _ us hl => match us, hl with | [_, _, _, _], _ => rfl
  have G_shows_separate : mg "shows_separate" = some (.ref f_shows_separate) := PySem.W.mg_of X G a_shows_separate
  have D_shows_separate : Dn K mg "shows_separate" s_shows_separate ["keys", "ranges", "puts", "thing"] f_shows_separate _ := ⟨F_shows_separate, G_shows_separate, B_shows_separate⟩
  have G_InvalidPoints : mg "InvalidPoints" = some (.ref C_InvalidPoints) := PySem.W.mg_of X G aC_InvalidPoints
  have O_InvalidPoints : OwnE K mg "InvalidPoints" C_InvalidPoints := ⟨G_InvalidPoints, xq_InvalidPoints, xk_InvalidPoints, xs_InvalidPoints, xt_InvalidPoints⟩
  have G_InvalidRange : mg "InvalidRange" = some (.ref C_InvalidRange) := PySem.W.mg_of X G aC_InvalidRange
  have O_InvalidRange : OwnE K mg "InvalidRange" C_InvalidRange := ⟨G_InvalidRange, xq_InvalidRange, xk_InvalidRange, xs_InvalidRange, xt_InvalidRange⟩
  have G_Impossible : mg "Impossible" = some (.ref C_Impossible) := PySem.W.mg_of X G aC_Impossible
  have G_LockError : mg "LockError" = some (.ref C_LockError) := PySem.W.mg_of X G aC_LockError
  have F_Impossible_init := fun_mk (st := s_Impossible_init) l_Impossible_init c_Impossible_init k_Impossible_init
  have B_Impossible_init := F_Impossible_init.binds (ps := ["self", "index"]) fun _ _ _ _ _ _ us hl => match us, hl with | [_, _], _ => rfl
  have T : Bt mg := ⟨PySem.W.mg_none_of X G z_len, PySem.W.mg_none_of X G z_abs, PySem.W.mg_none_of X G z_max, PySem.W.mg_none_of X G z_min, PySem.W.mg_none_of X G z_range, PySem.W.mg_none_of X G z_sorted, PySem.W.mg_none_of X G z_set, PySem.W.mg_none_of X G z_list, PySem.W.mg_none_of X G z_tuple, PySem.W.mg_none_of X G z_dict, PySem.W.mg_none_of X G z_int, PySem.W.mg_none_of X G z_str, PySem.W.mg_none_of X G z_bool, PySem.W.mg_none_of X G z_all, PySem.W.mg_none_of X G z_any, PySem.W.mg_none_of X G z_sum, PySem.W.mg_none_of X G z_isinstance, PySem.W.mg_none_of X G z_repr, PySem.W.mg_none_of X G z_zip, PySem.W.mg_none_of X G z_enumerate⟩
  refine ⟨PySem.W.fnOf "law" "law" (defArgs s_law) (defBody s_law) (defScope s_law) .none kV_law dc_law pm_law an_law cd_law ct_law, fun s v => .of_eq rfl, fun base _ _ TB => ?_⟩
  have gK : ∃ u, mg "MOST_KEYS" = some u ∧ RelV (.int 200) u := ⟨_, PySem.W.mg_of X G g_MOST_KEYS, ⟨_, rfl⟩⟩
  have gR : ∃ u, mg "MOST_ROWS" = some u ∧ RelV (.int 30) u := ⟨_, PySem.W.mg_of X G g_MOST_ROWS, ⟨_, rfl⟩⟩
  have oxC : OexC K C_Impossible := ⟨⟨_, _, _, _, _, _, _, _, _, _, _, _, _, _, _, x_Impossible, rfl⟩, sa_Impossible, eC_Impossible, tC_Impossible, kC_Impossible⟩
  have bad : BadC l.prog w K mg base 1 "Impossible" C_Impossible "index" := ⟨oxC, G_Impossible, _, _, a_Impossible_init, t_Impossible_init, ok_impG F_Impossible_init oxC np_Impossible_index G_LockError ga_base rd_base fc_base, B_Impossible_init⟩
  have EC : ErrC K C_Impossible := ⟨iC_Impossible, ga_Impossible, gg_Impossible, eC_Impossible, hD_Impossible, ha_Impossible, cls_get, cls_take, hm_Impossible⟩
  have tI : PySem.W.exmOne K (.ref C_Impossible) (.ref C_Impossible) = some true := PySem.W.exm_ref eC_Impossible hD_Impossible tC_Impossible su_Impossible_Impossible
  have nex := ok_next (P := l.prog) (w := w) (base := base) D_next T
  have tap := ok_tape (P := l.prog) (w := w) (base := base) D_tape T
  have isw := ok_isw (P := l.prog) (w := w) (base := base) D_is_whole T
  have isl := ok_isli D_is_list_of_integers T isw
  have riI := ok_rising (P := l.prog) (w := w) (base := base) Int D_is_rising T
  have riP := ok_rising (P := l.prog) (w := w) (base := base) Pr D_is_rising T
  have spa := ok_span D_is_span T isw
  have che : CalXN l.prog w K mg base 3 "check_all" (spCheck K C_InvalidPoints C_InvalidRange) := ok_check D_check_all T O_InvalidPoints O_InvalidRange gK gR isl riI spa
  have wiI := ok_wishI (P := l.prog) (w := w) (base := base) D_wished_interval T
  have wiR := ok_wishRows D_wished_rows T wiI
  have gre := ok_great (P := l.prog) (w := w) (base := base) D_greatest_allowed
  have apa := ok_apart D_are_apart T gre
  have neF := ok_needF D_needless T che wiR
  have nee := calXN_of D_needless neF
  have kN : CalKXN l.prog w K mg base 4 "needless" ["ranges", "puts", "keys"] (permV 3 [2, 0, 1]) (spNeed K C_InvalidPoints C_InvalidRange) := ⟨_, _, _, permU 3 [2, 0, 1], neF, G_needless, k_needless, kbinds_p3 (by decide) (fun _ _ _ => rfl)⟩
  have choF := ok_chosen (TT := [(Pt, choQ)]) FC_chosen_rows TB List.mem_cons_self (fun p hp _ => by rw [List.mem_singleton.mp hp]) T bad wiR gre
  have cho : CalX l.prog w K mg base 3 "chosen_rows" (spChosen K C_Impossible [(Pt, choQ)]) := ⟨_, _, _, choF, G_chosen_rows, k_chosen_rows, B_chosen_rows⟩
  have few : CalX l.prog w K mg base 4 "fewest_spacers" (spFewestG K C_Impossible [(Pt, choQ)]) := ⟨_, _, _, ok_fewestG D_fewest_spacers T che cho, G_fewest_spacers, k_fewest_spacers, B_fewest_spacers⟩
  have kS : CalKX l.prog w K mg base 4 "separate" ["puts", "ranges", "keys"] (permV 3 [2, 1, 0]) (spSeparateG K C_Impossible [(Pt, choQ)]) := ⟨_, _, _, permU 3 [2, 1, 0], ok_separateG D_separate T che cho, G_separate, k_separate, kbinds_p3 (by decide) (fun _ _ _ => rfl)⟩
  have shS := calXN_of D_shows_spacers (ok_showS D_shows_spacers T che wiR isw riI)
  have shT := ok_showT D_shows_separate T che wiR isw riP apa
  have fre := ok_free (P := l.prog) (w := w) (base := base) D_free_in T
  have hit := ok_hits (P := l.prog) (w := w) (base := base) D_hits T
  have aps := ok_apartW D_apart T fre
  have wis := ok_lwishes D_wishes T (ok_lwish (P := l.prog) (w := w) (base := base) D_wish)
  have ste := ok_steps (P := l.prog) (w := w) (base := base) D_by_steps T
  have blo := ok_blocked D_blocked T fre
  have tol := ok_told47 D_told G_Impossible tI EC np_Impossible_index few kS
  have rig := calG_of D_right (ok_right47 D_right T wis ste nee kN tol blo hit aps shS shT)
  have D_law : Dn K mg "law" s_law ["_law_script"] _ _ := ⟨F_law, hfa, B_law⟩
  exact ok_law D_law T tap nex rig few nee
end Gk
open PySem PySem.W PyProof.Rows
set_option maxRecDepth 100000 in
set_option maxHeartbeats 0 in
theorem PySem.Challenge.cw_gapreach_k47_spacers_and_separate_waits_holds : PySem.Challenge.rw_gapreach_k47_spacers_and_separate_waits.Holds := by
  refine Gk.headHolds ?_
  k_fill
  refine' Gx.walkT1 (l := PySem.Challenge.rw_gapreach_k47_spacers_and_separate_waits) (sp := fun P K => Gk.spLaw [(P, Gk.choQ)] K) (k := 7) (x := "_law_script") rfl (by decide) rfl ⟨rfl, by decide, by decide⟩ (fun w h Y => Gx.fragT_in Y) (fun w h Y => Gx.fragT_tab Y List.mem_cons_self (by first | kernel_rfl | rfl)) ?F ?hCode ?hNone ?S
  case S => exact fun K P H a ns _ hH q => ⟨a, ns, rfl, q, Gx.tabs0 hH, fun _ => rfl⟩
  case F =>
    intro w mg fa h KX G hmg
    refine' Gk.all_mk KX G hmg ?a_law ?l_law ?c_law ?k_law ?a_tape ?l_tape ?c_tape ?k_tape ?a_next ?l_next ?c_next ?k_next ?a_wish ?l_wish ?c_wish ?k_wish ?a_wishes ?l_wishes ?c_wishes ?k_wishes ?a_free_in ?l_free_in ?c_free_in ?k_free_in ?a_hits ?l_hits ?c_hits ?k_hits ?a_apart ?l_apart ?c_apart ?k_apart ?a_by_steps ?l_by_steps ?c_by_steps ?k_by_steps ?a_blocked ?l_blocked ?c_blocked ?k_blocked ?a_told ?l_told ?c_told ?k_told ?a_right ?l_right ?c_right ?k_right ?a_is_whole ?l_is_whole ?c_is_whole ?k_is_whole ?a_is_list_of_integers ?l_is_list_of_integers ?c_is_list_of_integers ?k_is_list_of_integers ?a_is_rising ?l_is_rising ?c_is_rising ?k_is_rising ?a_is_span ?l_is_span ?c_is_span ?k_is_span ?a_check_all ?l_check_all ?c_check_all ?k_check_all ?a_wished_interval ?l_wished_interval ?c_wished_interval ?k_wished_interval ?a_wished_rows ?l_wished_rows ?c_wished_rows ?k_wished_rows ?a_greatest_allowed ?l_greatest_allowed ?c_greatest_allowed ?k_greatest_allowed ?a_needless ?l_needless ?c_needless ?k_needless ?a_chosen_rows ?l_chosen_rows ?c_chosen_rows ?k_chosen_rows ?a_fewest_spacers ?l_fewest_spacers ?c_fewest_spacers ?k_fewest_spacers ?a_separate ?l_separate ?c_separate ?k_separate ?a_shows_spacers ?l_shows_spacers ?c_shows_spacers ?k_shows_spacers ?a_are_apart ?l_are_apart ?c_are_apart ?k_are_apart ?a_shows_separate ?l_shows_separate ?c_shows_separate ?k_shows_separate ?aC_InvalidPoints ?xq_InvalidPoints ?xk_InvalidPoints ?xs_InvalidPoints ?xt_InvalidPoints ?aC_InvalidRange ?xq_InvalidRange ?xk_InvalidRange ?xs_InvalidRange ?xt_InvalidRange ?aC_Impossible ?aC_LockError ?x_Impossible ?sa_Impossible ?ga_Impossible ?gg_Impossible ?np_Impossible_index ?a_Impossible_init ?t_Impossible_init ?l_Impossible_init ?c_Impossible_init ?k_Impossible_init ?kC_Impossible ?eC_Impossible ?tC_Impossible ?hD_Impossible ?iC_Impossible ?sB_Impossible ?ha_Impossible ?hm_Impossible ?cls_get ?cls_take ?eC_base ?hD_base ?tC_base ?ga_base ?rd_base ?fc_base ?g_MOST_KEYS ?g_MOST_ROWS ?su_Impossible_Impossible ?z_len ?z_abs ?z_max ?z_min ?z_range ?z_sorted ?z_set ?z_list ?z_tuple ?z_dict ?z_int ?z_str ?z_bool ?z_all ?z_any ?z_sum ?z_isinstance ?z_repr ?z_zip ?z_enumerate
    (case a_law => k_is)
    (case l_law => k_is)
    (case c_law => k_is)
    (case k_law => k_is)
    (case a_tape => k_is)
    (case l_tape => k_is)
    (case c_tape => k_is)
    (case k_tape => k_is)
    (case a_next => k_is)
    (case l_next => k_is)
    (case c_next => k_is)
    (case k_next => k_is)
    (case a_wish => k_is)
    (case l_wish => k_is)
    (case c_wish => k_is)
    (case k_wish => k_is)
    (case a_wishes => k_is)
    (case l_wishes => k_is)
    (case c_wishes => k_is)
    (case k_wishes => k_is)
    (case a_free_in => k_is)
    (case l_free_in => k_is)
    (case c_free_in => k_is)
    (case k_free_in => k_is)
    (case a_hits => k_is)
    (case l_hits => k_is)
    (case c_hits => k_is)
    (case k_hits => k_is)
    (case a_apart => k_is)
    (case l_apart => k_is)
    (case c_apart => k_is)
    (case k_apart => k_is)
    (case a_by_steps => k_is)
    (case l_by_steps => k_is)
    (case c_by_steps => k_is)
    (case k_by_steps => k_is)
    (case a_blocked => k_is)
    (case l_blocked => k_is)
    (case c_blocked => k_is)
    (case k_blocked => k_is)
    (case a_told => k_is)
    (case l_told => k_is)
    (case c_told => k_is)
    (case k_told => k_is)
    (case a_right => k_is)
    (case l_right => k_is)
    (case c_right => k_is)
    (case k_right => k_is)
    (case a_is_whole => k_is)
    (case l_is_whole => k_is)
    (case c_is_whole => k_is)
    (case k_is_whole => k_is)
    (case a_is_list_of_integers => k_is)
    (case l_is_list_of_integers => k_is)
    (case c_is_list_of_integers => k_is)
    (case k_is_list_of_integers => k_is)
    (case a_is_rising => k_is)
    (case l_is_rising => k_is)
    (case c_is_rising => k_is)
    (case k_is_rising => k_is)
    (case a_is_span => k_is)
    (case l_is_span => k_is)
    (case c_is_span => k_is)
    (case k_is_span => k_is)
    (case a_check_all => k_is)
    (case l_check_all => k_is)
    (case c_check_all => k_is)
    (case k_check_all => k_is)
    (case a_wished_interval => k_is)
    (case l_wished_interval => k_is)
    (case c_wished_interval => k_is)
    (case k_wished_interval => k_is)
    (case a_wished_rows => k_is)
    (case l_wished_rows => k_is)
    (case c_wished_rows => k_is)
    (case k_wished_rows => k_is)
    (case a_greatest_allowed => k_is)
    (case l_greatest_allowed => k_is)
    (case c_greatest_allowed => k_is)
    (case k_greatest_allowed => k_is)
    (case a_needless => k_is)
    (case l_needless => k_is)
    (case c_needless => k_is)
    (case k_needless => k_is)
    (case a_chosen_rows => k_is)
    (case l_chosen_rows => k_is)
    (case c_chosen_rows => k_is)
    (case k_chosen_rows => k_is)
    (case a_fewest_spacers => k_is)
    (case l_fewest_spacers => k_is)
    (case c_fewest_spacers => k_is)
    (case k_fewest_spacers => k_is)
    (case a_separate => k_is)
    (case l_separate => k_is)
    (case c_separate => k_is)
    (case k_separate => k_is)
    (case a_shows_spacers => k_is)
    (case l_shows_spacers => k_is)
    (case c_shows_spacers => k_is)
    (case k_shows_spacers => k_is)
    (case a_are_apart => k_is)
    (case l_are_apart => k_is)
    (case c_are_apart => k_is)
    (case k_are_apart => k_is)
    (case a_shows_separate => k_is)
    (case l_shows_separate => k_is)
    (case c_shows_separate => k_is)
    (case k_shows_separate => k_is)
    (case aC_InvalidPoints => k_is)
    (case xq_InvalidPoints => k_exc)
    (case xk_InvalidPoints => k_is)
    (case xs_InvalidPoints => k_is)
    (case xt_InvalidPoints => k_is)
    (case aC_InvalidRange => k_is)
    (case xq_InvalidRange => k_exc)
    (case xk_InvalidRange => k_is)
    (case xs_InvalidRange => k_is)
    (case xt_InvalidRange => k_is)
    (case aC_Impossible => k_is)
    (case aC_LockError => k_is)
    (case x_Impossible => k_is)
    (case sa_Impossible => k_is)
    (case ga_Impossible => k_is)
    (case gg_Impossible => k_is)
    (case np_Impossible_index => k_is)
    (case a_Impossible_init => k_is)
    (case t_Impossible_init => k_is)
    (case l_Impossible_init => k_is)
    (case c_Impossible_init => k_is)
    (case k_Impossible_init => k_is)
    (case kC_Impossible => k_is)
    (case eC_Impossible => k_is)
    (case tC_Impossible => k_is)
    (case hD_Impossible => k_is)
    (case iC_Impossible => k_is)
    (case sB_Impossible => k_is)
    (case ha_Impossible => k_is)
    (case hm_Impossible => k_is)
    (case cls_get => k_is)
    (case cls_take => k_is)
    (case eC_base => k_is)
    (case hD_base => k_is)
    (case tC_base => k_is)
    (case ga_base => k_is)
    (case rd_base => k_is)
    (case fc_base => k_is)
    (case g_MOST_KEYS => k_is)
    (case g_MOST_ROWS => k_is)
    (case su_Impossible_Impossible => k_is)
    (case z_len => k_is)
    (case z_abs => k_is)
    (case z_max => k_is)
    (case z_min => k_is)
    (case z_range => k_is)
    (case z_sorted => k_is)
    (case z_set => k_is)
    (case z_list => k_is)
    (case z_tuple => k_is)
    (case z_dict => k_is)
    (case z_int => k_is)
    (case z_str => k_is)
    (case z_bool => k_is)
    (case z_all => k_is)
    (case z_any => k_is)
    (case z_sum => k_is)
    (case z_isinstance => k_is)
    (case z_repr => k_is)
    (case z_zip => k_is)
    (case z_enumerate => k_is)
  case hCode => exact fun w h X => PySem.W.codeHd_of_K X (by kernel_rfl)
  case hNone => exact fun w => by first | kernel_rfl | rfl
#print axioms PySem.Challenge.cw_gapreach_k47_spacers_and_separate_waits_holds
