import PyProof.Rows.All
import Wide.All
import OpenK.AllK
import Wide.FinOn
import HandS.ForMost
import HandS.Wide
import HandS.IsInst
import HandS.Flow
import HandS.Conv
import HandS.Codes
import PySem.Challenge.RW_reforge_k42_moves
set_option Elab.async false
set_option linter.all false
set_option maxRecDepth 100000
set_option maxHeartbeats 4000000
/-! stepping lemmas over the layer's readings -/
namespace Kt
open PySem PySem.Spec PyProof.Rows L2
abbrev St := L2.St
def BlGo (x : V) (H : Hp) (Q : Bool → Hp → Prop) : Prop := ∃ k, x = .bl k ∧ Q k H
def BlV (x : V) (P : Bool → Prop) : Prop := ∃ k, x = .bl k ∧ P k
def GetGo (x y : V) (H : Hp) (Q : VK) : Prop := ∃ a v, x = .ref a ∧ DGet H a y (some v) ∧ Q v H
def InGo (f : Bool → Bool) (x y : V) (H : Hp) (Q : VK) : Prop := ∃ a o, x = .ref a ∧ DGet H a y o ∧ Q (.bl (f o.isSome)) H
def PutGo (x y v : V) (H : Hp) (N : Hp → Prop) : Prop := ∃ a H4, x = .ref a ∧ DPut H a y v H4 ∧ N H4
def Get2a (x : V) (H : Hp) (N : Addr → Prop) : Prop := ∃ a, x = .ref a ∧ IsD H a ∧ N a
def Get2b (a : Addr) (y z : V) (H : Hp) (Q : VK) : Prop := ∃ o, DGet H a y o ∧ Q (o.getD z) H
def rLen (K : PySem.W.Frag) : List V → Hp → VK → Prop := fun xs H Q => ∃ p ys, xs = [.ref p] ∧ (SqL K H p ys ∨ SqT K H p ys) ∧ Q (.int ys.length) H
theorem cr_len {X : Cx} : CallR X (.builtin "len") (rLen X.K) := call_len_seq
def rLenD : List V → Hp → VK → Prop := fun xs H Q => ∃ a kvs, xs = [V.ref a] ∧ Rd H a (.dK kvs) ∧ Q (.int kvs.length) H
theorem cr_lenD {X : Cx} : CallR X (.builtin "len") rLenD := by
  intro pins s σ H xs us Q I r h
  obtain ⟨a, kvs, rfl, ha, q⟩ := h
  obtain ⟨u, rfl, ru⟩ := vals1 r
  cases ru
  exact d_len I ha fun t s' I' => ⟨.int kvs.length, H, I', ⟨t, rfl⟩, q⟩
def rLenZ : List V → Hp → VK → Prop := fun xs H Q => ∃ z, xs = [.str z] ∧ z.length ≤ sizeLine ∧ Q (.int z.length) H
theorem cr_lenZ {X : Cx} : CallR X (.builtin "len") rLenZ := call_len_str
def rInt1 : List V → Hp → VK → Prop := fun xs H Q => (∃ i, xs = [.int i] ∧ Q (.int i) H) ∨ ∃ k, xs = [.bl k] ∧ Q (.int (if k then 1 else 0)) H
theorem cr_int1 {X : Cx} : CallR X (.type "int") rInt1 := call_int1
def rListOf (K : PySem.W.Frag) : List V → Hp → VK → Prop := fun xs H Q => ∃ p ys, xs = [.ref p] ∧ (SqL K H p ys ∨ SqT K H p ys) ∧ ∀ l, H l = none → Q (.ref l) (upd H l (.lst ys))
theorem cr_listof {X : Cx} : CallR X (.type "list") (rListOf X.K) := call_list_of
def rTupOf (K : PySem.W.Frag) : List V → Hp → VK → Prop := fun xs H Q => ∃ p ys, xs = [.ref p] ∧ ((SqL K H p ys ∧ ∀ l, H l = none → Q (.ref l) (upd H l (.tup ys))) ∨ (SqT K H p ys ∧ Q (.ref p) H))
theorem cr_tupof {X : Cx} : CallR X (.type "tuple") (rTupOf X.K) := call_tuple_of
section
variable {K : PySem.W.Frag} {σ : St} {H : Hp} {n b c : St → Hp → Prop} {r : VK} {t1 t2 ts : TS} {te ta tb td ty tv tx : TE} {tt tu : TT} {g : TG} {Q : VK} {QB : Bool → Hp → Prop} {QA : List V → Hp → Prop} {x y v : V} {i : Nat} {tr : TA}
/-! statements -/
theorem s_seq (h : t1 ⟨t2 ⟨n, r, b, c⟩, r, b, c⟩ σ H) : tSeq t1 t2 ⟨n, r, b, c⟩ σ H := h
theorem s_next (h : n σ H) : tNext ⟨n, r, b, c⟩ σ H := h
theorem s_brk (h : b σ H) : tBreak ⟨n, r, b, c⟩ σ H := h
theorem s_cont (h : c σ H) : tCont ⟨n, r, b, c⟩ σ H := h
theorem s_asg (h : te σ H fun x H1 => g x σ H1 n) : tAsg te g ⟨n, r, b, c⟩ σ H := h
theorem s_drop (h : te σ H fun _ H1 => n σ H1) : tDrop te ⟨n, r, b, c⟩ σ H := h
theorem s_ret (h : te σ H r) : tRet te ⟨n, r, b, c⟩ σ H := h
theorem s_retN (h : r .non H) : tRetN ⟨n, r, b, c⟩ σ H := h
theorem s_if (h : tt σ H fun k H1 => if k = true then t1 ⟨n, r, b, c⟩ σ H1 else t2 ⟨n, r, b, c⟩ σ H1) : tIfS tt t1 t2 ⟨n, r, b, c⟩ σ H := h
theorem s_aug {ti : TIp} (hx : σ[i]? = some (some x)) (h : te σ H fun y H1 => ti x y H1 fun z H2 => n (σ.set i (some z)) H2) : tAug i te ti ⟨n, r, b, c⟩ σ H := ⟨x, hx, h⟩
theorem g_name (h : n (σ.set i (some v)) H) : gName i v σ H n := h
/-! expressions -/
theorem e_var (h : σ[i]? = some (some v)) (q : Q v H) : tVar i σ H Q := ⟨v, h, q⟩
theorem e_c (q : Q v H) : tC v σ H Q := q
theorem e_op {f : R2} (h : ta σ H fun x H1 => tb σ H1 fun y H2 => f x y H2 Q) : tOp f ta tb σ H Q := h
theorem e_un {f : V → Hp → VK → Prop} (h : ta σ H fun x H1 => f x H1 Q) : tUn f ta σ H Q := h
theorem e_cb {f : List V → Hp → VK → Prop} (h : tr σ H fun vs H1 => f vs H1 Q) : tCB f tr σ H Q := h
theorem e_call {sp : Sp} {dvs : List V} {E : XK} (h : tr σ H fun vs H1 => sp (vs ++ dvs) H1 Q E) : tCall sp dvs E tr σ H Q := h
theorem e_tup (h : tr σ H fun xs H1 => xs.length ≤ sizeLine ∧ ∀ p, H1 p = none → Q (.ref p) (upd H1 p (.tup xs))) : tTup tr σ H Q := h
theorem e_lst (h : tr σ H fun xs H1 => xs.length ≤ sizeLine ∧ ∀ p, H1 p = none → Q (.ref p) (upd H1 p (.lst xs))) : tLst tr σ H Q := h
theorem e_if (h : tt σ H fun k H1 => if k = true then ta σ H1 Q else tb σ H1 Q) : tIf tt ta tb σ H Q := h
theorem a_nil (h : QA [] H) : tNil σ H QA := h
theorem a_cons (h : ta σ H fun x H1 => tr σ H1 fun xs H2 => QA (x :: xs) H2) : tCons ta tr σ H QA := h
theorem e_notV (h : ta σ H fun x H1 => BlGo x H1 fun k H2 => Q (.bl (!k)) H2) : tNotV ta σ H Q := h
theorem e_andV (h : ta σ H fun x H1 => BlGo x H1 fun k H2 => if k = true then tb σ H2 Q else Q (.bl false) H2) : tAndV ta tb σ H Q := h
theorem e_orV (h : ta σ H fun x H1 => BlGo x H1 fun k H2 => if k = true then Q (.bl true) H2 else tb σ H2 Q) : tOrV ta tb σ H Q := h
/-! tests -/
theorem c_test (h : te σ H fun x H1 => BlGo x H1 QB) : tTest te σ H QB := h
theorem c_B (h : te σ H fun x H1 => BlGo x H1 QB) : tB te σ H QB := h
theorem c_and (h : tt σ H fun k H1 => if k = true then tu σ H1 QB else QB false H1) : tAnd tt tu σ H QB := h
theorem c_or (h : tt σ H fun k H1 => if k = true then QB true H1 else tu σ H1 QB) : tOr tt tu σ H QB := h
theorem c_not (h : tt σ H fun k H1 => QB (!k) H1) : tNot tt σ H QB := h
theorem c_yes (h : QB true H) : tYes σ H QB := h
theorem x_bl {k : Bool} (h : QB k H) : BlGo (.bl k) H QB := ⟨k, rfl, h⟩
theorem if_dec {p : Prop} [Decidable p] {A B : Prop} (h1 : p → A) (h2 : ¬ p → B) : if decide p = true then A else B := by
  by_cases h : p
  · rw [if_pos (decide_eq_true h)]; exact h1 h
  · rw [if_neg (by rw [decide_eq_false h]; exact Bool.false_ne_true)]; exact h2 h
theorem if_ndec {p : Prop} [Decidable p] {A B : Prop} (h1 : ¬ p → A) (h2 : p → B) : if (!decide p) = true then A else B := by
  by_cases h : p
  · rw [decide_eq_true h]; exact iteF (h2 h)
  · rw [decide_eq_false h]; exact iteT (h1 h)
theorem if_b {k : Bool} {A B : Prop} (h1 : k = true → A) (h2 : k = false → B) : if k = true then A else B := by
  cases k with
  | true => exact iteT (h1 rfl)
  | false => exact iteF (h2 rfl)
theorem if_nb {k : Bool} {A B : Prop} (h1 : k = false → A) (h2 : k = true → B) : if (!k) = true then A else B := by
  cases k with
  | true => exact iteF (h2 rfl)
  | false => exact iteT (h1 rfl)
theorem if_nT {A B : Prop} (h : B) : if (!true) = true then A else B := iteF h
theorem if_nF {A B : Prop} (h : A) : if (!false) = true then A else B := iteT h
/-! operators by values -/
theorem r_I0 {f : Int → Int → V} {j k : Int} (h : Q (f j k) H) : rI0 f (.int j) (.int k) H Q := ⟨j, k, rfl, rfl, h⟩
theorem r_I {C : Int → Int → Prop} {f : Int → Int → V} {j k : Int} (hc : C j k) (h : Q (f j k) H) : rI C f (.int j) (.int k) H Q := ⟨j, k, rfl, rfl, hc, h⟩
theorem r_U {f : Int → V} {j : Int} (h : Q (f j) H) : rU f (.int j) H Q := ⟨j, rfl, h⟩
theorem dec_int (j k : Int) : decide (V.int j = V.int k) = decide (j = k) := by
  by_cases h : j = k
  · rw [h, decide_eq_true rfl, decide_eq_true rfl]
  · rw [decide_eq_false h, decide_eq_false fun e => h (V.int.inj e)]
theorem r_eqI {j k : Int} (h : Q (.bl (decide (j = k))) H) : rEq (.int j) (.int k) H Q := ⟨rfl, by rw [dec_int]; exact h⟩
theorem r_neI {j k : Int} (h : Q (.bl (!decide (j = k))) H) : rNe (.int j) (.int k) H Q := ⟨rfl, by rw [dec_int]; exact h⟩
theorem r_ixL {p : Addr} {xs : List V} {j : Nat} (h : SqL K H p xs) (ha : xs[j]? = some v) (q : Q v H) : rIxL K (.ref p) (.int (j : Int)) H Q := ⟨p, xs, _, v, rfl, rfl, h, atI_nat ha, q⟩
theorem r_ixT {p : Addr} {xs : List V} {j : Nat} (h : SqT K H p xs) (ha : xs[j]? = some v) (q : Q v H) : rIxT K (.ref p) (.int (j : Int)) H Q := ⟨p, xs, _, v, rfl, rfl, h, atI_nat ha, q⟩
theorem r_ixT0 {p : Addr} {xs : List V} (h : H p = some (.tup xs)) (ha : xs[0]? = some v) (q : Q v H) : rIxT K (.ref p) (.int 0) H Q := ⟨p, xs, 0, v, rfl, rfl, .of h, atI_nat (j := 0) ha, q⟩
theorem r_ixT1 {p : Addr} {xs : List V} (h : H p = some (.tup xs)) (ha : xs[1]? = some v) (q : Q v H) : rIxT K (.ref p) (.int 1) H Q := ⟨p, xs, 1, v, rfl, rfl, .of h, atI_nat (j := 1) ha, q⟩
theorem r_ixLn {p : Addr} {xs : List V} {z : Int} (j : Nat) (hz : z = (j : Int)) (h : SqL K H p xs) (ha : xs[j]? = some v) (q : Q v H) : rIxL K (.ref p) (.int z) H Q := by subst hz; exact r_ixL h ha q
/-! dicts with int keys -/
theorem e_dget (h : td σ H fun x H1 => ty σ H1 fun y H2 => GetGo x y H2 Q) : tDGet td ty σ H Q := h
theorem x_get {a : Addr} {kvs : List (Key × V)} {k : Int} (e : H a = some (.dK kvs)) (hv : valV kvs (.inl k) = some v) (q : Q v H) : GetGo (.ref a) (.int k) H Q := ⟨a, v, rfl, hv ▸ DGet.k (k := .inl k) e, q⟩
theorem x_getR {a : Addr} {kvs : List (Key × V)} {k : Int} (e : Rd H a (.dK kvs)) (hv : valV kvs (.inl k) = some v) (q : Q v H) : GetGo (.ref a) (.int k) H Q := ⟨a, v, rfl, .inl ⟨kvs, .inl k, e, rfl, hv.symm⟩, q⟩
theorem x_inR {a : Addr} {kvs : List (Key × V)} {k : Int} {f : Bool → Bool} (e : Rd H a (.dK kvs)) (q : Q (.bl (f (valV kvs (.inl k)).isSome)) H) : InGo f (.ref a) (.int k) H Q := ⟨a, _, rfl, .inl ⟨kvs, .inl k, e, rfl, rfl⟩, q⟩
theorem e_din (h : ty σ H fun y H1 => td σ H1 fun x H2 => InGo (fun z => z) x y H2 Q) : tDIn ty td σ H Q := h
theorem e_dnin (h : ty σ H fun y H1 => td σ H1 fun x H2 => InGo (fun z => !z) x y H2 Q) : tDNotIn ty td σ H Q := h
theorem x_in {a : Addr} {kvs : List (Key × V)} {k : Int} {f : Bool → Bool} (e : H a = some (.dK kvs)) (q : Q (.bl (f (valV kvs (.inl k)).isSome)) H) : InGo f (.ref a) (.int k) H Q := ⟨a, _, rfl, DGet.k (k := .inl k) e, q⟩
theorem s_dput (h : tv σ H fun v H1 => td σ H1 fun x H2 => ty σ H2 fun y H3 => PutGo x y v H3 fun H4 => n σ H4) : sDPut td ty tv ⟨n, r, b, c⟩ σ H := h
theorem x_put {N : Hp → Prop} {a : Addr} {kvs : List (Key × V)} {k : Int} (e : H a = some (.dK kvs)) (hl : kvs.length < sizeLine) (q : N (upd H a (.dK (putK kvs (.inl k) v)))) : PutGo (.ref a) (.int k) v H N := ⟨a, _, rfl, DPut.k (k := .inl k) e hl, q⟩
theorem e_dget2 (h : td σ H fun x H1 => Get2a x H1 fun a => ty σ H1 fun y H2 => tx σ H2 fun z H3 => Get2b a y z H3 Q) : tDGet2 td ty tx σ H Q := h
theorem x_get2a {a : Addr} {kvs : List (Key × V)} {N : Addr → Prop} (e : H a = some (.dK kvs)) (q : N a) : Get2a (.ref a) H N := ⟨a, rfl, .inl ⟨kvs, .inl e⟩, q⟩
theorem x_get2b {a : Addr} {kvs : List (Key × V)} {k : Int} {z : V} (e : H a = some (.dK kvs)) (q : Q ((valV kvs (.inl k)).getD z) H) : Get2b a (.int k) z H Q := ⟨_, DGet.k (k := .inl k) e, q⟩
theorem e_dnewK (h : ∀ p, H p = none → Q (.ref p) (upd H p (.dK []))) : tDNewK σ H Q := h
/-! lists -/
theorem e_bm {T : String} {f : V → List V → Hp → VK → Prop} (h : ta σ H fun x H1 => tyV K T x H1 ∧ tr σ H1 fun xs H2 => f x xs H2 Q) : tBM K T f ta tr σ H Q := h
theorem e_bm0 {T : String} {f : V → List V → Hp → VK → Prop} (h : ta σ H fun x H1 => tyV K T x H1 ∧ f x [] H1 Q) : tBM0 K T f ta σ H Q := h
theorem ty_list {p : Addr} {xs : List V} (h : H p = some (.lst xs)) : tyV K "list" (.ref p) H := .inl ⟨rfl, _, .of h⟩
theorem x_tyL {p : Addr} {xs : List V} {N : Prop} (h : H p = some (.lst xs)) (q : N) : tyV K "list" (.ref p) H ∧ N := ⟨ty_list h, q⟩
theorem r_append {p : Addr} {xs : List V} (h : H p = some (.lst xs)) (hl : xs.length < sizeLine) (q : Q .non (upd H p (.lst (xs ++ [y])))) : rAppend (.ref p) [y] H Q := ⟨p, xs, y, rfl, rfl, h, hl, q⟩
theorem r_len {p : Addr} {xs : List V} (h : SqL K H p xs ∨ SqT K H p xs) (q : Q (.int xs.length) H) : rLen K [.ref p] H Q := ⟨p, xs, rfl, h, q⟩
theorem r_lenL {p : Addr} {xs : List V} (h : H p = some (.lst xs)) (q : Q (.int xs.length) H) : rLen K [.ref p] H Q := ⟨p, xs, rfl, .inl (.of h), q⟩
theorem r_lenD {p : Addr} {kvs : List (Key × V)} (h : H p = some (.dK kvs)) (q : Q (.int kvs.length) H) : rLenD [.ref p] H Q := ⟨p, kvs, rfl, .inl h, q⟩
theorem r_lenDR {p : Addr} {kvs : List (Key × V)} (h : Rd H p (.dK kvs)) (q : Q (.int kvs.length) H) : rLenD [.ref p] H Q := ⟨p, kvs, rfl, h, q⟩
theorem r_int1 {j : Int} (q : Q (.int j) H) : rInt1 [.int j] H Q := .inl ⟨j, rfl, q⟩
theorem r_pop {p : Addr} {xs : List V} (h : H p = some (.lst (xs ++ [y]))) (q : Q y (upd H p (.lst xs))) : rPop (.ref p) [] H Q := ⟨p, xs ++ [y], y, rfl, rfl, h, by simp, by rw [List.dropLast_concat]; exact q⟩
theorem x_new {xs : List V} {P : Prop} {N : Addr → Prop} (hl : xs.length ≤ sizeLine) (q : P) : xs.length ≤ sizeLine ∧ P := ⟨hl, q⟩
theorem e_sl {f : V → Option Int → Option Int → Hp → VK → Prop} {tl th : TO} (h : ta σ H fun x H1 => tl σ H1 fun l H2 => th σ H2 fun u H3 => f x l u H3 Q) : tSl f ta tl th σ H Q := h
def PartGo (x : V) (H : Hp) (Q : Option Int → Hp → Prop) : Prop := ∃ i, x = .int i ∧ Q (some i) H
theorem o_none {QO : Option Int → Hp → Prop} (h : QO none H) : tNoPart σ H QO := h
theorem o_some {QO : Option Int → Hp → Prop} (h : ta σ H fun x H1 => PartGo x H1 QO) : tPart ta σ H QO := h
theorem x_part {QO : Option Int → Hp → Prop} {j : Int} (h : QO (some j) H) : PartGo (.int j) H QO := ⟨j, rfl, h⟩
theorem r_slL {p : Addr} {xs : List V} {lo hi : Option Int} (h : SqL K H p xs) (q : ∀ l, H l = none → Q (.ref l) (upd H l (.lst (cutV xs lo hi)))) : rSlL K (.ref p) lo hi H Q := ⟨p, xs, rfl, h, q⟩
theorem g_sub {to ti : TE} {t : TSet} (h : to σ H fun o H1 => ti σ H1 fun i H2 => t o i v H2 fun H3 => n σ H3) : gSub to ti t v σ H n := h
theorem r_setL {N : Hp → Prop} {p : Addr} {xs : List V} {z : Int} (j : Nat) (hz : z = (j : Int)) (h : H p = some (.lst xs)) (hj : j < xs.length) (q : N (upd H p (.lst (xs.set j v)))) : rSetL (.ref p) (.int z) v H N := by
  subst hz
  refine ⟨p, xs, _, j, rfl, rfl, h, ?_, q⟩
  unfold ixN
  rw [if_pos (by omega), if_pos (by omega), Int.toNat_natCast]
theorem r_sum {p : Addr} {ns : List Int} (h : SqL K H p (ns.map V.int)) (q : Q (.int ns.sum) H) : rSum K [.ref p] H Q := ⟨p, ns, rfl, h, q⟩
theorem r_listof {p : Addr} {xs : List V} (h : SqL K H p xs ∨ SqT K H p xs) (q : ∀ l, H l = none → Q (.ref l) (upd H l (.lst xs))) : rListOf K [.ref p] H Q := ⟨p, xs, rfl, h, q⟩
theorem r_popAt {p : Addr} {xs : List V} {z : Int} (j : Nat) (hz : z = (j : Int)) (h : H p = some (.lst xs)) (hv : xs[j]? = some y) (hl : xs.length ≤ 1000000) (q : Q y (upd H p (.lst (xs.eraseIdx j)))) : rPopAt (.ref p) [.int z] H Q := by
  subst hz
  have hj := (List.getElem?_eq_some_iff.mp hv).1
  refine ⟨p, xs, _, j, y, rfl, rfl, h, by omega, by omega, ?_, hv, q⟩
  unfold seqIndex?
  simp only [show ¬ ((j : Int) < 0) by omega, if_false]
  first
    | (rw [if_pos (by omega)]; simp)
    | (simp; omega)
theorem r_clear {p : Addr} {xs : List V} (h : H p = some (.lst xs)) (q : Q .non (upd H p (.lst []))) : rClear (.ref p) [] H Q := ⟨p, xs, rfl, rfl, h, q⟩
theorem r_reverse {p : Addr} {xs : List V} (h : H p = some (.lst xs)) (q : Q .non (upd H p (.lst xs.reverse))) : rReverse (.ref p) [] H Q := ⟨p, xs, rfl, rfl, h, q⟩
theorem r_isi {x cv : V} {t u : Value} {k : Bool} (hc : ClsV cv u) (ht : TyX K H x t) (hk : PySem.W.kitOne K t u = some k) (q : Q (.bl k) H) : rIsi K [x, cv] H Q := ⟨x, cv, t, u, k, rfl, hc, ht, hk, q⟩
end
theorem small {n : Nat} (h : n ≤ 1000000) : n < sizeLine := Nat.lt_of_le_of_lt h (by decide)
theorem smallE {n : Nat} (h : n ≤ 1000000) : n ≤ sizeLine := Nat.le_of_lt (small h)
/-! loops -/
section
variable {K : PySem.W.Frag} {σ : St} {H : Hp} {n b c : St → Hp → Prop} {r : VK} {tb : TS} {te : TE} {g : TG}
theorem f_list (i : Nat) {a : Addr} {xs : List V} (hi : σ[i]? = some (some (.ref a))) (hx : SqL K H a xs) (Pv : Nat → St → Hp → Prop) (h0 : Pv 0 σ H) (hl : ∀ j σ H, j ≤ xs.length → Pv j σ H → SqL K H a xs)
    (hs : ∀ j x σ H, xs[j]? = some x → Pv j σ H → g x σ H fun σ2 H2 => tb ⟨Pv (j + 1), r, n, Pv (j + 1)⟩ σ2 H2) (hd : ∀ σ H, Pv xs.length σ H → n σ H) : tFor (iList K (tVar i)) g tb ⟨n, r, b, c⟩ σ H :=
  ⟨.ref a, hi, a, rfl, ⟨xs, hx⟩, for_list (xs := xs) (D := ⟨n, r, b, c⟩) Pv h0 hl hs hd⟩
/-- over a list just made (list(d), a call's value) -/
theorem f_listE (h : te σ H fun x H1 => ∃ a, x = .ref a ∧ ∃ xs, SqL K H1 a xs ∧ ∃ Pv : Nat → St → Hp → Prop, Pv 0 σ H1 ∧ (∀ j σ H, j ≤ xs.length → Pv j σ H → SqL K H a xs) ∧
    (∀ j x σ H, xs[j]? = some x → Pv j σ H → g x σ H fun σ2 H2 => tb ⟨Pv (j + 1), r, n, Pv (j + 1)⟩ σ2 H2) ∧ ∀ σ H, Pv xs.length σ H → n σ H)
    (mono : ∀ Q Q' : VK, (∀ v H, Q v H → Q' v H) → te σ H Q → te σ H Q') : tFor (iList K te) g tb ⟨n, r, b, c⟩ σ H :=
  mono _ _ (fun v H1 ⟨a, e, xs, hx, Pv, h0, hl, hs, hd⟩ => ⟨a, e, ⟨xs, hx⟩, for_list (xs := xs) (D := ⟨n, r, b, c⟩) Pv h0 hl hs hd⟩) h
theorem f_range {ta : TA} {j : Int} (h : ta σ H fun vs H1 => vs = [.int j] ∧ H1 = H) (mono : ∀ Q Q' : List V → Hp → Prop, (∀ v H, Q v H → Q' v H) → ta σ H Q → ta σ H Q') (h1 : -(2 ^ 62) ≤ j) (h2 : j < 2 ^ 62) (Pv : Nat → St → Hp → Prop) (h0 : Pv 0 σ H)
    (hs : ∀ k σ H, k < j.toNat → Pv k σ H → g (.int (k : Int)) σ H fun σ2 H2 => tb ⟨Pv (k + 1), r, n, Pv (k + 1)⟩ σ2 H2) (hd : ∀ σ H, Pv j.toNat σ H → n σ H) : tFor (iRng1 ta) g tb ⟨n, r, b, c⟩ σ H :=
  mono _ _ (fun vs H1 ⟨e1, e2⟩ => ⟨j, e1, h1, h2, by subst e2; exact for_range (lo := 0) (n := j.toNat) (D := ⟨n, r, b, c⟩) Pv h0 (fun k σ H hk p => by rw [Int.zero_add]; exact hs k σ H hk p) hd⟩) h
/-- for k in d -/
theorem f_keys (i : Nat) {d : Addr} {kvs : List (Key × V)} (hi : σ[i]? = some (some (.ref d))) (hd0 : H d = some (.dK kvs)) (Pv : Obj → Nat → St → Hp → Prop) (h0 : ∀ od, Pv od 0 σ (upd H d (.frz od (.dK kvs))))
    (hl : ∀ od j σ H, Pv od j σ H → H d = some (.frz od (.dK kvs)))
    (hs : ∀ od j k v σ H, kvs[j]? = some (k, v) → Pv od j σ H → g (kV k) σ H fun σ2 H2 => tb ⟨Pv od (j + 1), fun v H' => H' d = some (.frz od (.dK kvs)) ∧ r v (upd H' d (.dK kvs)), fun σ' H' => H' d = some (.frz od (.dK kvs)) ∧ n σ' (upd H' d (.dK kvs)), Pv od (j + 1)⟩ σ2 H2)
    (hd : ∀ od σ H, Pv od kvs.length σ H → n σ (upd H d (.dK kvs))) : tLock (tFor (iKeys (tVar i)) g tb) ⟨n, r, b, c⟩ σ H := by
  refine ⟨d, .dK kvs, hd0, trivial, fun od => ⟨.ref d, hi, d, od, rfl, .inl ⟨kvs, upd_same, ?_⟩⟩⟩
  refine ⟨fun j m σ H => m = kvs.length - j ∧ j ≤ kvs.length ∧ Pv od j σ H, ⟨kvs.length, by simp, Nat.zero_le _, h0 od⟩, ?_⟩
  rintro j m σ H ⟨rfl, hj, p⟩
  have q := hl od j σ H p
  by_cases hlt : j < kvs.length
  · refine .inr ⟨⟨q, hlt⟩, Pv od (j + 1), fun σ' H' p' => ⟨kvs.length - (j + 1), by omega, rfl, hlt, p'⟩, fun x H' y => ?_⟩
    obtain ⟨e, k, v, hk, ex⟩ := y
    subst e ex
    exact hs od j k v σ _ hk p
  · have e : j = kvs.length := by omega
    subst e
    exact .inl ⟨⟨q, Nat.le_refl _⟩, q, hd od σ H p⟩
/-- what a for asks once its iterator has come -/
def ForGo (J : It) (g : TG) (tb : TS) (n : St → Hp → Prop) (r : VK) (σ : St) (H : Hp) : Prop := ∃ W : Nat → Nat → St → Hp → Prop, (∃ m, W 0 m σ H) ∧ ∀ i m σ H, W i m σ H →
  (J.stop i H ∧ n σ H) ∨ (J.go i H ∧ ∃ N : St → Hp → Prop, (∀ σ' H', N σ' H' → ∃ m', m' < m ∧ W (i + 1) m' σ' H') ∧ ∀ x H', J.yld i H x H' → g x σ H' fun σ2 H2 => tb ⟨N, r, n, N⟩ σ2 H2)
def RngGo (vs : List V) (H : Hp) (R : It → Hp → Prop) : Prop := ∃ j : Int, vs = [.int j] ∧ -(2 ^ 62) ≤ j ∧ j < 2 ^ 62 ∧ R (Itr 0 j.toNat) H
def Rng2Go (vs : List V) (H : Hp) (R : It → Hp → Prop) : Prop := ∃ i j : Int, vs = [.int i, .int j] ∧ (-(2 ^ 62) ≤ i ∧ i < 2 ^ 62 ∧ -(2 ^ 62) ≤ j ∧ j < 2 ^ 62) ∧ R (Itr i (j - i).toNat) H
def LstGo (K : PySem.W.Frag) (x : V) (H : Hp) (R : It → Hp → Prop) : Prop := ∃ a, x = .ref a ∧ (∃ xs, SqL K H a xs) ∧ R (Itl K a) H
def TupGo (K : PySem.W.Frag) (x : V) (H : Hp) (R : It → Hp → Prop) : Prop := ∃ a, x = .ref a ∧ (∃ xs, SqT K H a xs) ∧ R (Itt K a) H
theorem f_rng {ta : TA} (h : ta σ H fun vs H1 => RngGo vs H1 fun J H2 => ForGo J g tb n r σ H2) : tFor (iRng1 ta) g tb ⟨n, r, b, c⟩ σ H := h
theorem f_rng2 {ta : TA} (h : ta σ H fun vs H1 => Rng2Go vs H1 fun J H2 => ForGo J g tb n r σ H2) : tFor (iRng2 ta) g tb ⟨n, r, b, c⟩ σ H := h
theorem f_lst (h : te σ H fun x H1 => LstGo K x H1 fun J H2 => ForGo J g tb n r σ H2) : tFor (iList K te) g tb ⟨n, r, b, c⟩ σ H := h
theorem f_tup (h : te σ H fun x H1 => TupGo K x H1 fun J H2 => ForGo J g tb n r σ H2) : tFor (iTup K te) g tb ⟨n, r, b, c⟩ σ H := h
theorem x_rng {R : It → Hp → Prop} {j : Int} (h1 : -(2 ^ 62) ≤ j) (h2 : j < 2 ^ 62) (q : R (Itr 0 j.toNat) H) : RngGo [.int j] H R := ⟨j, rfl, h1, h2, q⟩
theorem x_lst {R : It → Hp → Prop} {a : Addr} {xs : List V} (h : SqL K H a xs) (q : R (Itl K a) H) : LstGo K (.ref a) H R := ⟨a, rfl, ⟨xs, h⟩, q⟩
theorem x_tup {R : It → Hp → Prop} {a : Addr} {xs : List V} (h : SqT K H a xs) (q : R (Itt K a) H) : TupGo K (.ref a) H R := ⟨a, rfl, ⟨xs, h⟩, q⟩
theorem go_rng {k : Nat} (Pv : Nat → St → Hp → Prop) (h0 : Pv 0 σ H) (hs : ∀ (i : Nat) σ H, i < k → Pv i σ H → g (.int (i : Int)) σ H fun σ2 H2 => tb ⟨Pv (i + 1), r, n, Pv (i + 1)⟩ σ2 H2) (hd : ∀ σ H, Pv k σ H → n σ H) : ForGo (Itr 0 k) g tb n r σ H :=
  for_range (lo := 0) (n := k) (D := ⟨n, r, fun _ _ => False, fun _ _ => False⟩) Pv h0 (fun k σ H hk p => by rw [Int.zero_add]; exact hs k σ H hk p) hd
/-- the end, and what a break is to reach, by Fin -/
theorem go_rngF {k : Nat} (Fin : St → Hp → Prop) (Pv : Nat → St → Hp → Prop) (h0 : Pv 0 σ H) (hfin : ∀ σ H, Fin σ H → n σ H)
    (hs : ∀ n' : St → Hp → Prop, (∀ σ H, Fin σ H → n' σ H) → ∀ (i : Nat) σ H, i < k → Pv i σ H → g (.int (i : Int)) σ H fun σ2 H2 => tb ⟨Pv (i + 1), r, n', Pv (i + 1)⟩ σ2 H2) (hd : ∀ σ H, Pv k σ H → Fin σ H) : ForGo (Itr 0 k) g tb n r σ H :=
  go_rng Pv h0 (hs n hfin) fun σ H p => hfin σ H (hd σ H p)
theorem go_lst {a : Addr} {xs : List V} (Pv : Nat → St → Hp → Prop) (h0 : Pv 0 σ H) (hl : ∀ j σ H, j ≤ xs.length → Pv j σ H → SqL K H a xs)
    (hs : ∀ j x σ H, xs[j]? = some x → Pv j σ H → g x σ H fun σ2 H2 => tb ⟨Pv (j + 1), r, n, Pv (j + 1)⟩ σ2 H2) (hd : ∀ σ H, Pv xs.length σ H → n σ H) : ForGo (Itl K a) g tb n r σ H :=
  for_list (xs := xs) (D := ⟨n, r, fun _ _ => False, fun _ _ => False⟩) Pv h0 hl hs hd
theorem go_tup {a : Addr} {xs : List V} (Pv : Nat → St → Hp → Prop) (h0 : Pv 0 σ H) (hl : ∀ j σ H, j ≤ xs.length → Pv j σ H → SqT K H a xs)
    (hs : ∀ j x σ H, xs[j]? = some x → Pv j σ H → g x σ H fun σ2 H2 => tb ⟨Pv (j + 1), r, n, Pv (j + 1)⟩ σ2 H2) (hd : ∀ σ H, Pv xs.length σ H → n σ H) : ForGo (Itt K a) g tb n r σ H :=
  for_tup (xs := xs) (D := ⟨n, r, fun _ _ => False, fun _ _ => False⟩) Pv h0 hl hs hd
/-- for x in list(d) -/
theorem f_listD (i : Nat) {d : Addr} {kvs : List (Key × V)} (hi : σ[i]? = some (some (.ref d))) (hd0 : H d = some (.dK kvs)) (Pv : Addr → Nat → St → Hp → Prop)
    (h0 : ∀ l, H l = none → Pv l 0 σ (upd H l (.lst (kvs.map fun kv => kV kv.1)))) (hl : ∀ l j σ H', j ≤ kvs.length → Pv l j σ H' → H' l = some (.lst (kvs.map fun kv => kV kv.1)))
    (hs : ∀ l j k v σ H', kvs[j]? = some (k, v) → Pv l j σ H' → g (kV k) σ H' fun σ2 H2 => tb ⟨Pv l (j + 1), r, n, Pv l (j + 1)⟩ σ2 H2) (hd : ∀ l σ H', Pv l kvs.length σ H' → n σ H') :
    tFor (iList K (tCB rListD (tCons (tVar i) tNil))) g tb ⟨n, r, b, c⟩ σ H := by
  refine ⟨.ref d, hi, d, kvs, rfl, hd0, fun l hl0 => ⟨l, rfl, ⟨_, .of upd_same⟩, ?_⟩⟩
  have el : (kvs.map fun kv => kV kv.1).length = kvs.length := List.length_map ..
  refine for_list (xs := kvs.map fun kv => kV kv.1) (D := ⟨n, r, b, c⟩) (Pv l) (h0 l hl0) (fun j σ H' hj p => .of (hl l j σ H' (by omega) p)) (fun j x σ H' hx p => ?_) (fun σ H' p => hd l σ H' (by rw [el] at p; exact p))
  rw [List.getElem?_map] at hx
  cases e : kvs[j]? with
  | none => rw [e] at hx; cases hx
  | some kv =>
    rw [e] at hx
    have hx := Option.some.inj hx
    subst hx
    exact hs l j kv.1 kv.2 σ H' e p
theorem g_pair {i j : Nat} {t : Addr} {x y : V} (h : H t = some (.tup [x, y])) (q : n ((σ.set i (some x)).set j (some y)) H) : gTup K 2 (gCons (gName i) (gCons (gName j) gNil)) (.ref t) σ H n := ⟨t, _, rfl, .of h, rfl, x, _, rfl, y, _, rfl, rfl, q⟩
/-- n is the turn's end, m the measure -/
theorem f_while {c0 : TT} (W : Nat → St → Hp → Prop) (m : Nat) (h0 : W m σ H)
    (hs : ∀ m σ H, W m σ H → c0 σ H fun k H1 => if k = true then ∃ N : St → Hp → Prop, (∀ σ' H', N σ' H' → ∃ m', m' < m ∧ W m' σ' H') ∧ tb ⟨N, r, n, N⟩ σ H1 else n σ H1) : tWhile c0 tb ⟨n, r, b, c⟩ σ H := ⟨W, ⟨m, h0⟩, hs⟩
end
/-! comprehensions -/
section
variable {K : PySem.W.Frag} {σ : St} {H : Hp} {g : TG} {tt : TT} {te : TE} {vs : List Nat} {Q : VK}
theorem l_keys (i : Nat) {d : Addr} {kvs : List (Key × V)} (hi : σ[i]? = some (some (.ref d))) (hd0 : H d = some (.dK kvs)) (Pv : Obj → Addr → Nat → Hp → Prop)
    (h0 : ∀ od D, H D = none → Pv od D 0 (upd (upd H d (.frz od (.dK kvs))) D (.lst []))) (hl : ∀ od D j H', Pv od D j H' → H' d = some (.frz od (.dK kvs)))
    (hs : ∀ od D j k v H', kvs[j]? = some (k, v) → Pv od D j H' → g (kV k) (wipe σ vs) H' fun σ2 H2 => wipe σ2 vs = wipe σ vs ∧ tt σ2 H2 fun b H3 =>
      if b = true then te σ2 H3 fun y H4 => ∃ acc, H4 D = some (.lst acc) ∧ acc.length < sizeLine ∧ Pv od D (j + 1) (upd H4 D (.lst (acc ++ [y]))) else Pv od D (j + 1) H3)
    (hd : ∀ od D H', H D = none → Pv od D kvs.length H' → Q (.ref D) (upd H' d (.dK kvs))) : tLockE (tLc (iKeys (tVar i)) g tt te vs) σ H Q := by
  refine ⟨d, .dK kvs, hd0, trivial, fun od => ⟨.ref d, hi, d, od, rfl, .inl ⟨kvs, upd_same, fun D hD => ?_⟩⟩⟩
  have hD0 : H D = none := by
    by_cases e : D = d
    · rw [e, upd_same] at hD; cases hD
    · rw [upd_ne e] at hD; exact hD
  refine ⟨fun j m H' => m = kvs.length - j ∧ j ≤ kvs.length ∧ Pv od D j H', ⟨kvs.length, by simp, Nat.zero_le _, h0 od D hD0⟩, ?_⟩
  rintro j m H' ⟨rfl, hj, p⟩
  have q := hl od D j H' p
  by_cases hlt : j < kvs.length
  · refine .inr ⟨⟨q, hlt⟩, Pv od D (j + 1), fun H2 p' => ⟨kvs.length - (j + 1), by omega, rfl, hlt, p'⟩, fun x H2 y => ?_⟩
    obtain ⟨e, k, v, hk, ex⟩ := y
    subst e ex
    exact hs od D j k v _ hk p
  · have e : j = kvs.length := by omega
    subst e
    exact .inl ⟨⟨q, Nat.le_refl _⟩, q, hd od D H' hD0 p⟩
theorem l_list (i : Nat) {a : Addr} {xs : List V} (hi : σ[i]? = some (some (.ref a))) (hx : SqL K H a xs) (Pv : Addr → Nat → Hp → Prop) (h0 : ∀ D, H D = none → Pv D 0 (upd H D (.lst []))) (hl : ∀ D j H', j ≤ xs.length → Pv D j H' → SqL K H' a xs)
    (hs : ∀ D j x H', xs[j]? = some x → Pv D j H' → g x (wipe σ vs) H' fun σ2 H2 => wipe σ2 vs = wipe σ vs ∧ tt σ2 H2 fun b H3 =>
      if b = true then te σ2 H3 fun y H4 => ∃ acc, H4 D = some (.lst acc) ∧ acc.length < sizeLine ∧ Pv D (j + 1) (upd H4 D (.lst (acc ++ [y]))) else Pv D (j + 1) H3)
    (hd : ∀ D H', H D = none → Pv D xs.length H' → Q (.ref D) H') : tLc (iList K (tVar i)) g tt te vs σ H Q :=
  ⟨.ref a, hi, a, rfl, ⟨xs, hx⟩, fun D hD => lc_list (xs := xs) (Qd := fun H' => Q (.ref D) H') (Pv D) (h0 D hD) (hl D) (hs D) fun H' p => hd D H' hD p⟩
end
theorem unlock {H : Hp} {d D : Addr} {o u v : HO} (h : H d = some u) (hD : H D = none) : upd (upd (upd H d o) D v) d u = upd H D v := by
  funext b
  by_cases e : b = d
  · subst e
    rw [upd_same, upd_ne (ne_of_none h hD), h]
  · rw [upd_ne e]
    by_cases e2 : b = D
    · subst e2
      rw [upd_same, upd_same]
    · rw [upd_ne e2, upd_ne e2, upd_ne e]
theorem inV_int (x : Int) : ∀ l : List Int, inV (.int x) (l.map V.int) = decide (x ∈ l)
  | [] => rfl
  | a :: l => by
    have ih := inV_int x l
    unfold inV at ih ⊢
    rw [List.map_cons, List.any_cons, ih]
    by_cases e : a = x
    · subst e
      simp [eqV]
    · have e' : ¬ x = a := fun q => e q.symm
      simp [eqV, e, e']
theorem flat_ints (l : List Int) : (l.map V.int).all flatV = true := by
  induction l with
  | nil => rfl
  | cons a l ih => rw [List.map_cons, List.all_cons, ih]; rfl
theorem r_inI {K : PySem.W.Frag} {H : Hp} {Q : VK} {p : Addr} {x : Int} {l : List Int} (h : SqL K H p (l.map V.int)) (q : Q (.bl (decide (x ∈ l))) H) : rIn K false (.int x) (.ref p) H Q :=
  ⟨p, _, rfl, .inl h, rfl, flat_ints l, by rw [inV_int]; exact q⟩
theorem r_ninI {K : PySem.W.Frag} {H : Hp} {Q : VK} {p : Addr} {x : Int} {l : List Int} (h : SqL K H p (l.map V.int)) (q : Q (.bl (!decide (x ∈ l))) H) : rIn K true (.int x) (.ref p) H Q :=
  ⟨p, _, rfl, .inl h, rfl, flat_ints l, by rw [inV_int]; exact q⟩
end Kt

namespace M42
/-! plain mathematics: moves, rings, counting -/
abbrev PM := Int → Option Int

/-! ### pigeonholes -/
theorem sub_len : ∀ {l m : List Int}, l.Nodup → (∀ x ∈ l, x ∈ m) → l.length ≤ m.length
  | [], _, _, _ => Nat.zero_le _
  | a :: l, m, hn, hs => by
    have hn' := List.nodup_cons.mp hn
    have ha : a ∈ m := hs a (List.mem_cons_self ..)
    have ih := sub_len (l := l) (m := m.erase a) hn'.2 fun x hx => by
      have hne : x ≠ a := fun e => hn'.1 (e ▸ hx)
      exact (List.mem_erase_of_ne hne).mpr (hs x (List.mem_cons_of_mem _ hx))
    rw [List.length_erase_of_mem ha] at ih
    have : 0 < m.length := List.length_pos_of_mem ha
    rw [List.length_cons]
    omega
theorem sub_perm : ∀ {l m : List Int}, l.Nodup → (∀ x ∈ l, x ∈ m) → m.length ≤ l.length → l.Perm m
  | [], m, _, _, hl => by
    have : m = [] := List.eq_nil_of_length_eq_zero (by simpa using hl)
    rw [this]
  | a :: l, m, hn, hs, hl => by
    have hn' := List.nodup_cons.mp hn
    have ha : a ∈ m := hs a (List.mem_cons_self ..)
    have hp := List.perm_cons_erase ha
    have hlen := List.length_erase_of_mem ha
    have hpos : 0 < m.length := List.length_pos_of_mem ha
    rw [List.length_cons] at hl
    have ih := sub_perm (l := l) (m := m.erase a) hn'.2 (fun x hx => by
      have hne : x ≠ a := fun e => hn'.1 (e ▸ hx)
      exact (List.mem_erase_of_ne hne).mpr (hs x (List.mem_cons_of_mem _ hx))) (by omega)
    exact (List.Perm.cons a ih).trans hp.symm
theorem map_inj_of_nodup {g : Int → Int} : ∀ {l : List Int}, (l.map g).Nodup → ∀ x ∈ l, ∀ y ∈ l, g x = g y → x = y
  | [], _, x, hx, _, _, _ => by cases hx
  | a :: l, hn, x, hx, y, hy, e => by
    rw [List.map_cons] at hn
    have hn' := List.nodup_cons.mp hn
    rcases List.mem_cons.mp hx with ex | hx'
    · rcases List.mem_cons.mp hy with ey | hy'
      · rw [ex, ey]
      · exact absurd (by rw [← ex, e]; exact List.mem_map_of_mem hy') hn'.1
    · rcases List.mem_cons.mp hy with ey | hy'
      · exact absurd (by rw [← ey, ← e]; exact List.mem_map_of_mem hx') hn'.1
      · exact map_inj_of_nodup hn'.2 x hx' y hy' e
/-- each of U has a reader in U: then W is a bijection of U -/
theorem onto_inj {W : PM} {U : List Int} (hn : U.Nodup) (h : ∀ x ∈ U, ∃ y ∈ U, W y = some x) :
    (∀ x ∈ U, ∀ y, W x = some y → y ∈ U) ∧ ∀ x ∈ U, ∀ y ∈ U, ∀ z, W x = some z → W y = some z → x = y := by
  let g : Int → Int := fun x => (W x).getD 0
  have hp : U.Perm (U.map g) := sub_perm hn (fun x hx => by
    obtain ⟨y, hy, e⟩ := h x hx
    exact List.mem_map.mpr ⟨y, hy, by show (W y).getD 0 = x; rw [e]; rfl⟩) (by rw [List.length_map]; exact Nat.le_refl _)
  refine ⟨fun x hx y e => ?_, fun x hx y hy z e1 e2 => ?_⟩
  · refine hp.mem_iff.mpr (List.mem_map.mpr ⟨x, hx, ?_⟩)
    show (W x).getD 0 = y
    rw [e]
    rfl
  · refine map_inj_of_nodup (g := g) (hp.nodup_iff.mp hn) x hx y hy ?_
    show (W x).getD 0 = (W y).getD 0
    rw [e1, e2]

/-! ### paths and rings -/
def Pth (W : PM) : Int → List Int → Int → Prop
  | a, [], b => a = b
  | a, x :: l, b => a = x ∧ ∃ y, W x = some y ∧ Pth W y l b
theorem Pth.snoc {W : PM} : ∀ {a : Int} {l : List Int} {b c : Int}, Pth W a l b → W b = some c → Pth W a (l ++ [b]) c
  | a, [], b, c, h, e => by
    have h : a = b := h
    exact ⟨h, c, e, rfl⟩
  | a, x :: l, b, c, h, e => by
    obtain ⟨h1, y, h2, h3⟩ := h
    exact ⟨h1, y, h2, Pth.snoc h3 e⟩
/-- each of the path has its successor on it -/
theorem Pth.succ {W : PM} : ∀ {a : Int} {l : List Int} {b : Int}, Pth W a l b → ∀ x ∈ l, ∃ y, W x = some y ∧ (y ∈ l ∨ y = b)
  | _, [], _, _, x, hx => by cases hx
  | a, z :: l, b, h, x, hx => by
    obtain ⟨h1, y, h2, h3⟩ := h
    rcases List.mem_cons.mp hx with rfl | hx
    · refine ⟨y, h2, ?_⟩
      cases l with
      | nil => exact .inr h3
      | cons w l => exact .inl (List.mem_cons_of_mem _ (by rw [h3.1]; exact List.mem_cons_self ..))
    · obtain ⟨y', e, h⟩ := Pth.succ h3 x hx
      exact ⟨y', e, h.elim (fun h => .inl (List.mem_cons_of_mem _ h)) .inr⟩
/-- each of the path, its end too, is the first or the successor of one of it -/
theorem Pth.pred {W : PM} : ∀ {a : Int} {l : List Int} {b : Int}, Pth W a l b → ∀ x, x ∈ l ∨ x = b → x = a ∨ ∃ y ∈ l, W y = some x
  | a, [], b, h, x, hx => by
    have h : a = b := h
    rcases hx with hx | hx
    · cases hx
    · exact .inl (hx.trans h.symm)
  | a, z :: l, b, h, x, hx => by
    obtain ⟨h1, y, h2, h3⟩ := h
    have go : (x ∈ l ∨ x = b) → x = a ∨ ∃ y ∈ z :: l, W y = some x := fun hx => by
      rcases Pth.pred h3 x hx with e | ⟨u, hu, e⟩
      · exact .inr ⟨z, List.mem_cons_self .., by rw [h2, e]⟩
      · exact .inr ⟨u, List.mem_cons_of_mem _ hu, e⟩
    rcases hx with hx | hx
    · rcases List.mem_cons.mp hx with e | hx
      · exact .inl (e.trans h1.symm)
      · exact go (.inl hx)
    · exact go (.inr hx)
structure Ring (W : PM) (C : List Int) : Prop where
  some_ : C ≠ []
  closed : ∀ x ∈ C, ∃ y ∈ C, W x = some y
def Apart (C E : List Int) : Prop := ∀ x, x ∈ C → x ∈ E → False
structure Rings (W : PM) (Rs : List (List Int)) : Prop where
  ring : ∀ C ∈ Rs, Ring W C
  apart : Rs.Pairwise Apart
theorem Ring.on {W : PM} {C : List Int} (r : Ring W C) : ∀ {a : Int} {l : List Int} {b : Int}, Pth W a l b → (a ∈ C → (∀ x ∈ l, x ∈ C) ∧ b ∈ C)
  | a, [], b, h, ha => ⟨fun x hx => (by cases hx), (by have h : a = b := h; rw [← h]; exact ha)⟩
  | a, z :: l, b, h, ha => by
    obtain ⟨h1, y, h2, h3⟩ := h
    obtain ⟨y', hy', e⟩ := r.closed a ha
    rw [h1, h2] at e
    have e := Option.some.inj e
    obtain ⟨k1, k2⟩ := r.on h3 (by rw [e]; exact hy')
    refine ⟨fun x hx => ?_, k2⟩
    rcases List.mem_cons.mp hx with e | hx
    · rw [e, ← h1]; exact ha
    · exact k1 x hx
theorem Ring.end_ {W : PM} {C : List Int} (r : Ring W C) : ∀ {a : Int} {l : List Int} {b : Int}, Pth W a l b → ∀ x ∈ l, x ∈ C → b ∈ C
  | _, [], _, _, x, hx, _ => by cases hx
  | a, z :: l, b, h, x, hx, hc => by
    obtain ⟨h1, y, h2, h3⟩ := id h
    rcases List.mem_cons.mp hx with e | hx
    · exact (r.on h (by rw [h1, ← e]; exact hc)).2
    · exact r.end_ h3 x hx hc
theorem two_rings {W : PM} {C E : List Int} (r : Ring W C) (q : Ring W E) : ∀ {a : Int} {l : List Int} {b : Int}, Pth W a l b → (∃ x ∈ l, x ∈ C) → (∃ x ∈ l, x ∈ E) → ∃ x, x ∈ C ∧ x ∈ E
  | _, [], _, _, ⟨x, hx, _⟩, _ => by cases hx
  | a, z :: l, b, h, ⟨x, hx, hc⟩, ⟨u, hu, he⟩ => by
    obtain ⟨h1, y, h2, h3⟩ := id h
    rcases List.mem_cons.mp hx with ex | hx
    · exact ⟨u, (r.on h (by rw [h1, ← ex]; exact hc)).1 u hu, he⟩
    · rcases List.mem_cons.mp hu with eu | hu
      · exact ⟨x, hc, (q.on h (by rw [h1, ← eu]; exact he)).1 x (List.mem_cons_of_mem _ hx)⟩
      · exact two_rings r q h3 ⟨x, hx, hc⟩ ⟨u, hu, he⟩

/-! ### the law's count of cycles -/
/-- every rings that all meet done are at most count -/
def Cnt (W : PM) (done : Int → Prop) (n : Nat) : Prop := ∀ Rs, Rings W Rs → (∀ C ∈ Rs, ∃ x ∈ C, done x) → Rs.length ≤ n
theorem Cnt.zero {W : PM} : Cnt W (fun _ => False) 0 := fun Rs _ h => by
  cases Rs with
  | nil => exact Nat.le_refl _
  | cons C _ =>
    obtain ⟨x, _, f⟩ := h C (List.mem_cons_self ..)
    exact f.elim
/-- a walk that ends outside or in what is done -/
theorem Cnt.out {W : PM} {done : Int → Prop} {n : Nat} (c : Cnt W done n) {a : Int} {M : List Int} {p : Int} (h : Pth W a M p) (hp : W p = none ∨ done p) : Cnt W (fun x => done x ∨ x ∈ M) n := fun Rs hR hm =>
  c Rs hR fun C hC => by
    obtain ⟨x, hx, hd⟩ := hm C hC
    rcases hd with hd | hd
    · exact ⟨x, hx, hd⟩
    · have hb := (hR.ring C hC).end_ h x hd hx
      rcases hp with hp | hp
      · obtain ⟨y, _, e⟩ := (hR.ring C hC).closed p hb
        rw [hp] at e
        cases e
      · exact ⟨p, hb, hp⟩
theorem Rings.filter {W : PM} {Rs : List (List Int)} (h : Rings W Rs) (f : List Int → Bool) : Rings W (Rs.filter f) :=
  ⟨fun C hC => h.ring C (List.mem_filter.mp hC).1, h.apart.filter f⟩
theorem filter_two {α : Type} (f : α → Bool) : ∀ l : List α, (l.filter f).length + (l.filter fun x => !f x).length = l.length
  | [] => rfl
  | a :: l => by
    have ih := filter_two f l
    cases e : f a with
    | true => rw [List.filter_cons_of_pos e, List.filter_cons_of_neg (by simp [e]), List.length_cons, List.length_cons]; omega
    | false => rw [List.filter_cons_of_neg (by simp [e]), List.filter_cons_of_pos (by simp [e]), List.length_cons, List.length_cons]; omega
open Classical in
theorem Cnt.in_ {W : PM} {done : Int → Prop} {n : Nat} (c : Cnt W done n) {a : Int} {M : List Int} {p : Int} (h : Pth W a M p) : Cnt W (fun x => done x ∨ x ∈ M) (n + 1) := fun Rs hR hm => by
  let f : List Int → Bool := fun C => decide (∃ x ∈ C, done x)
  have h1 : (Rs.filter f).length ≤ n := c _ (hR.filter f) fun C hC => of_decide_eq_true (List.mem_filter.mp hC).2
  have h2 : (Rs.filter fun x => !f x).length ≤ 1 := by
    have hF := hR.filter fun x => !f x
    have hM : ∀ C ∈ Rs.filter (fun x => !f x), ∃ x ∈ M, x ∈ C := fun C hC => by
      obtain ⟨m1, m2⟩ := List.mem_filter.mp hC
      obtain ⟨x, hx, hd⟩ := hm C m1
      rcases hd with hd | hd
      · have : f C = true := decide_eq_true ⟨x, hx, hd⟩
        rw [this] at m2
        cases m2
      · exact ⟨x, hd, hx⟩
    generalize Rs.filter (fun x => !f x) = L at hF hM
    match L, hF, hM with
    | [], _, _ => exact Nat.zero_le _
    | [_], _, _ => exact Nat.le_refl _
    | C :: E :: L, hF, hM =>
      obtain ⟨x, hx, hy⟩ := two_rings (hF.ring C (by simp)) (hF.ring E (by simp)) h (hM C (by simp)) (hM E (by simp))
      have := hF.apart
      rw [List.pairwise_cons] at this
      exact (this.1 E (by simp) x hx hy).elim
  have h3 := filter_two f Rs
  omega
theorem Cnt.all {W : PM} {done : Int → Prop} {n : Nat} (c : Cnt W done n) (hd : ∀ x y, W x = some y → done x) {Rs : List (List Int)} (h : Rings W Rs) : Rs.length ≤ n := c Rs h fun C hC => by
  have r := h.ring C hC
  cases C with
  | nil => exact (r.some_ rfl).elim
  | cons x l =>
    obtain ⟨y, _, e⟩ := r.closed x (List.mem_cons_self ..)
    exact ⟨x, List.mem_cons_self .., hd x y e⟩
theorem Cnt.congr {W : PM} {d e : Int → Prop} {n : Nat} (c : Cnt W d n) (h : ∀ x, e x → d x) : Cnt W e n := fun Rs hR hm => c Rs hR fun C hC => let ⟨x, hx, hd⟩ := hm C hC; ⟨x, hx, h x hd⟩

/-! ### order_moves -/
abbrev Mv := Int × Int
def hstep (c : Int → Int) (p : Mv) : Int → Int := fun x => if x = p.1 then c p.2 else c x
def content (l : List Mv) : Int → Int := l.foldl hstep id
theorem content_snoc (l : List Mv) (p : Mv) (x : Int) : content (l ++ [p]) x = if x = p.1 then content l p.2 else content l x := by
  unfold content
  rw [List.foldl_append]
  rfl
def setF (F : PM) (s : Int) (a : Int) : PM := fun x => if x = s then some a else F x
theorem setF_same (F : PM) (s a : Int) : setF F s a s = some a := if_pos rfl
theorem setF_ne (F : PM) {s a x : Int} (h : x ≠ s) : setF F s a x = F x := if_neg h
/-- perform_free, n turns: from (free, F, ord) to ([], F', ord') -/
inductive Runs (W : PM) : Nat → List Int → PM → List Mv → PM → List Mv → Prop
  | done (F : PM) (o : List Mv) : Runs W 0 [] F o F o
  | step {n : Nat} {free : List Int} {to src at_ : Int} {F F' : PM} {o o' : List Mv} (hw : W to = some src) (hf : F src = some at_)
      (r : Runs W n (if at_ = src ∧ (W src).isSome = true then free ++ [src] else free) (setF F src to) (o ++ [(to, at_)]) F' o') : Runs W (n + 1) (free ++ [to]) F o F' o'
/-- the invariant; und: what is not done yet -/
structure I (W : PM) (spare : Int) (und : List Int) (free : List Int) (F : PM) (o : List Mv) : Prop where
  irr : ∀ x, W x ≠ some x
  sp : W spare = none
  undN : und.Nodup
  undE : ∀ x, x ∈ und ↔ (W x).isSome = true ∧ x ∉ o.map (·.1)
  at_ : ∀ s a, F s = some a → content o a = s ∧ (a = s → s ∉ o.map (·.1)) ∧ (a ≠ s → a ∈ o.map (·.1))
  has : ∀ x s, W x = some s → ∃ a, F s = some a
  srcE : ∀ s a, F s = some a → ∃ x, W x = some s
  freeN : free.Nodup
  freeE : ∀ f ∈ free, f ∈ und ∧ F f ≠ some f
  right : ∀ x s, W x = some s → x ∈ o.map (·.1) → content o x = s
  unlike : ∀ p ∈ o, p.1 ≠ p.2
  wait : ∀ x ∈ und, x ∈ free ∨ F x = some x
  only : ∀ x ∈ o.map (·.1), (W x).isSome = true ∨ x = spare
  read : ∀ x s, W x = some s → x ∈ o.map (·.1) → F s ≠ some s
theorem mem_snoc1 {o : List Mv} {p : Mv} {x : Int} : x ∈ (o ++ [p]).map (·.1) ↔ x ∈ o.map (·.1) ∨ x = p.1 := by
  rw [List.map_append, List.mem_append]
  simp
theorem I.step {W : PM} {spare : Int} {und free : List Int} {F : PM} {o : List Mv} {to src at_ : Int} (i : I W spare und (free ++ [to]) F o) (hw : W to = some src) (hf : F src = some at_) :
    I W spare (und.erase to) (if at_ = src ∧ (W src).isSome = true then free ++ [src] else free) (setF F src to) (o ++ [(to, at_)]) := by
  have fN := i.freeN
  rw [List.nodup_append] at fN
  have toF : to ∈ free ++ [to] := by simp
  have toU := (i.freeE to toF).1
  have toD := ((i.undE to).mp toU).2
  have toS : to ≠ src := fun e => i.irr to (by rw [hw, e])
  have toFree : to ∉ free := fun h => fN.2.2 to h to (by simp) rfl
  obtain ⟨c1, c2, c3⟩ := i.at_ src at_ hf
  have atTo : to ≠ at_ := fun e => by
    by_cases h : at_ = src
    · exact toS (e.trans h)
    · exact toD (e ▸ c3 h)
  have cs : ∀ x, content (o ++ [(to, at_)]) x = if x = to then src else content o x := fun x => by
    rw [content_snoc]
    show (if x = to then content o at_ else _) = _
    rw [c1]
  have md : ∀ x, x ∈ (o ++ [(to, at_)]).map (·.1) ↔ x ∈ o.map (·.1) ∨ x = to := fun x => mem_snoc1
  have mu : ∀ x, x ∈ und.erase to ↔ x ≠ to ∧ x ∈ und := fun x => List.Nodup.mem_erase_iff i.undN
  have srcNo : (at_ = src ∧ (W src).isSome = true) → src ∉ free := fun ⟨h, _⟩ hm => (i.freeE src (List.mem_append_left _ hm)).2 (by rw [hf, h])
  refine ⟨i.irr, i.sp, i.undN.erase _, fun x => ?_, fun s a h => ?_, fun x s h => ?_, fun s a h => ?_, ?_, fun f hm => ?_, fun x s h hd => ?_, fun p hp => ?_, fun x hx => ?_, fun x hx => ?_, fun x s h hd => ?_⟩
  · rw [mu, i.undE, md]
    constructor
    · rintro ⟨h1, h2, h3⟩
      exact ⟨h2, fun h => h.elim h3 h1⟩
    · rintro ⟨h1, h2⟩
      exact ⟨fun h => h2 (.inr h), h1, fun h => h2 (.inl h)⟩
  · rw [cs]
    by_cases e : s = src
    · rw [e, setF_same] at h
      have h := Option.some.inj h
      rw [e, if_pos h.symm]
      exact ⟨rfl, fun q => (toS (h.trans q)).elim, fun _ => (md a).mpr (.inr h.symm)⟩
    · rw [setF_ne F e] at h
      obtain ⟨h1, h2, h3⟩ := i.at_ s a h
      have na : a ≠ to := fun q => by
        by_cases z : a = s
        · exact (i.freeE to toF).2 (by rw [← q]; rw [← z] at h; exact h)
        · exact toD (q ▸ h3 z)
      rw [if_neg na]
      exact ⟨h1, fun q m => ((md s).mp m).elim (h2 q) (fun r => na (q.trans r)), fun q => (md a).mpr (.inl (h3 q))⟩
  · by_cases e : s = src
    · exact ⟨to, by rw [e, setF_same]⟩
    · rw [setF_ne F e]
      exact i.has x s h
  · by_cases e : s = src
    · exact ⟨to, by rw [e]; exact hw⟩
    · rw [setF_ne F e] at h
      exact i.srcE s a h
  · split
    · rename_i h
      rw [List.nodup_append]
      exact ⟨fN.1, by simp, fun a ha b hb q => srcNo h (by
        have : b = src := by simpa using hb
        rw [← this, ← q]
        exact ha)⟩
    · exact fN.1
  · have key : ∀ f ∈ free, f ∈ und.erase to ∧ setF F src to f ≠ some f := fun f hm => by
      have h := i.freeE f (List.mem_append_left _ hm)
      refine ⟨(mu f).mpr ⟨fun q => toFree (q ▸ hm), h.1⟩, ?_⟩
      by_cases e : f = src
      · rw [e, setF_same]
        exact fun q => toS (Option.some.inj q)
      · rw [setF_ne F e]
        exact h.2
    split at hm
    · rename_i h
      rcases List.mem_append.mp hm with hm | hm
      · exact key f hm
      · have e : f = src := by simpa using hm
        rw [e]
        refine ⟨(mu src).mpr ⟨toS.symm, (i.undE src).mpr ⟨h.2, c2 h.1⟩⟩, ?_⟩
        rw [setF_same]
        exact fun q => toS (Option.some.inj q)
    · exact key f hm
  · rw [cs]
    by_cases e : x = to
    · rw [if_pos e]
      rw [e, hw] at h
      exact Option.some.inj h
    · rw [if_neg e]
      exact i.right x s h (((md x).mp hd).resolve_right e)
  · rcases List.mem_append.mp hp with hp | hp
    · exact i.unlike p hp
    · have e : p = (to, at_) := by simpa using hp
      rw [e]
      exact atTo
  · obtain ⟨h1, h2⟩ := (mu x).mp hx
    have key : x ∈ free → x ∈ (if at_ = src ∧ (W src).isSome = true then free ++ [src] else free) := fun h => by
      split
      · exact List.mem_append_left _ h
      · exact h
    rcases i.wait x h2 with h | h
    · rcases List.mem_append.mp h with h | h
      · exact .inl (key h)
      · exact (h1 (by simpa using h)).elim
    · by_cases e : x = src
      · left
        rw [e] at h
        rw [hf] at h
        have h := Option.some.inj h
        have hs : (W src).isSome = true := by
          have := ((i.undE x).mp h2).1
          rw [e] at this
          exact this
        rw [if_pos ⟨h, hs⟩, e]
        simp
      · right
        rw [setF_ne F e]
        exact h
  · rcases (md x).mp hx with hx | hx
    · exact i.only x hx
    · left
      rw [hx, hw]
      rfl
  · by_cases e : s = src
    · rw [e, setF_same]
      exact fun q => toS (Option.some.inj q)
    · rw [setF_ne F e]
      refine i.read x s h (((md x).mp hd).resolve_right fun q => ?_)
      rw [q, hw] at h
      exact e (Option.some.inj h).symm
/-- the chains: it runs to its end -/
theorem chain {W : PM} {spare : Int} : ∀ (n : Nat) {und free : List Int} {F : PM} {o : List Mv}, und.length = n → I W spare und free F o →
    ∃ m F' o' und', Runs W m free F o F' o' ∧ I W spare und' [] F' o' ∧ o'.length + und'.length = o.length + und.length ∧ (∀ s, F' s = some spare → F s = some spare) ∧ (∀ x ∈ o.map (·.1), x ∈ o'.map (·.1))
  | n, und, free, F, o, hn, i => by
    rcases List.eq_nil_or_concat free with e | ⟨fr, to, e⟩
    · subst e
      exact ⟨0, F, o, und, .done F o, i, rfl, fun _ h => h, fun _ h => h⟩
    · rw [List.concat_eq_append] at e
      subst e
      have toU := (i.freeE to (by simp)).1
      obtain ⟨src, hw⟩ := Option.isSome_iff_exists.mp ((i.undE to).mp toU).1
      obtain ⟨at_, hf⟩ := i.has to src hw
      have i2 := i.step hw hf
      have hl : (und.erase to).length = und.length - 1 := List.length_erase_of_mem toU
      have hp : 0 < und.length := List.length_pos_of_mem toU
      obtain ⟨m, F', o', und', r, i', hlen, hs, hd⟩ := chain (n - 1) (by omega) i2
      refine ⟨m + 1, F', o', und', .step hw hf r, i', ?_, fun s h => ?_, fun x hx => hd x (mem_snoc1.mpr (.inl hx))⟩
      · rw [hlen, hl, List.length_append, List.length_singleton]
        omega
      · have h := hs s h
        by_cases e : s = src
        · rw [e, setF_same] at h
          have h := Option.some.inj h
          have z := i.sp
          rw [← h, hw] at z
          cases z
        · rw [setF_ne F e] at h
          exact h
termination_by n => n
decreasing_by omega

/-- opening a ring -/
theorem I.open_ {W : PM} {spare : Int} {und : List Int} {F : PM} {o : List Mv} (i : I W spare und [] F o) (hs : ∀ s, F s ≠ some spare) {first : Int} (hf : first ∈ und) :
    I W spare und [first] (setF F first spare) (o ++ [(spare, first)]) := by
  have Ff : F first = some first := (i.wait first hf).resolve_left (by simp)
  obtain ⟨hk, hd⟩ := (i.undE first).mp hf
  have ne : spare ≠ first := fun e => by
    have z := i.sp
    rw [e] at z
    rw [z] at hk
    cases hk
  have cs : ∀ x, content (o ++ [(spare, first)]) x = if x = spare then first else content o x := fun x => by
    rw [content_snoc]
    show (if x = spare then content o first else _) = _
    rw [(i.at_ first first Ff).1]
  have md : ∀ x, x ∈ (o ++ [(spare, first)]).map (·.1) ↔ x ∈ o.map (·.1) ∨ x = spare := fun x => mem_snoc1
  have wsp : ∀ x s, W x = some s → x ≠ spare := fun x s h e => by
    rw [e, i.sp] at h
    cases h
  refine ⟨i.irr, i.sp, i.undN, fun x => ?_, fun s a h => ?_, fun x s h => ?_, fun s a h => ?_, by simp, fun f hm => ?_, fun x s h hd => ?_, fun p hp => ?_, fun x hx => ?_, fun x hx => ?_, fun x s h hd => ?_⟩
  · rw [i.undE, md]
    refine ⟨fun ⟨h1, h2⟩ => ⟨h1, fun h => h.elim h2 fun e => ?_⟩, fun ⟨h1, h2⟩ => ⟨h1, fun h => h2 (.inl h)⟩⟩
    rw [e, i.sp] at h1
    cases h1
  · rw [cs]
    by_cases e : s = first
    · rw [e, setF_same] at h
      have h := Option.some.inj h
      rw [if_pos h.symm, e]
      exact ⟨rfl, fun q => (ne (h.trans q)).elim, fun _ => (md a).mpr (.inr h.symm)⟩
    · rw [setF_ne F e] at h
      obtain ⟨h1, h2, h3⟩ := i.at_ s a h
      have na : a ≠ spare := fun q => hs s (by rw [← q]; exact h)
      rw [if_neg na]
      exact ⟨h1, fun q m => ((md s).mp m).elim (h2 q) (fun r => na (q.trans r)), fun q => (md a).mpr (.inl (h3 q))⟩
  · by_cases e : s = first
    · exact ⟨spare, by rw [e, setF_same]⟩
    · rw [setF_ne F e]
      exact i.has x s h
  · by_cases e : s = first
    · rw [e]
      exact i.srcE first first Ff
    · rw [setF_ne F e] at h
      exact i.srcE s a h
  · have e : f = first := by simpa using hm
    rw [e, setF_same]
    exact ⟨hf, fun q => ne (Option.some.inj q)⟩
  · rw [cs, if_neg (wsp x s h)]
    exact i.right x s h (((md x).mp hd).resolve_right (wsp x s h))
  · rcases List.mem_append.mp hp with hp | hp
    · exact i.unlike p hp
    · have e : p = (spare, first) := by simpa using hp
      rw [e]
      exact ne
  · by_cases e : x = first
    · exact .inl (by simp [e])
    · right
      rw [setF_ne F e]
      exact (i.wait x hx).resolve_left (by simp)
  · rcases (md x).mp hx with hx | hx
    · exact i.only x hx
    · exact .inr hx
  · by_cases e : s = first
    · rw [e, setF_same]
      exact fun q => ne (Option.some.inj q)
    · rw [setF_ne F e]
      exact i.read x s h (((md x).mp hd).resolve_right (wsp x s h))
/-- a ring's run: V is done, b waits -/
theorem ring {W : PM} {spare first : Int} {U : List Int} (Usome : ∀ x ∈ U, (W x).isSome = true) (hU : ∀ x ∈ U, ∀ y, W x = some y → y ∈ U) (inj : ∀ x ∈ U, ∀ y ∈ U, ∀ z, W x = some z → W y = some z → x = y) :
    ∀ (n : Nat) {und : List Int} {F : PM} {o : List Mv} {V : List Int} {b : Int}, und.length = n → I W spare und [b] F o → Pth W first V b → b ∉ V → b ∈ U → (∀ x ∈ V, x ∈ U) →
      (∀ x ∈ U, x ≠ first → x ∉ V → x ≠ b → F x = some x) → F first = some spare → (∀ s, F s = some spare → s = first) → (∀ x ∈ V, x ∈ o.map (·.1)) →
    ∃ m F' o' und' C, Runs W m [b] F o F' o' ∧ I W spare und' [] F' o' ∧ o'.length + und'.length = o.length + und.length ∧ (∀ s, F' s ≠ some spare) ∧ (∀ x ∈ o.map (·.1), x ∈ o'.map (·.1)) ∧
      Ring W C ∧ (∀ x ∈ C, x ∈ U ∧ x ∈ o'.map (·.1)) ∧ first ∈ C
  | n, und, F, o, V, b, hn, i, hp, hbV, hbU, hVU, hF, hFf, hsp, hV => by
    have bU := (i.freeE b (by simp)).1
    obtain ⟨src, hw⟩ := Option.isSome_iff_exists.mp ((i.undE b).mp bU).1
    obtain ⟨at_, hf⟩ := i.has b src hw
    have i2 := i.step (free := []) hw hf
    have hl : (und.erase b).length = und.length - 1 := List.length_erase_of_mem bU
    have hpos : 0 < und.length := List.length_pos_of_mem bU
    have hp2 := hp.snoc hw
    have srcU := hU b hbU src hw
    have srcb : src ≠ b := fun e => i.irr b (by rw [hw, e])
    have hV2 : ∀ x ∈ V ++ [b], x ∈ (o ++ [(b, at_)]).map (·.1) := fun x hx => by
      rcases List.mem_append.mp hx with hx | hx
      · exact mem_snoc1.mpr (.inl (hV x hx))
      · exact mem_snoc1.mpr (.inr (by simpa using hx))
    have hVU2 : ∀ x ∈ V ++ [b], x ∈ U := fun x hx => by
      rcases List.mem_append.mp hx with hx | hx
      · exact hVU x hx
      · have e : x = b := by simpa using hx
        rw [e]
        exact hbU
    have fstV : first ∈ V ++ [b] := by
      cases V with
      | nil =>
        have h : first = b := hp
        rw [h]
        simp
      | cons v V =>
        have h := hp.1
        rw [h]
        simp
    by_cases e : src = first
    · -- the ring is closed
      have ha : at_ = spare := by
        rw [e, hFf] at hf
        exact (Option.some.inj hf).symm
      have spf : spare ≠ first := fun q => by
        have z := i.sp
        rw [q, ← e] at z
        obtain ⟨y, hy⟩ := Option.isSome_iff_exists.mp ((show (W src).isSome = true from by
          rcases List.mem_append.mp fstV with h | h
          · obtain ⟨y, hy, _⟩ := hp.succ first h
            rw [e, hy]
            rfl
          · have : first = b := by simpa using h
            rw [e, this, hw]
            rfl))
        rw [z] at hy
        cases hy
      rw [if_neg (fun q => spf (by rw [← ha, ← e]; exact q.1))] at i2
      refine ⟨1, _, _, _, V ++ [b], .step (free := []) hw hf ?_, i2, ?_, fun s q => ?_, fun x hx => mem_snoc1.mpr (.inl hx), ⟨by simp, fun x hx => ?_⟩, fun x hx => ⟨hVU2 x hx, hV2 x hx⟩, fstV⟩
      · rw [if_neg (fun q => spf (by rw [← ha, ← e]; exact q.1))]
        exact .done _ _
      · rw [hl, List.length_append, List.length_singleton]
        omega
      · by_cases z : s = src
        · rw [z, setF_same] at q
          have q := Option.some.inj q
          have w := i.sp
          rw [← q, hw] at w
          cases w
        · rw [setF_ne F z] at q
          exact z ((hsp s q).trans e.symm)
      · obtain ⟨y, h1, h2⟩ := hp2.succ x hx
        refine ⟨y, ?_, h1⟩
        rcases h2 with h2 | h2
        · exact h2
        · rw [h2, e]
          exact fstV
    · -- the next place
      have srcV : src ∉ V := fun h => by
        rcases hp.pred src (.inl h) with q | ⟨y, hy, q⟩
        · exact e q
        · exact hbV (by rw [← inj y (hVU y hy) b hbU src q hw]; exact hy)
      have Fs := hF src srcU e srcV srcb
      have ha : at_ = src := by
        rw [hf] at Fs
        exact Option.some.inj Fs
      have srcK : (W src).isSome = true := Usome src srcU
      rw [if_pos ⟨ha, srcK⟩] at i2
      obtain ⟨m, F', o', und', C, r, i', hlen, hs, hd, hR, hC, hfC⟩ := ring Usome hU inj (n - 1) (V := V ++ [b]) (b := src) (by omega) i2 hp2
        (fun h => by
          rcases List.mem_append.mp h with h | h
          · exact srcV h
          · exact srcb (by simpa using h)) srcU hVU2 (fun x hx h1 h2 h3 => by
            rw [setF_ne F h3]
            exact hF x hx h1 (fun h => h2 (List.mem_append_left _ h)) (fun h => h2 (by simp [h])))
        (by rw [setF_ne F (Ne.symm e)]; exact hFf) (fun s q => by
          by_cases z : s = src
          · rw [z, setF_same] at q
            have q := Option.some.inj q
            have w := i.sp
            rw [← q, hw] at w
            cases w
          · rw [setF_ne F z] at q
            exact hsp s q) hV2
      refine ⟨m + 1, F', o', und', C, .step (free := []) hw hf (by rw [if_pos ⟨ha, srcK⟩]; exact r), i', ?_, hs, fun x hx => hd x (mem_snoc1.mpr (.inl hx)), hR, hC, hfC⟩
      rw [hlen, hl, List.length_append, List.length_singleton]
      omega
termination_by n => n
decreasing_by omega

/-! ### the whole of order_moves -/
def others (ms : List Mv) : List Mv := ms.filter fun p => decide (p.1 ≠ p.2)
def Wof (ms : List Mv) : PM := fun x => ((others ms).find? fun p => decide (p.1 = x)).map (·.2)
def keysOf (ms : List Mv) : List Int := (others ms).map (·.1)
def F0 (ms : List Mv) : PM := fun s => if (∃ p ∈ others ms, p.2 = s) then some s else none
theorem find_of {l : List Mv} (hn : (l.map (·.1)).Nodup) {p : Mv} (hp : p ∈ l) : l.find? (fun q => decide (q.1 = p.1)) = some p := by
  induction l with
  | nil => cases hp
  | cons a l ih =>
    rw [List.map_cons, List.nodup_cons] at hn
    rcases List.mem_cons.mp hp with e | hp
    · rw [e, List.find?_cons_of_pos (by simp)]
    · rw [List.find?_cons_of_neg]
      · exact ih hn.2 hp
      · simp only [decide_eq_true_eq]
        intro e
        exact hn.1 (by rw [e]; exact List.mem_map_of_mem hp)
theorem others_sub {ms : List Mv} : ((others ms).map (·.1)).Sublist (ms.map (·.1)) := (List.filter_sublist).map _
theorem keysN {ms : List Mv} (hn : (ms.map (·.1)).Nodup) : (keysOf ms).Nodup := hn.sublist others_sub
theorem W_of {ms : List Mv} (hn : (ms.map (·.1)).Nodup) {a b : Int} (h : (a, b) ∈ others ms) : Wof ms a = some b := by
  unfold Wof
  rw [find_of (keysN hn) h]
  rfl
theorem of_W {ms : List Mv} {a b : Int} (h : Wof ms a = some b) : (a, b) ∈ others ms := by
  unfold Wof at h
  cases e : (others ms).find? (fun p => decide (p.1 = a)) with
  | none => rw [e] at h; cases h
  | some p =>
    rw [e] at h
    have h : p.2 = b := Option.some.inj h
    have h1 := List.mem_of_find?_eq_some e
    have h2 : p.1 = a := of_decide_eq_true (p := p.1 = a) (List.find?_some (p := fun p : Mv => decide (p.1 = a)) e)
    rw [← h, ← h2]
    exact h1
theorem mem_others {ms : List Mv} {p : Mv} : p ∈ others ms ↔ p ∈ ms ∧ p.1 ≠ p.2 := by
  unfold others
  rw [List.mem_filter, decide_eq_true_eq]
theorem mem_keys {ms : List Mv} (hn : (ms.map (·.1)).Nodup) {x : Int} : x ∈ keysOf ms ↔ (Wof ms x).isSome = true := by
  constructor
  · intro h
    obtain ⟨p, hp, e⟩ := List.mem_map.mp h
    rw [← e, W_of hn (b := p.2) hp]
    rfl
  · intro h
    obtain ⟨y, e⟩ := Option.isSome_iff_exists.mp h
    exact List.mem_map.mpr ⟨_, of_W e, rfl⟩
theorem init {ms : List Mv} {spare : Int} (hn : (ms.map (·.1)).Nodup) (hs : ∀ p ∈ ms, p.1 ≠ spare) {free : List Int} (hfree : free = (keysOf ms).filter fun x => decide (F0 ms x = none)) :
    I (Wof ms) spare (keysOf ms) free (F0 ms) [] := by
  have irr : ∀ x, Wof ms x ≠ some x := fun x h => (mem_others.mp (of_W h)).2 rfl
  have f0 : ∀ s a, F0 ms s = some a → a = s ∧ ∃ p ∈ others ms, p.2 = s := fun s a h => by
    unfold F0 at h
    split at h
    · rename_i q
      exact ⟨(Option.some.inj h).symm, q⟩
    · cases h
  refine ⟨irr, ?_, keysN hn, fun x => ?_, fun s a h => ?_, fun x s h => ?_, fun s a h => ?_, ?_, fun f hf => ?_, fun x s _ hd => (nomatch hd), fun p hp => (nomatch hp), fun x hx => ?_, fun x hx => (nomatch hx), fun x s _ hd => (nomatch hd)⟩
  · cases e : Wof ms spare with
    | none => rfl
    | some y => exact (hs _ (mem_others.mp (of_W e)).1 rfl).elim
  · rw [mem_keys hn]
    exact ⟨fun h => ⟨h, by simp⟩, fun h => h.1⟩
  · obtain ⟨e, _⟩ := f0 s a h
    exact ⟨e, fun _ => by simp, fun q => (q e).elim⟩
  · refine ⟨s, ?_⟩
    unfold F0
    rw [if_pos ⟨_, of_W h, rfl⟩]
  · obtain ⟨_, p, hp, e⟩ := f0 s a h
    exact ⟨p.1, by rw [W_of hn (b := p.2) hp, e]⟩
  · rw [hfree]
    exact (keysN hn).filter _
  · rw [hfree, List.mem_filter, decide_eq_true_eq] at hf
    refine ⟨hf.1, ?_⟩
    rw [hf.2]
    exact fun q => (nomatch q)
  · rw [hfree, List.mem_filter, decide_eq_true_eq]
    cases e : F0 ms x with
    | none => exact .inl ⟨hx, rfl⟩
    | some a => exact .inr (by rw [(f0 x a e).1])
structure Out (W : PM) (spare : Int) (keys pre : List Int) (F : PM) (o : List Mv) (Rs : List (List Int)) : Prop where
  inv : ∃ und, I W spare und [] F o ∧ o.length + und.length = keys.length + Rs.length
  nosp : ∀ s, F s ≠ some spare
  rings : Rings W Rs
  old : ∀ C ∈ Rs, ∀ x ∈ C, x ∈ o.map (·.1)
  pre_ : ∀ x ∈ pre, x ∈ o.map (·.1)
theorem Out.skip {W : PM} {spare : Int} {keys pre : List Int} {F : PM} {o : List Mv} {Rs : List (List Int)} (h : Out W spare keys pre F o Rs) {x : Int} (hx : x ∈ o.map (·.1)) : Out W spare keys (pre ++ [x]) F o Rs :=
  ⟨h.inv, h.nosp, h.rings, h.old, fun y hy => by
    rcases List.mem_append.mp hy with hy | hy
    · exact h.pre_ y hy
    · have e : y = x := by simpa using hy
      rw [e]
      exact hx⟩
theorem Out.turn {W : PM} {spare : Int} {keys pre : List Int} {F : PM} {o : List Mv} {Rs : List (List Int)} (h : Out W spare keys pre F o Rs) {x : Int} (hk : (W x).isSome = true) (hx : x ∉ o.map (·.1)) :
    ∃ m F' o' C, Runs W m [x] (setF F x spare) (o ++ [(spare, x)]) F' o' ∧ Out W spare keys (pre ++ [x]) F' o' (C :: Rs) := by
  obtain ⟨und, i, hl⟩ := h.inv
  have xU := (i.undE x).mpr ⟨hk, hx⟩
  have wait : ∀ y ∈ und, F y = some y := fun y hy => (i.wait y hy).resolve_left (by simp)
  obtain ⟨hU, inj⟩ := onto_inj (W := W) i.undN fun y hy => by
    obtain ⟨u, hu⟩ := i.srcE y y (wait y hy)
    refine ⟨u, (i.undE u).mpr ⟨by rw [hu]; rfl, fun hd => i.read u y hu hd (wait y hy)⟩, hu⟩
  have ne : spare ≠ x := fun e => by
    rw [← e, i.sp] at hk
    cases hk
  obtain ⟨m, F', o', und', C, r, i', hlen, hs, hd, hR, hC, hfC⟩ := ring (first := x) (U := und) (fun y hy => ((i.undE y).mp hy).1) hU inj und.length (V := []) (b := x) rfl (i.open_ h.nosp xU) rfl (by simp) xU (by simp)
    (fun y hy h1 _ _ => by rw [setF_ne F h1]; exact wait y hy) (setF_same ..) (fun s q => by
      by_cases z : s = x
      · exact z
      · rw [setF_ne F z] at q
        exact (h.nosp s q).elim) (by simp)
  have mono : ∀ y ∈ o.map (·.1), y ∈ o'.map (·.1) := fun y hy => hd y (mem_snoc1.mpr (.inl hy))
  refine ⟨m, F', o', C, r, ⟨und', i', ?_⟩, hs, ⟨fun E hE => ?_, ?_⟩, fun E hE y hy => ?_, fun y hy => ?_⟩
  · rw [List.length_append, List.length_singleton] at hlen
    rw [List.length_cons]
    omega
  · rcases List.mem_cons.mp hE with e | hE
    · rw [e]
      exact hR
    · exact h.rings.ring E hE
  · rw [List.pairwise_cons]
    refine ⟨fun E hE y h1 h2 => ?_, h.rings.apart⟩
    exact ((i.undE y).mp (hC y h1).1).2 (h.old E hE y h2)
  · rcases List.mem_cons.mp hE with e | hE
    · exact (hC y (by rw [← e]; exact hy)).2
    · exact mono y (h.old E hE y hy)
  · rcases List.mem_append.mp hy with hy | hy
    · exact mono y (h.pre_ y hy)
    · have e : y = x := by simpa using hy
      rw [e]
      exact (hC x hfC).2
/-- the due content -/
def due (ms : List Mv) (x : Int) : Int := ((ms.find? fun p => decide (p.1 = x)).map (·.2)).getD x
theorem due_of {ms : List Mv} (hn : (ms.map (·.1)).Nodup) {a b : Int} (h : (a, b) ∈ ms) : due ms a = b := by
  unfold due
  rw [find_of hn h]
  rfl
theorem due_none {ms : List Mv} {x : Int} (h : x ∉ ms.map (·.1)) : due ms x = x := by
  unfold due
  rw [List.find?_eq_none.mpr]
  · rfl
  · intro p hp
    simp only [decide_eq_true_eq]
    intro e
    exact h (by rw [← e]; exact List.mem_map_of_mem hp)
theorem content_no (x : Int) : ∀ (l : List Mv) (c : Int → Int), x ∉ l.map (·.1) → (l.foldl hstep c) x = c x
  | [], _, _ => rfl
  | p :: l, c, h => by
    rw [List.map_cons, List.mem_cons] at h
    rw [List.foldl_cons, content_no x l _ fun q => h (.inr q)]
    exact if_neg fun q => h (.inl q)
structure Good (ms : List Mv) (spare : Int) (told : List Mv) : Prop where
  unlike : ∀ p ∈ told, p.1 ≠ p.2
  right : ∀ x, x ≠ spare → content told x = due ms x
  len : ∃ Rs, Rings (Wof ms) Rs ∧ told.length ≤ (others ms).length + Rs.length
theorem Out.good {ms : List Mv} {spare : Int} (hn : (ms.map (·.1)).Nodup) {F : PM} {o : List Mv} {Rs : List (List Int)} (h : Out (Wof ms) spare (keysOf ms) (keysOf ms) F o Rs) : Good ms spare o := by
  obtain ⟨und, i, hl⟩ := h.inv
  refine ⟨i.unlike, fun x hx => ?_, Rs, h.rings, ?_⟩
  · by_cases hd : x ∈ o.map (·.1)
    · have hk := (i.only x hd).resolve_right hx
      obtain ⟨y, hy⟩ := Option.isSome_iff_exists.mp hk
      rw [i.right x y hy hd, due_of hn (mem_others.mp (of_W hy)).1]
    · rw [show content o x = x from content_no x o id hd]
      by_cases hm : x ∈ ms.map (·.1)
      · obtain ⟨p, hp, e⟩ := List.mem_map.mp hm
        have : p.1 = p.2 := Classical.byContradiction fun ne => hd (h.pre_ x ((mem_keys hn).mpr (by
          rw [← e, W_of hn (b := p.2) (mem_others.mpr ⟨hp, ne⟩)]
          rfl)))
        rw [← e, due_of hn (b := p.2) hp, ← this]
      · rw [due_none hm]
  · have hu : und = [] := by
      cases und with
      | nil => rfl
      | cons x l =>
        have := (i.undE x).mp (List.mem_cons_self ..)
        exact (this.2 (h.pre_ x ((mem_keys hn).mpr this.1))).elim
    rw [hu] at hl
    have e : (keysOf ms).length = (others ms).length := List.length_map ..
    simp only [List.length_nil, Nat.add_zero] at hl
    rw [← e]
    omega
/-- behind the chains -/
theorem first_ {ms : List Mv} {spare : Int} (hn : (ms.map (·.1)).Nodup) (hs : ∀ p ∈ ms, p.1 ≠ spare ∧ p.2 ≠ spare) {free : List Int} (hfree : free = (keysOf ms).filter fun x => decide (F0 ms x = none)) :
    ∃ m F o, Runs (Wof ms) m free (F0 ms) [] F o ∧ Out (Wof ms) spare (keysOf ms) [] F o [] := by
  obtain ⟨m, F, o, und, r, i, hl, hsp, _⟩ := chain _ rfl (init hn (fun p hp => (hs p hp).1) hfree)
  refine ⟨m, F, o, r, ⟨und, i, by simpa using hl⟩, fun s q => ?_, ⟨fun C hC => (nomatch hC), .nil⟩, fun C hC => (nomatch hC), fun x hx => (nomatch hx)⟩
  have q := hsp s q
  unfold F0 at q
  split at q
  · rename_i h
    obtain ⟨p, hp, e⟩ := h
    exact (hs p (mem_others.mp hp).1).2 (e.trans (Option.some.inj q))
  · cases q
end M42

local macro_rules | `(tactic| walk_at "g1") => `(tactic| first
  | (with_reducible refine Kt.s_seq ?_)
  | (with_reducible refine Kt.s_asg ?_)
  | ((with_reducible refine Kt.e_var (v := ?v) ?h ?k); (case h => exact rfl))
  | (with_reducible refine Kt.e_c ?_)
  | (with_reducible refine Kt.g_name ?_)
  | (with_reducible refine Kt.e_op ?_)
  | (with_reducible refine Kt.r_I0 ?_)
  | (with_reducible refine Kt.r_eqI ?_)
  | (with_reducible refine Kt.r_neI ?_)
  | (with_reducible refine Kt.a_cons ?_)
  | (with_reducible refine Kt.a_nil ?_)
  | (with_reducible refine Kt.e_cb ?_)
  | (with_reducible refine Kt.s_next ?_)
  | (with_reducible refine Kt.s_if ?_)
  | (with_reducible refine Kt.s_ret ?_)
  | (with_reducible refine Kt.s_retN ?_)
  | (with_reducible refine Kt.s_drop ?_)
  | (with_reducible refine Kt.s_brk ?_)
  | (with_reducible refine Kt.s_cont ?_)
  | (with_reducible refine Kt.c_test ?_)
  | (with_reducible refine Kt.c_B ?_)
  | (with_reducible refine Kt.c_and ?_)
  | (with_reducible refine Kt.c_or ?_)
  | (with_reducible refine Kt.c_not ?_)
  | (with_reducible refine Kt.x_bl ?_)
  | (with_reducible refine Kt.e_bm ?_)
  | (with_reducible refine Kt.e_bm0 ?_)
  | (with_reducible refine Kt.e_dget ?_)
  | (with_reducible refine Kt.e_din ?_)
  | (with_reducible refine Kt.e_dnin ?_)
  | (with_reducible refine Kt.e_dget2 ?_)
  | (with_reducible refine Kt.s_dput ?_)
  | (with_reducible refine Kt.e_dnewK ?_)
  | (with_reducible refine Kt.e_tup ?_)
  | (with_reducible refine Kt.e_lst ?_)
  | (with_reducible refine Kt.e_call ?_)
  | (with_reducible refine Kt.e_un ?_)
  | (with_reducible refine Kt.r_U ?_)
  | (with_reducible refine Kt.r_int1 ?_)
  | (with_reducible refine Kt.e_if ?_)
  | (with_reducible refine Kt.e_notV ?_)
  | (with_reducible refine Kt.e_andV ?_)
  | (with_reducible refine Kt.e_orV ?_)
  | (with_reducible refine Kt.c_yes ?_)
  | (with_reducible refine Kt.g_sub ?_)
  | (with_reducible refine Kt.e_sl ?_)
  | (with_reducible refine Kt.o_none ?_)
  | (with_reducible refine Kt.o_some ?_)
  | (with_reducible refine Kt.x_part ?_)
  | (with_reducible refine Kt.if_nT ?_)
  | (with_reducible refine Kt.if_nF ?_)
  | (with_reducible refine L2.iteT ?_)
  | (with_reducible refine L2.iteF ?_))
local macro_rules | `(tactic| walk_at "go") => `(tactic| repeat walk_at "g1")

local macro_rules | `(tactic| walk_at "g1") => `(tactic| first
  | (with_reducible refine Kt.s_seq ?_)
  | (with_reducible refine Kt.s_asg ?_)
  | ((with_reducible refine Kt.e_var (v := ?v) ?h ?k); (case h => exact rfl))
  | (with_reducible refine Kt.e_c ?_)
  | (with_reducible refine Kt.g_name ?_)
  | (with_reducible refine Kt.e_op ?_)
  | (with_reducible refine Kt.r_I0 ?_)
  | (with_reducible refine Kt.r_eqI ?_)
  | (with_reducible refine Kt.r_neI ?_)
  | (with_reducible refine Kt.a_cons ?_)
  | (with_reducible refine Kt.a_nil ?_)
  | (with_reducible refine Kt.e_cb ?_)
  | (with_reducible refine Kt.s_next ?_)
  | (with_reducible refine Kt.s_if ?_)
  | (with_reducible refine Kt.s_ret ?_)
  | (with_reducible refine Kt.s_retN ?_)
  | (with_reducible refine Kt.s_drop ?_)
  | (with_reducible refine Kt.s_brk ?_)
  | (with_reducible refine Kt.s_cont ?_)
  | (with_reducible refine Kt.c_test ?_)
  | (with_reducible refine Kt.c_B ?_)
  | (with_reducible refine Kt.c_and ?_)
  | (with_reducible refine Kt.c_or ?_)
  | (with_reducible refine Kt.c_not ?_)
  | (with_reducible refine Kt.x_bl ?_)
  | (with_reducible refine Kt.e_bm ?_)
  | (with_reducible refine Kt.e_bm0 ?_)
  | (with_reducible refine Kt.e_dget ?_)
  | (with_reducible refine Kt.e_din ?_)
  | (with_reducible refine Kt.e_dnin ?_)
  | (with_reducible refine Kt.e_dget2 ?_)
  | (with_reducible refine Kt.s_dput ?_)
  | (with_reducible refine Kt.e_dnewK ?_)
  | (with_reducible refine Kt.e_tup ?_)
  | (with_reducible refine Kt.e_lst ?_)
  | (with_reducible refine Kt.e_call ?_)
  | (with_reducible refine Kt.e_un ?_)
  | (with_reducible refine Kt.r_U ?_)
  | (with_reducible refine Kt.r_int1 ?_)
  | (with_reducible refine Kt.e_if ?_)
  | (with_reducible refine Kt.e_notV ?_)
  | (with_reducible refine Kt.e_andV ?_)
  | (with_reducible refine Kt.e_orV ?_)
  | (with_reducible refine Kt.c_yes ?_)
  | (with_reducible refine Kt.g_sub ?_)
  | (with_reducible refine Kt.e_sl ?_)
  | (with_reducible refine Kt.o_none ?_)
  | (with_reducible refine Kt.o_some ?_)
  | (with_reducible refine Kt.x_part ?_)
  | (with_reducible refine L2.iteT ?_)
  | (with_reducible refine L2.iteF ?_))
local macro_rules | `(tactic| walk_at "go") => `(tactic| repeat walk_at "g1")
namespace K42
open PySem PySem.Spec L2 M42
def topS (i : Nat) : Stmt := PySem.Challenge.pw_reforge_k42_moves.main.body.getD i (.Pass ⟨0, 0, 0, 0⟩)
/-! data in the heap -/
def DI (kvs : List (Key × V)) (F : PM) : Prop := ∀ x, valV kvs (.inl x) = (F x).map V.int
theorem DI.put {kvs : List (Key × V)} {F : PM} (h : DI kvs F) (s a : Int) : DI (putK kvs (.inl s) (.int a)) (setF F s a) := fun x => by
  rw [valV_put]
  by_cases e : x = s
  · rw [if_pos (by rw [e]), e, setF_same]; rfl
  · rw [if_neg (fun q => e (Sum.inl.inj q)), setF_ne F e]; exact h x
def PrT (H : Hp) (ts : List Addr) (ps : List Mv) : Prop := Paired (fun t (p : Mv) => H t = some (.tup [.int p.1, .int p.2])) ts ps
def Prs (H : Hp) (l : Addr) (ps : List Mv) : Prop := ∃ ts : List Addr, H l = some (.lst (ts.map V.ref)) ∧ PrT H ts ps
theorem PrT.keep {H H' : Hp} {ts : List Addr} {ps : List Mv} (h : PrT H ts ps) (k : ∀ b xs, H b = some (.tup xs) → H' b = some (.tup xs)) : PrT H' ts ps := by
  induction h with
  | nil => exact .nil
  | cons a _ ih => exact .cons (k _ _ a) ih
theorem PrT.snoc {H : Hp} {ts : List Addr} {ps : List Mv} (h : PrT H ts ps) {t : Addr} {p : Mv} (e : H t = some (.tup [.int p.1, .int p.2])) : PrT H (ts ++ [t]) (ps ++ [p]) := by
  induction h with
  | nil => exact .cons e .nil
  | cons a _ ih => exact .cons a ih
theorem PrT.length {H : Hp} {ts : List Addr} {ps : List Mv} (h : PrT H ts ps) : ts.length = ps.length := Paired.length h
/-! perform_free -/
abbrev st_perform_free : Stmt := topS 1
theorem sc_perform_free : FnScope ["free", "wanted", "found_at", "ordered", "to", "source", "at"] ["free", "wanted", "found_at", "ordered"] (defScope st_perform_free) := ⟨rfl, rfl, rfl, by decide +kernel, rfl, by decide +kernel, by decide +kernel⟩
def sp_perform_free (K : PySem.W.Frag) : Sp := fun vs H Q _ => ∃ (fr w fa od : Addr) (free : List Int) (kw kf : List (Key × V)) (W F F' : PM) (o o' : List Mv) (n : Nat),
  vs = [.ref fr, .ref w, .ref fa, .ref od] ∧ H fr = some (.lst (free.map V.int)) ∧ H w = some (.dK kw) ∧ DI kw W ∧ H fa = some (.dK kf) ∧ DI kf F ∧ Prs H od o ∧ fr ≠ od ∧ w ≠ fa ∧
  Runs W n free F o F' o' ∧ free.length + n ≤ 5000 ∧ kf.length + n ≤ 5000 ∧ o.length + n ≤ 5000 ∧
  ∀ H' kf', (∀ b u, H b = some u → b ≠ fr → b ≠ fa → b ≠ od → H' b = some u) → H' fr = some (.lst []) → H' fa = some (.dK kf') → DI kf' F' → kf'.length ≤ kf.length + n → Prs H' od o' → Q .non H'
section
variable {P : Program} {w : World} {K : PySem.W.Frag} {mg : Str → Option Value} {base : Heap}
structure T_perform_free (P : Program) (w : World) (K : PySem.W.Frag) (mg : Str → Option Value) (base : Heap) : Prop where
  len_ : mg "len" = none
theorem ok_perform_free {f : Addr} {fd : FuncData} (F0 : Fun K "perform_free" "perform_free" st_perform_free f fd) (T : T_perform_free P w K mg base) : FnOk P w K mg base CX0 1 f fd ["free", "wanted", "found_at", "ordered"] (sp_perform_free K) := by
  refine F0.ok sc_perform_free (fun vs H Q E h => ?_) (fun cdv A outer s H vs Q E hr h => ?_)
  · obtain ⟨fr, w, fa, od, _, _, _, _, _, _, _, _, _, rfl, _⟩ := h
    rfl
  · obtain ⟨fr, w, fa, od, free, kw, kf, W, F, F', o, o', n, rfl, hfr, hw, dw, hfa, df, hod, nfo, nwf, hR, l1, l2, l3, k⟩ := h
    refine ⟨_, (pss_one (ps_while PassesOwn.never (pt_cmpR op_gt (pe_callB Kt.cr_len (by rfl) T.len_ PySem.boot_len (pa_cons (pv 0) pa_nil)) pe_int (nomark _))
(pss_cons (ps_set (i := 4) sc_perform_free.nd rfl (.inl rfl) (pe_bm0 PySem.F.plainAttrs_list PySem.F.slot_list_pop PySem.F.type_list_pop mt_pop (pv 0)))
(pss_cons (ps_set (i := 5) sc_perform_free.nd rfl (.inl rfl) (pe_dget (hu_of hr) (pv 1) (pv 4) (fun _ _ => rfl)))
(pss_cons (ps_set (i := 6) sc_perform_free.nd rfl (.inl rfl) (pe_dget (hu_of hr) (pv 2) (pv 5) (fun _ _ => rfl)))
(pss_cons (ps_expr (pe_bm PySem.F.plainAttrs_list PySem.F.slot_list_append PySem.F.type_list_append mt_append (pv 3) (pa_cons (pe_tup (pa_cons (pv 4) (pa_cons (pv 6) pa_nil))) pa_nil)))
(pss_cons (ps_dput (hu_of hr) (pv 2) (pv 5) (pv 4) rfl)
(pss_one (ps_if (PW.pt (pw_and (pt_cmpR op_eq (pv 6) (pv 5) (nomark _)) (pw_and1 (pt_cmp (pc_din (hu_of hr) (pv 5) (pv 1)) rfl))))
(pss_one (ps_expr (pe_bm PySem.F.plainAttrs_list PySem.F.slot_list_append PySem.F.type_list_append mt_append (pv 0) (pa_cons (pv 5) pa_nil))))
pss_nil))))))))), ?_⟩
    dsimp only [L2.cxOf, L2.Cx.nox]
    have nfw : fr ≠ w := ne_of hfr hw (by intro q; cases q)
    have nff : fr ≠ fa := ne_of hfr hfa (by intro q; cases q)
    obtain ⟨ts0, hod0, ht0⟩ := id hod
    have now : od ≠ w := ne_of hod0 hw (by intro q; cases q)
    have nof : od ≠ fa := ne_of hod0 hfa (by intro q; cases q)
    refine Kt.f_while (fun m σ H1 => ∃ (free1 : List Int) (kf1 : List (Key × V)) (F1 : PM) (o1 : List Mv) (ts : List Addr) (y4 y5 y6 : Option V), σ = [some (.ref fr), some (.ref w), some (.ref fa), some (.ref od), y4, y5, y6] ∧
      (∀ b u, H b = some u → b ≠ fr → b ≠ fa → b ≠ od → H1 b = some u) ∧ H1 fr = some (.lst (free1.map V.int)) ∧ H1 fa = some (.dK kf1) ∧ DI kf1 F1 ∧ H1 od = some (.lst (ts.map V.ref)) ∧ PrT H1 ts o1 ∧ Runs W m free1 F1 o1 F' o' ∧
      free1.length + m ≤ 5000 ∧ kf1.length + m ≤ kf.length + n ∧ o1.length + m ≤ 5000)
      n ⟨free, kf, F, o, ts0, none, none, none, rfl, fun _ _ e _ _ _ => e, hfr, hfa, df, hod0, ht0, hR, l1, Nat.le_refl _, l3⟩ (fun m σ H1 hW => ?_)
    obtain ⟨free1, kf1, F1, o1, ts, y4, y5, y6, rfl, keep, h1, h2, d1, h3, t1, r1, m1, m2, m3⟩ := hW
    walk_at "go"
    refine Kt.r_lenL h1 ?_
    walk_at "go"
    refine Kt.if_dec (fun hc => ?_) (fun hc => ?_)
    · refine ⟨_, fun _ _ z => z, ?_⟩
      cases r1 with
      | done => simp at hc
      | @step m0 free2 to src at_ _ _ _ _ hwt hf r =>
      rw [List.map_append] at h1
      have vw : valV kw (.inl to) = some (.int src) := by rw [dw, hwt]; rfl
      have vf : valV kf1 (.inl src) = some (.int at_) := by rw [d1, hf]; rfl
      have e1w : H1 w = some (.dK kw) := keep _ _ hw nfw.symm nwf now.symm
      walk_at "go"
      refine Kt.x_tyL h1 (Kt.r_pop h1 ?_)
      have h1' := upd_same (H := H1) (a := fr) (o := .lst (free2.map V.int))
      have ew' : (upd H1 fr (.lst (free2.map V.int))) w = some (.dK kw) := by rw [upd_ne nfw.symm]; exact e1w
      have ef' : (upd H1 fr (.lst (free2.map V.int))) fa = some (.dK kf1) := by rw [upd_ne nff.symm]; exact h2
      have eo' : (upd H1 fr (.lst (free2.map V.int))) od = some (.lst (ts.map V.ref)) := by rw [upd_ne nfo.symm]; exact h3
      have k1 : ∀ b u, H1 b = some u → b ≠ fr → (upd H1 fr (.lst (free2.map V.int))) b = some u := fun b u e q => by rw [upd_ne q]; exact e
      generalize upd H1 fr (.lst (free2.map V.int)) = H2 at h1' ew' ef' eo' k1 ⊢
      walk_at "go"
      refine Kt.x_get ew' vw ?_
      walk_at "go"
      refine Kt.x_get ef' vf ?_
      walk_at "go"
      refine Kt.x_tyL eo' ?_
      walk_at "go"
      refine ⟨show (2 : Nat) ≤ sizeLine by decide, fun p hp => ?_⟩
      have npf : fr ≠ p := ne_of_none h1' hp
      have npw : w ≠ p := ne_of_none ew' hp
      have npa : fa ≠ p := ne_of_none ef' hp
      have npo : od ≠ p := ne_of_none eo' hp
      walk_at "go"
      refine Kt.r_append (xs := ts.map V.ref) (by rw [upd_ne npo]; exact eo') (Kt.small (by rw [List.length_map, t1.length]; omega)) ?_
      walk_at "go"
      refine Kt.x_put (kvs := kf1) (by rw [upd_ne nof.symm, upd_ne npa]; exact ef') (Kt.small (by omega)) ?_
      have g1 : upd (upd (upd H2 p (.tup [.int to, .int at_])) od (.lst (ts.map V.ref ++ [.ref p]))) fa (.dK (putK kf1 (.inl src) (.int to))) fr = some (.lst (free2.map V.int)) := by rw [upd_ne nff, upd_ne nfo, upd_ne npf]; exact h1'
      have g2 : upd (upd (upd H2 p (.tup [.int to, .int at_])) od (.lst (ts.map V.ref ++ [.ref p]))) fa (.dK (putK kf1 (.inl src) (.int to))) w = some (.dK kw) := by rw [upd_ne nwf, upd_ne now.symm, upd_ne npw]; exact ew'
      have g3 : upd (upd (upd H2 p (.tup [.int to, .int at_])) od (.lst (ts.map V.ref ++ [.ref p]))) fa (.dK (putK kf1 (.inl src) (.int to))) fa = some (.dK (putK kf1 (.inl src) (.int to))) := upd_same
      have g4 : upd (upd (upd H2 p (.tup [.int to, .int at_])) od (.lst (ts.map V.ref ++ [.ref p]))) fa (.dK (putK kf1 (.inl src) (.int to))) od = some (.lst ((ts ++ [p]).map V.ref)) := by rw [upd_ne nof, upd_same, List.map_append]; rfl
      have g5 : upd (upd (upd H2 p (.tup [.int to, .int at_])) od (.lst (ts.map V.ref ++ [.ref p]))) fa (.dK (putK kf1 (.inl src) (.int to))) p = some (.tup [.int to, .int at_]) := by rw [upd_ne npa.symm, upd_ne npo.symm, upd_same]
      have gk : ∀ b u, H1 b = some u → b ≠ fr → b ≠ od → b ≠ fa → upd (upd (upd H2 p (.tup [.int to, .int at_])) od (.lst (ts.map V.ref ++ [.ref p]))) fa (.dK (putK kf1 (.inl src) (.int to))) b = some u := fun b u e q1 q2 q3 => by
        rw [upd_ne q3, upd_ne q2, upd_ne (ne_of_none (k1 _ _ e q1) hp)]
        exact k1 _ _ e q1
      generalize upd (upd (upd H2 p (.tup [.int to, .int at_])) od (.lst (ts.map V.ref ++ [.ref p]))) fa (.dK (putK kf1 (.inl src) (.int to))) = H3 at g1 g2 g3 g4 g5 gk ⊢
      have t3 : PrT H3 (ts ++ [p]) (o1 ++ [(to, at_)]) := (t1.keep fun b xs e => gk b _ e (by rintro rfl; rw [h1] at e; cases e) (by rintro rfl; rw [h3] at e; cases e) (by rintro rfl; rw [h2] at e; cases e)).snoc g5
      have keep3 : ∀ b u, H b = some u → b ≠ fr → b ≠ fa → b ≠ od → H3 b = some u := fun b u e q1 q2 q3 => gk b u (keep b u e q1 q2 q3) q1 q3 q2
      have lk := length_putK kf1 (.inl src) (.int to)
      have d3 := d1.put src to
      rw [List.length_append, List.length_singleton] at m1
      have fin : ∀ H4 free4, (∀ b u, H3 b = some u → b ≠ fr → H4 b = some u) → H4 fr = some (.lst (free4.map V.int)) → free4.length ≤ free2.length + 1 → free4 = (if at_ = src ∧ (W src).isSome = true then free2 ++ [src] else free2) →
          ∃ m', m' < m0 + 1 ∧ ∃ (free1 : List Int) (kf1 : List (Key × V)) (F1 : PM) (o1 : List Mv) (ts : List Addr) (z4 z5 z6 : Option V), [some (.ref fr), some (.ref w), some (.ref fa), some (.ref od), some (V.int to), some (V.int src), some (V.int at_)] = [some (.ref fr), some (.ref w), some (.ref fa), some (.ref od), z4, z5, z6] ∧
            (∀ b u, H b = some u → b ≠ fr → b ≠ fa → b ≠ od → H4 b = some u) ∧ H4 fr = some (.lst (free1.map V.int)) ∧ H4 fa = some (.dK kf1) ∧ DI kf1 F1 ∧ H4 od = some (.lst (ts.map V.ref)) ∧ PrT H4 ts o1 ∧ Runs W m' free1 F1 o1 F' o' ∧
            free1.length + m' ≤ 5000 ∧ kf1.length + m' ≤ kf.length + n ∧ o1.length + m' ≤ 5000 := fun H4 free4 q1 q2 q3 q4 => by
        refine ⟨m0, by omega, free4, _, _, _, ts ++ [p], _, _, _, rfl, fun b u e a1 a2 a3 => q1 b u (keep3 b u e a1 a2 a3) a1, q2, q1 _ _ g3 nff.symm, d3, q1 _ _ g4 nfo.symm, t3.keep fun b xs e => q1 b _ e (by rintro rfl; rw [g1] at e; cases e), ?_, by omega, by omega, ?_⟩
        · rw [q4]; exact r
        · rw [List.length_append, List.length_singleton]; omega
      walk_at "go"
      refine Kt.if_dec (fun ha => ?_) (fun ha => ?_)
      · walk_at "go"
        refine Kt.x_in g2 ?_
        rw [show (valV kw (.inl src)).isSome = (W src).isSome by rw [dw, Option.isSome_map]]
        walk_at "go"
        refine Kt.if_b (fun hb => ?_) (fun hb => ?_)
        · walk_at "go"
          refine Kt.x_tyL g1 ?_
          walk_at "go"
          refine Kt.r_append g1 (Kt.small (by rw [List.length_map]; omega)) ?_
          refine fin _ (free2 ++ [src]) (fun b u e q => by rw [upd_ne q]; exact e) (by rw [upd_same, List.map_append]; rfl) (by simp) (by rw [if_pos ⟨ha, hb⟩])
        · walk_at "go"
          exact fin _ free2 (fun b u e _ => e) g1 (by omega) (by rw [if_neg (by rw [hb]; simp)])
      · walk_at "go"
        exact fin _ free2 (fun b u e _ => e) g1 (by omega) (by rw [if_neg (fun q => ha q.1)])
    · cases r1 with
      | step => simp at hc
      | done => exact k H1 kf1 keep h1 h2 d1 (by omega) ⟨ts, h3, t1⟩
end
end K42

local macro_rules | `(tactic| walk_at "g1") => `(tactic| first
  | (with_reducible refine Kt.s_seq ?_)
  | (with_reducible refine Kt.s_asg ?_)
  | ((with_reducible refine Kt.e_var (v := ?v) ?h ?k); (case h => exact rfl))
  | (with_reducible refine Kt.e_c ?_)
  | (with_reducible refine Kt.g_name ?_)
  | (with_reducible refine Kt.e_op ?_)
  | (with_reducible refine Kt.r_I0 ?_)
  | (with_reducible refine Kt.r_eqI ?_)
  | (with_reducible refine Kt.r_neI ?_)
  | (with_reducible refine Kt.a_cons ?_)
  | (with_reducible refine Kt.a_nil ?_)
  | (with_reducible refine Kt.e_cb ?_)
  | (with_reducible refine Kt.s_next ?_)
  | (with_reducible refine Kt.s_if ?_)
  | (with_reducible refine Kt.s_ret ?_)
  | (with_reducible refine Kt.s_retN ?_)
  | (with_reducible refine Kt.s_drop ?_)
  | (with_reducible refine Kt.s_brk ?_)
  | (with_reducible refine Kt.s_cont ?_)
  | (with_reducible refine Kt.c_test ?_)
  | (with_reducible refine Kt.c_B ?_)
  | (with_reducible refine Kt.c_and ?_)
  | (with_reducible refine Kt.c_or ?_)
  | (with_reducible refine Kt.c_not ?_)
  | (with_reducible refine Kt.x_bl ?_)
  | (with_reducible refine Kt.e_bm ?_)
  | (with_reducible refine Kt.e_bm0 ?_)
  | (with_reducible refine Kt.e_dget ?_)
  | (with_reducible refine Kt.e_din ?_)
  | (with_reducible refine Kt.e_dnin ?_)
  | (with_reducible refine Kt.e_dget2 ?_)
  | (with_reducible refine Kt.s_dput ?_)
  | (with_reducible refine Kt.e_dnewK ?_)
  | (with_reducible refine Kt.e_tup ?_)
  | (with_reducible refine Kt.e_lst ?_)
  | (with_reducible refine Kt.e_call ?_)
  | (with_reducible refine Kt.e_un ?_)
  | (with_reducible refine Kt.r_U ?_)
  | (with_reducible refine Kt.r_int1 ?_)
  | (with_reducible refine Kt.e_if ?_)
  | (with_reducible refine Kt.e_notV ?_)
  | (with_reducible refine Kt.e_andV ?_)
  | (with_reducible refine Kt.e_orV ?_)
  | (with_reducible refine Kt.c_yes ?_)
  | (with_reducible refine Kt.g_sub ?_)
  | (with_reducible refine Kt.e_sl ?_)
  | (with_reducible refine Kt.o_none ?_)
  | (with_reducible refine Kt.o_some ?_)
  | (with_reducible refine Kt.x_part ?_)
  | (with_reducible refine L2.iteT ?_)
  | (with_reducible refine L2.iteF ?_))
local macro_rules | `(tactic| walk_at "go") => `(tactic| repeat walk_at "g1")
namespace K42
open PySem PySem.Spec L2 M42
theorem F0_snoc (l : List Mv) (p : Mv) : F0 (l ++ [p]) = if p.1 ≠ p.2 then setF (F0 l) p.2 p.2 else F0 l := by
  have ho : others (l ++ [p]) = if p.1 ≠ p.2 then others l ++ [p] else others l := by
    unfold others
    rw [List.filter_append]
    by_cases e : p.1 = p.2
    · simp [e]
    · simp [e]
  by_cases e : p.1 = p.2
  · rw [if_neg (fun q => q e)]
    unfold F0
    rw [ho, if_neg (fun q => q e)]
  · rw [if_pos e]
    rw [if_pos e] at ho
    funext s
    unfold setF F0
    rw [ho]
    by_cases es : s = p.2
    · rw [if_pos es, if_pos ⟨p, by simp, es.symm⟩, es]
    · rw [if_neg es]
      by_cases h : ∃ q ∈ others l, q.2 = s
      · obtain ⟨q, hq, e2⟩ := id h
        rw [if_pos h, if_pos ⟨q, List.mem_append_left _ hq, e2⟩]
      · rw [if_neg h, if_neg]
        rintro ⟨q, hq, e2⟩
        rcases List.mem_append.mp hq with hq | hq
        · exact h ⟨q, hq, e2⟩
        · have : q = p := by simpa using hq
          exact es (by rw [← e2, this])
theorem others_snoc (l : List Mv) (p : Mv) : others (l ++ [p]) = if p.1 ≠ p.2 then others l ++ [p] else others l := by
  unfold others
  rw [List.filter_append]
  by_cases e : p.1 = p.2
  · simp [e]
  · simp [e]
def kvW (l : List Mv) : List (Key × V) := l.map fun p => (Sum.inl p.1, V.int p.2)
theorem valV_kvW (x : Int) : ∀ l : List Mv, valV (kvW l) (.inl x) = (((l.find? fun p => decide (p.1 = x)).map (·.2))).map V.int
  | [] => rfl
  | p :: l => by
    have ih := valV_kvW x l
    show valV ((Sum.inl p.1, V.int p.2) :: kvW l) (.inl x) = _
    by_cases e : p.1 = x
    · rw [valV_pos (p := ((Sum.inl p.1 : Key), V.int p.2)) (by rw [e]), List.find?_cons_of_pos (by simp [e])]
      rfl
    · rw [valV_neg (p := ((Sum.inl p.1 : Key), V.int p.2)) (fun q => e (Sum.inl.inj q)), List.find?_cons_of_neg (by simp [e]), ih]
theorem kvW_new {l : List Mv} {x : Int} (h : x ∉ l.map (·.1)) : valV (kvW l) (.inl x) = none := by
  rw [valV_kvW, List.find?_eq_none.mpr]
  · rfl
  · intro p hp
    simp only [decide_eq_true_eq]
    intro e
    exact h (by rw [← e]; exact List.mem_map_of_mem hp)
theorem take_snoc {α : Type} {l : List α} {j : Nat} {x : α} (h : l[j]? = some x) : l.take (j + 1) = l.take j ++ [x] := by
  rw [List.take_add_one, h]
  rfl
theorem PrT.get {H : Hp} {ts : List Addr} {ps : List Mv} (h : PrT H ts ps) : ∀ {j : Nat} {t : Addr}, ts[j]? = some t → ∃ p, ps[j]? = some p ∧ H t = some (.tup [.int p.1, .int p.2]) := by
  induction h with
  | nil => intro j t e; simp at e
  | @cons a p as ps' hd tl ih =>
    intro j t e
    cases j with
    | zero =>
      have e : a = t := by simpa using e
      subst e
      exact ⟨p, rfl, hd⟩
    | succ j =>
      obtain ⟨q, h1, h2⟩ := ih (j := j) (by simpa using e)
      exact ⟨q, by simpa using h1, h2⟩
theorem ref_get {ts : List Addr} {j : Nat} {x : V} (h : (ts.map V.ref)[j]? = some x) : ∃ t, ts[j]? = some t ∧ x = .ref t := by
  rw [List.getElem?_map] at h
  cases e : ts[j]? with
  | none => rw [e] at h; cases h
  | some t => rw [e] at h; exact ⟨t, rfl, (Option.some.inj h).symm⟩
theorem nodup_at {l : List Mv} (hn : (l.map (·.1)).Nodup) {j : Nat} {p : Mv} (h : l[j]? = some p) : p.1 ∉ (l.take j).map (·.1) := by
  have e : l.take (j + 1) = l.take j ++ [p] := take_snoc h
  have s : ((l.take (j + 1)).map (·.1)).Nodup := hn.sublist ((List.take_sublist _ _).map _)
  rw [e, List.map_append, List.nodup_append] at s
  exact fun q => s.2.2 _ q p.1 (by simp) rfl
theorem runs_len {W : PM} {n : Nat} {free : List Int} {F F' : PM} {o o' : List Mv} (h : Runs W n free F o F' o') : o'.length = o.length + n := by
  induction h with
  | done => rfl
  | step _ _ _ ih => rw [ih, List.length_append, List.length_singleton]; omega
theorem same_new {H : Hp} {p : Addr} {o : HO} (h : H p = none) : Same H (upd H p o) := fun b u e => by rw [upd_ne (ne_of_none e h)]; exact e
/-- what H0 does not know may change -/
theorem same_mut {H0 H : Hp} {p : Addr} {o : HO} (s : Same H0 H) (h : H0 p = none) : Same H0 (upd H p o) := fun b u e => by rw [upd_ne (ne_of_none e h)]; exact s b u e
def spOm (K : PySem.W.Frag) : Sp := fun vs H Q _ => ∃ (m : Addr) (spare : Int) (ms : List Mv), vs = [.ref m, .int spare] ∧ Prs H m ms ∧ (ms.map (·.1)).Nodup ∧ (∀ p ∈ ms, p.1 ≠ spare ∧ p.2 ≠ spare) ∧ ms.length ≤ 100 ∧
  ∀ H' l told, Same H H' → H l = none → Prs H' l told → Good ms spare told → told.length ≤ 200 → Q (.ref l) H'
abbrev sp_order_moves := spOm
abbrev st_order_moves : Stmt := topS 2
theorem sc_order_moves : FnScope ["moves", "spare", "wanted", "found_at", "to", "source", "ordered", "done", "first", "_"] ["moves", "spare"] (defScope st_order_moves) := ⟨rfl, rfl, rfl, by decide +kernel, rfl, by decide +kernel, by decide +kernel⟩
section
variable {P : Program} {w : World} {K : PySem.W.Frag} {mg : Str → Option Value} {base : Heap}
structure T_order_moves (P : Program) (w : World) (K : PySem.W.Frag) (mg : Str → Option Value) (base : Heap) : Prop where
  list_ : mg "list" = none
  c_perform_free : C8.Cal P w K mg base 1 "perform_free" (sp_perform_free K) []
theorem ok_order_moves {f : Addr} {fd : FuncData} (F0_ : Fun K "order_moves" "order_moves" st_order_moves f fd) (T : T_order_moves P w K mg base) : FnOk P w K mg base CX0 2 f fd ["moves", "spare"] (sp_order_moves K) := by
  refine F0_.ok sc_order_moves (fun vs H Q E h => ?_) (fun cdv A outer s H vs Q E hr h => ?_)
  · obtain ⟨_, _, _, rfl, _⟩ := h
    rfl
  · obtain ⟨m, spare, ms, rfl, ⟨ts, hm, tm⟩, hn, hs, hl, k⟩ := h
    refine ⟨_, (pss_cons (ps_set (i := 2) sc_order_moves.nd rfl (.inl rfl) pe_dnewK)
(pss_cons (ps_set (i := 3) sc_order_moves.nd rfl (.inr rfl) pe_dnewK)
(pss_cons (ps_for PassesOwn.never rfl (pi_list (pv 0)) (pg_tup (by rfl) (pgs_cons (pg_name (i := 4) sc_order_moves.nd rfl (.inl rfl)) (pgs_cons (pg_name (i := 5) sc_order_moves.nd rfl (.inl rfl)) pgs_nil)))
(pss_one (ps_if (pt_cmpR op_ne (pv 4) (pv 5) (nomark _))
(pss_cons (ps_dput (hu_of hr) (pv 2) (pv 4) (pv 5) rfl)
(pss_one (ps_dput (hu_of hr) (pv 3) (pv 5) (pv 5) rfl)))
pss_nil)))
(pss_cons (ps_set (i := 6) sc_order_moves.nd rfl (.inl rfl) (pe_lst pa_nil))
(pss_cons (ps_expr (C8.pe_c T.c_perform_free hr (by decide) rfl (pa_cons (pe_lock (pe_lc (own := [("to", 4)]) (g := (gName 4)) (tt := (tB (tDNotIn (tVar 4) (tVar 3)))) (te := (tVar 4)) rfl sc_order_moves.nd (pi_keys (pv 2)) (blkOk_by (own := [("to", 4)]) (N := ["moves", "spare", "wanted", "found_at", "to", "source", "ordered", "done", "first", "_"]) (sc := defScope st_order_moves) (by decide +kernel)) (fun _ _ _ _ _ => (pg_name (i := 4) sc_order_moves.nd rfl (.inl rfl))) (fun _ _ _ _ _ => (pts_one (pt_cmp (pc_dnotin (hu_of hr) (pv 4) (pv 3)) rfl))) (fun _ _ _ _ _ => (pv 4)))) (pa_cons (pv 2) (pa_cons (pv 3) (pa_cons (pv 6) pa_nil))))))
(pss_cons (ps_setLc (i := 7) (own := [("to", 4), ("_", 9)]) (g := (gTup K 2 (gCons (gName 4) (gCons (gName 9) gNil)))) (tt := tYes) (te := (tVar 4)) rfl sc_order_moves.nd rfl rfl (sw_true rfl rfl rfl (by decide +kernel)) (pi_list (pv 6)) (blkOk_by (own := [("to", 4), ("_", 9)]) (N := ["moves", "spare", "wanted", "found_at", "to", "source", "ordered", "done", "first", "_"]) (sc := defScope st_order_moves) (by decide +kernel)) (fun _ _ _ _ _ => (pg_tup (by rfl) (pgs_cons (pg_name (i := 4) sc_order_moves.nd rfl (.inl rfl)) (pgs_cons (pg_name (i := 9) sc_order_moves.nd rfl (.inl rfl)) pgs_nil)))) (fun _ _ _ _ _ => pts_nil) (fun _ _ _ _ _ => (pv 4)))
(pss_cons (ps_for PassesOwn.never rfl (pi_list (pe_callTy (call_list_dK rfl) (by rfl) T.list_ (by decide +kernel) (pa_cons (pv 2) pa_nil))) (pg_name (i := 8) sc_order_moves.nd rfl (.inl rfl))
(pss_one (ps_if (pt_cmpR op_notIn_seq (pv 8) (pv 7) rfl)
(pss_cons (ps_expr (pe_bm PySem.F.plainAttrs_list PySem.F.slot_list_append PySem.F.type_list_append mt_append (pv 6) (pa_cons (pe_tup (pa_cons (pv 1) (pa_cons (pv 8) pa_nil))) pa_nil)))
(pss_cons (ps_dput (hu_of hr) (pv 3) (pv 8) (pv 1) rfl)
(pss_cons (ps_expr (C8.pe_c T.c_perform_free hr (by decide) rfl (pa_cons (pe_lst (pa_cons (pv 8) pa_nil)) (pa_cons (pv 2) (pa_cons (pv 3) (pa_cons (pv 6) pa_nil))))))
(pss_one (ps_setLc (i := 7) (own := [("to", 4), ("_", 9)]) (g := (gTup K 2 (gCons (gName 4) (gCons (gName 9) gNil)))) (tt := tYes) (te := (tVar 4)) rfl sc_order_moves.nd rfl rfl (sw_true rfl rfl rfl (by decide +kernel)) (pi_list (pv 6)) (blkOk_by (own := [("to", 4), ("_", 9)]) (N := ["moves", "spare", "wanted", "found_at", "to", "source", "ordered", "done", "first", "_"]) (sc := defScope st_order_moves) (by decide +kernel)) (fun _ _ _ _ _ => (pg_tup (by rfl) (pgs_cons (pg_name (i := 4) sc_order_moves.nd rfl (.inl rfl)) (pgs_cons (pg_name (i := 9) sc_order_moves.nd rfl (.inl rfl)) pgs_nil)))) (fun _ _ _ _ _ => pts_nil) (fun _ _ _ _ _ => (pv 4)))))))
pss_nil)))
(pss_one (ps_ret (pv 6)))))))))), ?_⟩
    dsimp only [L2.cxOf, L2.Cx.nox]
    walk_at "go"
    intro wa hwa
    walk_at "go"
    intro fa hfa
    have nwf : wa ≠ fa := fun e => by rw [e, upd_same] at hfa; cases hfa
    have hfa0 : H fa = none := by rw [upd_ne nwf.symm] at hfa; exact hfa
    walk_at "go"
    -- the first loop
    have htl : ts.length = ms.length := tm.length
    refine Kt.f_list (K := K) (xs := ts.map V.ref) 0 rfl (.of (by rw [upd_ne (ne_of_none hm hfa0), upd_ne (ne_of_none hm hwa)]; exact hm))
      (fun j σ H1 => ∃ (kf : List (Key × V)) (y4 y5 : Option V), σ = [some (.ref m), some (.int spare), some (.ref wa), some (.ref fa), y4, y5, none, none, none, none] ∧
        Same H H1 ∧ H1 wa = some (.dK (kvW (others (ms.take j)))) ∧ H1 fa = some (.dK kf) ∧ DI kf (F0 (ms.take j)) ∧ kf.length ≤ j) ?_ ?_ ?_ ?_
    · refine ⟨[], none, none, rfl, same_mut (same_new hwa) hfa0, ?_, upd_same, fun x => ?_, Nat.le_refl _⟩
      · rw [upd_ne nwf, upd_same]; rfl
      · rw [valV_nil]; unfold F0; rw [if_neg]; rfl
        rintro ⟨p, hp, _⟩
        exact nomatch hp
    · rintro j σ H1 _ ⟨kf, y4, y5, rfl, sm, _⟩
      exact .of (sm _ _ hm)
    · rintro j x σ H1 hx ⟨kf, y4, y5, rfl, sm, h1, h2, d, hk⟩
      obtain ⟨t, ht, rfl⟩ := ref_get hx
      obtain ⟨p, hp, htp⟩ := tm.get ht
      have ej : j < ms.length := (List.getElem?_eq_some_iff.mp hp).1
      refine Kt.g_pair (sm _ _ htp) ?_
      walk_at "go"
      have es : ms.take (j + 1) = ms.take j ++ [p] := take_snoc hp
      refine Kt.if_ndec (fun ne => ?_) (fun e => ?_)
      · walk_at "go"
        refine Kt.x_put h1 (Kt.small ?_) ?_
        · have : (others (ms.take j)).length ≤ (ms.take j).length := List.length_filter_le _ _
          show ((others (ms.take j)).map _).length ≤ _
          rw [List.length_map]
          rw [List.length_take] at this
          omega
        walk_at "go"
        refine Kt.x_put (kvs := kf) (by rw [upd_ne nwf.symm]; exact h2) (Kt.small (by omega)) ?_
        have lk := length_putK kf (.inl p.2) (.int p.2)
        refine ⟨putK kf (.inl p.2) (.int p.2), _, _, rfl, same_mut (same_mut sm hwa) hfa0, ?_, upd_same, ?_, by omega⟩
        · rw [upd_ne nwf, upd_same, es, others_snoc, if_pos ne]
          rw [putK_new _ (kvW_new fun q => nodup_at hn hp (List.Sublist.mem q others_sub))]
          unfold kvW
          rw [List.map_append]
          rfl
        · rw [es, F0_snoc, if_pos ne]
          exact d.put p.2 p.2
      · walk_at "go"
        refine ⟨kf, _, _, rfl, sm, ?_, h2, ?_, by omega⟩
        · rw [es, others_snoc, if_neg (fun q => q e)]; exact h1
        · rw [es, F0_snoc, if_neg (fun q => q e)]; exact d
    · rintro σ H1 ⟨kf, y4, y5, rfl, sm, h1, h2, d, hk⟩
      rw [List.length_map, htl, List.take_length] at h1 d
      rw [List.length_map, htl] at hk
      clear hfa
      walk_at "go"
      refine ⟨Nat.zero_le _, fun od hod => ?_⟩
      have now : wa ≠ od := ne_of_none h1 hod
      have nof : fa ≠ od := ne_of_none h2 hod
      have od0 : H od = none := sm.free hod
      walk_at "go"
      -- the places that are free
      refine Kt.l_keys (kvs := kvW (others ms)) 2 rfl (by rw [upd_ne now]; exact h1)
        (fun o D j H' => H' = upd (upd (upd H1 od (.lst [])) wa (.frz o (.dK (kvW (others ms))))) D (.lst ((((keysOf ms).take j).filter fun x => decide (F0 ms x = none)).map V.int)) ∧ wa ≠ D ∧ fa ≠ D) ?_ ?_ ?_ ?_
      · intro o D hD
        refine ⟨rfl, ne_of_none (by rw [upd_ne now]; exact h1) hD, ne_of_none (by rw [upd_ne nof]; exact h2) hD⟩
      · rintro o D j H' ⟨rfl, q1, _⟩
        rw [upd_ne q1, upd_same]
      · rintro o D j kk v H' hkv ⟨rfl, q1, q2⟩
        have hkv2 : ∃ p, (others ms)[j]? = some p ∧ (kk, v) = ((Sum.inl p.1 : Key), V.int p.2) := by
          unfold kvW at hkv
          rw [List.getElem?_map] at hkv
          cases e : (others ms)[j]? with
          | none => rw [e] at hkv; cases hkv
          | some p => rw [e] at hkv; exact ⟨p, rfl, (Option.some.inj hkv).symm⟩
        obtain ⟨p, hp, epp⟩ := hkv2
        cases epp
        have ek : (keysOf ms).take (j + 1) = (keysOf ms).take j ++ [p.1] := take_snoc (by unfold keysOf; rw [List.getElem?_map, hp]; rfl)
        have lj : j < 100 := by
          have a1 := (List.getElem?_eq_some_iff.mp hp).1
          have a2 : (others ms).length ≤ ms.length := List.length_filter_le _ _
          omega
        show gName 4 (.int p.1) _ _ _
        walk_at "go"
        refine ⟨rfl, ?_⟩
        walk_at "go"
        refine Kt.x_in (kvs := kf) (by rw [upd_ne q2, upd_ne nwf.symm, upd_ne nof]; exact h2) ?_
        rw [show (valV kf (.inl p.1)).isSome = (F0 ms p.1).isSome by rw [d, Option.isSome_map]]
        walk_at "go"
        refine Kt.if_nb (fun e => ?_) (fun e => ?_)
        · have e : F0 ms p.1 = none := by cases q : F0 ms p.1 with
            | none => rfl
            | some _ => rw [q] at e; cases e
          walk_at "go"
          refine ⟨_, upd_same, Kt.small ?_, ?_⟩
          · rw [List.length_map]
            have a3 := List.length_filter_le (fun x => decide (F0 ms x = none)) ((keysOf ms).take j)
            rw [List.length_take] at a3
            omega
          · refine ⟨?_, q1, q2⟩
            rw [upd_upd, ek, List.filter_append, List.map_append]
            simp [e]
        · have e : F0 ms p.1 ≠ none := fun q => by rw [q] at e; cases e
          refine ⟨?_, q1, q2⟩
          rw [ek, List.filter_append]
          simp [e]
      · rintro o D H' hD ⟨rfl, q1, q2⟩
        have el : (kvW (others ms)).length = (keysOf ms).length := by unfold kvW keysOf; rw [List.length_map, List.length_map]
        rw [el, List.take_length, Kt.unlock (by rw [upd_ne now]; exact h1) hD]
        obtain ⟨n1, F1, o1, R1, O1⟩ := first_ hn hs (free := (keysOf ms).filter fun x => decide (F0 ms x = none)) rfl
        have dodD : od ≠ D := fun e => by rw [← e, upd_same] at hD; cases hD
        have D0 : H1 D = none := by rw [upd_ne dodD.symm] at hD; exact hD
        have lo : (others ms).length ≤ ms.length := List.length_filter_le _ _
        have lkeys : (keysOf ms).length = (others ms).length := by unfold keysOf; rw [List.length_map]
        have lo1 : o1.length ≤ 100 := by
          obtain ⟨und, _, e⟩ := O1.inv
          simp only [List.length_nil] at e
          omega
        have ln1 := runs_len R1
        simp only [List.length_nil] at ln1
        walk_at "go"
        refine ⟨D, wa, fa, od, _, _, kf, Wof ms, F0 ms, F1, [], o1, n1, rfl, upd_same, by rw [upd_ne q1, upd_ne now]; exact h1, fun x => valV_kvW x _, by rw [upd_ne q2, upd_ne nof]; exact h2, d, ⟨[], by rw [upd_ne dodD, upd_same]; rfl, .nil⟩, dodD.symm, nwf, R1, ?_, ?_, ?_, ?_⟩
        · have a3 := List.length_filter_le (fun x => decide (F0 ms x = none)) (keysOf ms)
          omega
        · omega
        · simp only [List.length_nil]; omega
        intro H3 kf3 kp3 _ g2 dd3 lk3 ⟨to3, g3, tt3⟩
        have base3 : ∀ b u, H1 b = some u → b ≠ fa → H3 b = some u := fun b u e qb => kp3 b u (by rw [upd_ne (ne_of_none e D0), upd_ne (ne_of_none e hod)]; exact e) (ne_of_none e D0) qb (ne_of_none e hod)
        have sm3 : Same H H3 := fun b u e => base3 b u (sm b u e) (ne_of_none e hfa0)
        have w3 : H3 wa = some (.dK (kvW (others ms))) := base3 _ _ h1 nwf
        have lk4 : kf3.length ≤ 100 + o1.length := by omega
        clear kp3 base3 lk3
        clear D0 dodD hD q1 q2
        walk_at "go"
        -- done = [..]
        have loopDone : ∀ (H4 : Hp) (y4 y5 y7 y8 y9 : Option V) (o4 : List Mv) (to4 : List Addr) (N : VK), H4 od = some (.lst (to4.map V.ref)) → PrT H4 to4 o4 → o4.length ≤ 1000 →
            (∀ D, H4 D = none → N (.ref D) (upd H4 D (.lst ((o4.map (·.1)).map V.int)))) →
            tLc (iList K (tVar 6)) (gTup K 2 (gCons (gName 4) (gCons (gName 9) gNil))) tYes (tVar 4) [4, 9] [some (.ref m), some (.int spare), some (.ref wa), some (.ref fa), y4, y5, some (.ref od), y7, y8, y9] H4 N := by
          intro H4 y4 y5 y7 y8 y9 o4 to4 N e1 e2 e3 e4
          refine Kt.l_list (K := K) (xs := to4.map V.ref) 6 rfl (.of e1) (fun D j H' => H' = upd H4 D (.lst (((o4.take j).map (·.1)).map V.int)) ∧ H4 D = none) ?_ ?_ ?_ ?_
          · exact fun D hD => ⟨rfl, hD⟩
          · rintro D j H' _ ⟨rfl, hD⟩
            exact .of (by rw [upd_ne (ne_of_none e1 hD)]; exact e1)
          · rintro D j x H' hx ⟨rfl, hD⟩
            obtain ⟨t, ht, rfl⟩ := ref_get hx
            obtain ⟨p, hp, htp⟩ := e2.get ht
            have ej := (List.getElem?_eq_some_iff.mp hp).1
            refine Kt.g_pair (by rw [upd_ne (ne_of_none htp hD)]; exact htp) ?_
            refine ⟨rfl, ?_⟩
            walk_at "go"
            refine ⟨_, upd_same, Kt.small ?_, ?_, hD⟩
            · rw [List.length_map, List.length_map, List.length_take]; omega
            · rw [upd_upd, take_snoc hp, List.map_append, List.map_append]
              rfl
          · rintro D H' hD ⟨rfl, _⟩
            rw [List.length_map, e2.length, List.take_length]
            exact e4 D hD
        refine loopDone _ _ _ _ _ _ o1 to3 _ g3 tt3 (by omega) fun dn hdn => ?_
        walk_at "go"
        -- the rings
        refine Kt.f_listD (kvs := kvW (others ms)) 2 rfl (by rw [upd_ne (ne_of_none w3 hdn)]; exact w3)
          (fun l j σ H5 => ∃ (F5 : PM) (o5 : List Mv) (Rs : List (List Int)) (kf5 : List (Key × V)) (to5 : List Addr) (dn : Addr) (y4 y5 y8 y9 : Option V),
            σ = [some (.ref m), some (.int spare), some (.ref wa), some (.ref fa), y4, y5, some (.ref od), some (.ref dn), y8, y9] ∧
            Out (Wof ms) spare (keysOf ms) ((keysOf ms).take j) F5 o5 Rs ∧ Rs.length ≤ j ∧ Same H H5 ∧ H5 wa = some (.dK (kvW (others ms))) ∧ H5 fa = some (.dK kf5) ∧ DI kf5 F5 ∧ kf5.length ≤ 100 + o5.length ∧
            H5 od = some (.lst (to5.map V.ref)) ∧ PrT H5 to5 o5 ∧ H5 dn = some (.lst ((o5.map (·.1)).map V.int)) ∧ H5 l = some (.lst ((kvW (others ms)).map fun kv => kV kv.1)) ∧ l ≠ od ∧ H l = none ∧ j ≤ (keysOf ms).length) ?_ ?_ ?_ ?_
        · intro l hl0
          have nl : ∀ b u, H3 b = some u → (upd (upd H3 dn (.lst ((o1.map (·.1)).map V.int))) l (.lst ((kvW (others ms)).map fun kv => kV kv.1))) b = some u := fun b u e => by
            rw [upd_ne (ne_of_none (by rw [upd_ne (ne_of_none e hdn)]; exact e) hl0), upd_ne (ne_of_none e hdn)]; exact e
          have sd : (upd H3 dn (.lst ((o1.map (·.1)).map V.int))) dn = some (.lst ((o1.map (·.1)).map V.int)) := upd_same
          refine ⟨F1, o1, [], kf3, to3, dn, _, _, _, _, rfl, O1, Nat.zero_le _, fun b u e => nl b u (sm3 b u e), nl _ _ w3, nl _ _ g2, dd3, lk4, nl _ _ g3, tt3.keep fun b xs e => nl b _ e, ?_, upd_same, ?_, ?_, Nat.zero_le _⟩
          · rw [upd_ne (ne_of_none sd hl0)]; exact upd_same
          · rintro rfl
            rw [upd_ne (ne_of_none g3 hdn), g3] at hl0
            cases hl0
          · cases q : H l with
            | none => rfl
            | some u =>
              rw [upd_ne (ne_of_none (sm3 _ _ q) hdn), sm3 _ _ q] at hl0
              cases hl0
        · rintro l j σ H5 _ ⟨F5, o5, Rs, kf5, to5, dn, y4, y5, y8, y9, rfl, O5, r5, sm5, w5, f5, d5, k5, od5, t5, dn5, l5, _⟩
          exact l5
        · rintro l j kk v σ H5 hkv ⟨F5, o5, Rs, kf5, to5, dn, y4, y5, y8, y9, rfl, O5, r5, sm5, w5, f5, d5, k5, od5, t5, dn5, l5, nlo, l0, jle⟩
          have hkv2 : ∃ p, (others ms)[j]? = some p ∧ (kk, v) = ((Sum.inl p.1 : Key), V.int p.2) := by
            unfold kvW at hkv
            rw [List.getElem?_map] at hkv
            cases e : (others ms)[j]? with
            | none => rw [e] at hkv; cases hkv
            | some p => rw [e] at hkv; exact ⟨p, rfl, (Option.some.inj hkv).symm⟩
          obtain ⟨p, hp, epp⟩ := hkv2
          cases epp
          have ek : (keysOf ms).take (j + 1) = (keysOf ms).take j ++ [p.1] := take_snoc (by unfold keysOf; rw [List.getElem?_map, hp]; rfl)
          have ej := (List.getElem?_eq_some_iff.mp hp).1
          have hkey : (Wof ms p.1).isSome = true := (mem_keys hn).mp (List.mem_map_of_mem (List.mem_of_getElem? hp))
          have lo5 : o5.length ≤ 200 := by
            obtain ⟨und, _, e⟩ := O5.inv
            omega
          show gName 8 (.int p.1) _ _ _
          walk_at "go"
          refine Kt.r_ninI (.of dn5) ?_
          walk_at "go"
          refine Kt.if_ndec (fun nin => ?_) (fun yin => ?_)
          · obtain ⟨n6, F6, o6, C, R6, O6⟩ := O5.turn hkey nin
            walk_at "go"
            refine Kt.x_tyL od5 ?_
            walk_at "go"
            refine ⟨show (2 : Nat) ≤ sizeLine by decide, fun tp htp => ?_⟩
            walk_at "go"
            refine Kt.r_append (xs := to5.map V.ref) (by rw [upd_ne (ne_of_none od5 htp)]; exact od5) (Kt.small (by rw [List.length_map, t5.length]; omega)) ?_
            walk_at "go"
            refine Kt.x_put (kvs := kf5) (by rw [upd_ne nof, upd_ne (ne_of_none f5 htp)]; exact f5) (Kt.small (by omega)) ?_
            walk_at "go"
            refine ⟨show (1 : Nat) ≤ sizeLine by decide, fun fr hfr => ?_⟩
            have lo6 : o6.length ≤ 300 := by
              obtain ⟨und, _, e⟩ := O6.inv
              rw [List.length_cons] at e
              omega
            have ln6 := runs_len R6
            rw [List.length_append, List.length_singleton] at ln6
            have lkp := length_putK kf5 (.inl p.1) (.int spare)
            -- the heap ahead of the call
            have z : ∀ b u, H5 b = some u → b ≠ od → b ≠ fa → (upd (upd H5 tp (.tup [.int spare, .int p.1])) od (.lst (to5.map V.ref ++ [.ref tp]))) b = some u := fun b u e a1 a2 => by
              rw [upd_ne a1, upd_ne (ne_of_none e htp)]; exact e
            have ntf : tp ≠ fa := (ne_of_none f5 htp).symm
            have nto : tp ≠ od := (ne_of_none od5 htp).symm
            have y1 : ∀ b u, H5 b = some u → b ≠ od → b ≠ fa → (upd (upd (upd H5 tp (.tup [.int spare, .int p.1])) od (.lst (to5.map V.ref ++ [.ref tp]))) fa (.dK (putK kf5 (.inl p.1) (.int spare)))) b = some u := fun b u e a1 a2 => by
              rw [upd_ne a2]; exact z b u e a1 a2
            have y2 : (upd (upd (upd H5 tp (.tup [.int spare, .int p.1])) od (.lst (to5.map V.ref ++ [.ref tp]))) fa (.dK (putK kf5 (.inl p.1) (.int spare)))) fa = some (.dK (putK kf5 (.inl p.1) (.int spare))) := upd_same
            have y3 : (upd (upd (upd H5 tp (.tup [.int spare, .int p.1])) od (.lst (to5.map V.ref ++ [.ref tp]))) fa (.dK (putK kf5 (.inl p.1) (.int spare)))) od = some (.lst ((to5 ++ [tp]).map V.ref)) := by rw [upd_ne nof.symm, upd_same, List.map_append]; rfl
            have y4' : (upd (upd (upd H5 tp (.tup [.int spare, .int p.1])) od (.lst (to5.map V.ref ++ [.ref tp]))) fa (.dK (putK kf5 (.inl p.1) (.int spare)))) tp = some (.tup [.int spare, .int p.1]) := by rw [upd_ne ntf, upd_ne nto, upd_same]
            generalize upd (upd (upd H5 tp (.tup [.int spare, .int p.1])) od (.lst (to5.map V.ref ++ [.ref tp]))) fa (.dK (putK kf5 (.inl p.1) (.int spare))) = H6 at hfr y1 y2 y3 y4' ⊢
            have tup6 : ∀ b xs, H5 b = some (.tup xs) → H6 b = some (.tup xs) := fun b xs e => y1 b _ e (by rintro rfl; rw [od5] at e; cases e) (by rintro rfl; rw [f5] at e; cases e)
            have t6 : PrT H6 (to5 ++ [tp]) (o5 ++ [(spare, p.1)]) := (t5.keep tup6).snoc y4'
            have w6 : H6 wa = some (.dK (kvW (others ms))) := y1 _ _ w5 now nwf
            have x1 : ∀ b u, H6 b = some u → (upd H6 fr (.lst [.int p.1])) b = some u := fun b u e => by rw [upd_ne (ne_of_none e hfr)]; exact e
            walk_at "go"
            refine ⟨fr, wa, fa, od, [p.1], kvW (others ms), _, Wof ms, setF F5 p.1 spare, F6, _, o6, n6, rfl, upd_same, x1 _ _ w6, fun x => valV_kvW x _, x1 _ _ y2, d5.put p.1 spare, ⟨_, x1 _ _ y3, t6.keep fun b xs e => x1 b _ e⟩, (ne_of_none y3 hfr).symm, nwf, R6, ?_, ?_, ?_, ?_⟩
            · simp only [List.length_singleton]; omega
            · omega
            · rw [List.length_append, List.length_singleton]; omega
            intro H7 kf7 kp7 _ g7 d7 l7 ⟨to7, od7, t7⟩
            have z7 : ∀ b u, H5 b = some u → b ≠ od → b ≠ fa → H7 b = some u := fun b u e a1 a2 => kp7 b u (x1 _ _ (y1 b u e a1 a2)) (ne_of_none (y1 b u e a1 a2) hfr) a2 a1
            have sm7 : Same H H7 := fun b u e => z7 b u (sm5 b u e) (ne_of_none e od0) (ne_of_none e hfa0)
            walk_at "go"
            refine loopDone _ _ _ _ _ _ o6 to7 _ od7 t7 (by omega) fun dn8 hdn8 => ?_
            have x8 : ∀ b u, H7 b = some u → (upd H7 dn8 (.lst ((o6.map (·.1)).map V.int))) b = some u := fun b u e => by rw [upd_ne (ne_of_none e hdn8)]; exact e
            refine ⟨F6, o6, C :: Rs, kf7, to7, dn8, _, _, _, _, rfl, by rw [ek]; exact O6, by rw [List.length_cons]; omega, fun b u e => x8 b u (sm7 b u e), x8 _ _ (z7 _ _ w5 now nwf), x8 _ _ g7, d7, by omega, x8 _ _ od7, t7.keep fun b xs e => x8 b _ e, upd_same, x8 _ _ (z7 _ _ l5 nlo ?_), nlo, l0, by omega⟩
            exact ne_of l5 f5 (by intro q; cases q)
          · walk_at "go"
            refine ⟨F5, o5, Rs, kf5, to5, dn, _, _, _, _, rfl, by rw [ek]; exact O5.skip yin, by omega, sm5, w5, f5, d5, k5, od5, t5, dn5, l5, nlo, l0, by omega⟩
        · rintro l σ H5 ⟨F5, o5, Rs, kf5, to5, dn, y4, y5, y8, y9, rfl, O5, r5, sm5, w5, f5, d5, k5, od5, t5, dn5, l5, nlo, l0, jle⟩
          rw [el, List.take_length] at O5
          walk_at "go"
          refine k H5 od o5 sm5 od0 ⟨to5, od5, t5⟩ (O5.good hn) ?_
          obtain ⟨und, _, e⟩ := O5.inv
          omega
end
end K42

local macro_rules | `(tactic| walk_at "g1") => `(tactic| first
  | (with_reducible refine Kt.s_seq ?_)
  | (with_reducible refine Kt.s_asg ?_)
  | ((with_reducible refine Kt.e_var (v := ?v) ?h ?k); (case h => exact rfl))
  | (with_reducible refine Kt.e_c ?_)
  | (with_reducible refine Kt.g_name ?_)
  | (with_reducible refine Kt.e_op ?_)
  | (with_reducible refine Kt.r_I0 ?_)
  | (with_reducible refine Kt.r_eqI ?_)
  | (with_reducible refine Kt.r_neI ?_)
  | (with_reducible refine Kt.a_cons ?_)
  | (with_reducible refine Kt.a_nil ?_)
  | (with_reducible refine Kt.e_cb ?_)
  | (with_reducible refine Kt.s_next ?_)
  | (with_reducible refine Kt.s_if ?_)
  | (with_reducible refine Kt.s_ret ?_)
  | (with_reducible refine Kt.s_retN ?_)
  | (with_reducible refine Kt.s_drop ?_)
  | (with_reducible refine Kt.s_brk ?_)
  | (with_reducible refine Kt.s_cont ?_)
  | (with_reducible refine Kt.c_test ?_)
  | (with_reducible refine Kt.c_B ?_)
  | (with_reducible refine Kt.c_and ?_)
  | (with_reducible refine Kt.c_or ?_)
  | (with_reducible refine Kt.c_not ?_)
  | (with_reducible refine Kt.x_bl ?_)
  | (with_reducible refine Kt.e_bm ?_)
  | (with_reducible refine Kt.e_bm0 ?_)
  | (with_reducible refine Kt.e_dget ?_)
  | (with_reducible refine Kt.e_din ?_)
  | (with_reducible refine Kt.e_dnin ?_)
  | (with_reducible refine Kt.e_dget2 ?_)
  | (with_reducible refine Kt.s_dput ?_)
  | (with_reducible refine Kt.e_dnewK ?_)
  | (with_reducible refine Kt.e_tup ?_)
  | (with_reducible refine Kt.e_lst ?_)
  | (with_reducible refine Kt.e_call ?_)
  | (with_reducible refine Kt.e_un ?_)
  | (with_reducible refine Kt.r_U ?_)
  | (with_reducible refine Kt.r_int1 ?_)
  | (with_reducible refine Kt.e_if ?_)
  | (with_reducible refine Kt.e_notV ?_)
  | (with_reducible refine Kt.e_andV ?_)
  | (with_reducible refine Kt.e_orV ?_)
  | (with_reducible refine Kt.c_yes ?_)
  | (with_reducible refine Kt.g_sub ?_)
  | (with_reducible refine Kt.e_sl ?_)
  | (with_reducible refine Kt.o_none ?_)
  | (with_reducible refine Kt.o_some ?_)
  | (with_reducible refine Kt.x_part ?_)
  | (with_reducible refine L2.iteT ?_)
  | (with_reducible refine L2.iteF ?_))
local macro_rules | `(tactic| walk_at "go") => `(tactic| repeat walk_at "g1")
namespace K42
open PySem PySem.Spec L2 M42
/-! the purse -/
/-- all but p is kept -/
def Kp (H H' : Hp) (p : Addr) : Prop := ∀ b u, H b = some u → b ≠ p → H' b = some u
theorem Kp.trans {H H1 H2 : Hp} {p : Addr} (a : Kp H H1 p) (b : Kp H1 H2 p) : Kp H H2 p := fun c u e n => b c u (a c u e n) n
theorem Kp.refl (H : Hp) (p : Addr) : Kp H H p := fun _ _ e _ => e
theorem Kp.new {H H1 : Hp} {p q : Addr} {o : HO} (a : Kp H H1 p) (h : H1 q = none) : Kp H (upd H1 q o) p := fun c u e n => by rw [upd_ne (ne_of_none (a c u e n) h)]; exact a c u e n
theorem Kp.put {H H1 : Hp} {p : Addr} {o : HO} (a : Kp H H1 p) : Kp H (upd H1 p o) p := fun c u e n => by rw [upd_ne n]; exact a c u e n
/-- the purse at p, its cells at c -/
structure Pu (H : Hp) (p c : Addr) (zs : List Int) : Prop where
  pu : ∃ i d n s : Int, 0 ≤ i ∧ H p = some (.lst [.ref c, .int i, .int d, .int n, .int s])
  ce : H c = some (.lst (zs.map V.int))
  ne : c ≠ p
  le : zs.length ≤ 63
theorem Pu.same {H H' : Hp} {p c : Addr} {zs : List Int} (h : Pu H p c zs) (s : Same H H') : Pu H' p c zs := by
  obtain ⟨⟨i, d, n, z, h0, e⟩, e2, ne, hl⟩ := h
  exact ⟨⟨i, d, n, z, h0, s _ _ e⟩, s _ _ e2, ne, hl⟩
theorem Kp.free {H H' : Hp} {p q : Addr} (k : Kp H H' p) (hp : ∃ o, H' p = some o) (h : H' q = none) : H q = none := by
  cases e : H q with
  | none => rfl
  | some u =>
    by_cases z : q = p
    · obtain ⟨o, ho⟩ := hp
      rw [z, ho] at h
      cases h
    · rw [k q u e z] at h
      cases h
theorem Pu.at_ {H : Hp} {p c : Addr} {zs : List Int} (h : Pu H p c zs) : ∃ xs, H p = some (.lst xs) := by
  obtain ⟨⟨i, d, n, z, h0, e⟩, _⟩ := h
  exact ⟨_, e⟩
/-- an object that is neither is changed -/
theorem Pu.put {H : Hp} {p c q : Addr} {zs : List Int} {o : HO} (h : Pu H p c zs) (h1 : q ≠ p) (h2 : q ≠ c) : Pu (upd H q o) p c zs := by
  obtain ⟨⟨i, d, n, z, h0, e⟩, e2, ne, hl⟩ := h
  exact ⟨⟨i, d, n, z, h0, by rw [upd_ne h1.symm]; exact e⟩, by rw [upd_ne h2.symm]; exact e2, ne, hl⟩
theorem map_cut (l : List Int) (lo hi : Option Int) : cutV (l.map V.int) lo hi = (((l.drop (HT.sIx l.length 0 lo)).take (HT.sIx l.length l.length hi - HT.sIx l.length 0 lo))).map V.int := by
  unfold cutV
  rw [List.length_map, List.map_take, List.map_drop]
def sp__law_purse (K : PySem.W.Frag) : Sp := fun vs H Q _ => ∃ (a : Addr) (ns : List Int), vs = [.ref a] ∧ SqL K H a (ns.map V.int) ∧ ns.length ≤ 63 ∧ ∀ H' p c zs, Same H H' → H p = none → H c = none → Pu H' p c zs → Q (.ref p) H'
def sp__law_mixed (K : PySem.W.Frag) : Sp := fun vs H Q _ => ∃ (c k : Int), vs = [.int c, .int k] ∧ ∀ r, 0 ≤ r → Q (.int r) H
def sp__law_take (K : PySem.W.Frag) : Sp := fun vs H Q _ => ∃ (p c : Addr) (zs : List Int) (size : Int), vs = [.ref p, .int size] ∧ Pu H p c zs ∧ size ≤ 1000000 ∧
  ∀ r H', Kp H H' p → Pu H' p c zs → 0 ≤ r → (2 ≤ size → r < size) → (size < 2 → r = 0) → Q (.int r) H'
def sp__law_is_integer (K : PySem.W.Frag) : Sp := fun vs H Q _ => ∃ (i : Int), vs = [.int i] ∧ Q (.bl true) H
abbrev st__law_purse : Stmt := topS 4
theorem sc__law_purse : FnScope ["script", "cells", "cell"] ["script"] (defScope st__law_purse) := ⟨rfl, rfl, rfl, by decide +kernel, rfl, by decide +kernel, by decide +kernel⟩
abbrev st__law_mixed : Stmt := topS 5
theorem sc__law_mixed : FnScope ["cell", "k", "once", "twice"] ["cell", "k"] (defScope st__law_mixed) := ⟨rfl, rfl, rfl, by decide +kernel, rfl, by decide +kernel, by decide +kernel⟩
abbrev st__law_take : Stmt := topS 6
theorem sc__law_take : FnScope ["purse", "size", "cells", "cell", "number"] ["purse", "size"] (defScope st__law_take) := ⟨rfl, rfl, rfl, by decide +kernel, rfl, by decide +kernel, by decide +kernel⟩
abbrev st__law_is_integer : Stmt := topS 7
theorem sc__law_is_integer : FnScope ["thing"] ["thing"] (defScope st__law_is_integer) := ⟨rfl, rfl, rfl, by decide +kernel, rfl, by decide +kernel, by decide +kernel⟩
section
variable {P : Program} {w : World} {K : PySem.W.Frag} {mg : Str → Option Value} {base : Heap}
structure T__law_purse (P : Program) (w : World) (K : PySem.W.Frag) (mg : Str → Option Value) (base : Heap) : Prop where
  int_ : mg "int" = none
  sum_ : mg "sum" = none
structure T__law_mixed (P : Program) (w : World) (K : PySem.W.Frag) (mg : Str → Option Value) (base : Heap) : Prop where
  int_ : mg "int" = none
structure T__law_take (P : Program) (w : World) (K : PySem.W.Frag) (mg : Str → Option Value) (base : Heap) : Prop where
  int_ : mg "int" = none
  len_ : mg "len" = none
  c__law_mixed : C8.Cal P w K mg base 1 "_law_mixed" (sp__law_mixed K) []
structure T__law_is_integer (P : Program) (w : World) (K : PySem.W.Frag) (mg : Str → Option Value) (base : Heap) : Prop where
  bool_ : mg "bool" = none
  int_ : mg "int" = none
  isinstance_ : mg "isinstance" = none
theorem ok__law_purse {f : Addr} {fd : FuncData} (F0_ : Fun K "_law_purse" "_law_purse" st__law_purse f fd) (T : T__law_purse P w K mg base) : FnOk P w K mg base CX0 1 f fd ["script"] (sp__law_purse K) := by
  refine F0_.ok sc__law_purse (fun vs H Q E h => ?_) (fun cdv A outer s H vs Q E hr h => ?_)
  · obtain ⟨_, _, rfl, _⟩ := h
    rfl
  · obtain ⟨a, ns, rfl, ha, hn, k⟩ := h
    refine ⟨_, (pss_cons (ps_setLc (i := 1) (own := [("cell", 2)]) (g := (gName 2)) (tt := tYes) (te := (tCB _ (tCons (tVar 2) tNil))) rfl sc__law_purse.nd rfl rfl (sw_true rfl rfl rfl (by decide +kernel)) (pi_list (pe_slice sl_list (pv 0) po_none (po_some pe_int))) (blkOk_by (own := [("cell", 2)]) (N := ["script", "cells", "cell"]) (sc := defScope st__law_purse) (by decide +kernel)) (fun _ _ _ _ _ => (pg_name (i := 2) sc__law_purse.nd rfl (.inl rfl))) (fun _ _ _ _ _ => pts_nil) (fun _ _ _ _ _ => (pe_callTy Kt.cr_int1 (by rfl) T.int_ (by decide +kernel) (pa_cons (pv 2) pa_nil))))
(pss_one (ps_ret (pe_lst (pa_cons (pv 1) (pa_cons pe_int (pa_cons pe_int (pa_cons pe_int (pa_cons (pe_op op_mod (pe_callTy Kt.cr_int1 (by rfl) T.int_ (by decide +kernel) (pa_cons (pe_callB (cr_sum rfl) (by rfl) T.sum_ (by decide +kernel) (pa_cons (pv 1) pa_nil)) pa_nil)) pe_int) pa_nil))))))))), ?_⟩
    dsimp only [L2.cxOf, L2.Cx.nox]
    walk_at "go"
    refine ⟨.ref a, rfl, 63, rfl, a, ns.map V.int, rfl, ha, fun sl hsl => ⟨sl, rfl, ⟨_, .of upd_same⟩, fun D hD => ?_⟩⟩
    rw [map_cut] at hD ⊢
    have hzl : ((ns.drop (HT.sIx ns.length 0 none)).take (HT.sIx ns.length ns.length (some 63) - HT.sIx ns.length 0 none)).length ≤ 63 := by
      rw [List.length_take, List.length_drop]; omega
    generalize (ns.drop (HT.sIx ns.length 0 none)).take (HT.sIx ns.length ns.length (some 63) - HT.sIx ns.length 0 none) = zs at hD hzl ⊢
    have nDs : sl ≠ D := fun e => by rw [← e, upd_same] at hD; cases hD
    have D0 : H D = none := by rw [upd_ne nDs.symm] at hD; exact hD
    refine lc_list (xs := zs.map V.int) (Qd := fun H' => gName 1 (.ref D) _ H' _) (fun j H' => H' = upd (upd H sl (.lst (zs.map V.int))) D (.lst ((zs.take j).map V.int))) rfl ?_ ?_ ?_
    · rintro j H' _ rfl
      exact .of (by rw [upd_ne nDs, upd_same])
    · rintro j x H' hx rfl
      rw [List.getElem?_map] at hx
      cases e : zs[j]? with
      | none => rw [e] at hx; cases hx
      | some z =>
      rw [e] at hx
      cases hx
      have hj := (List.getElem?_eq_some_iff.mp e).1
      walk_at "go"
      refine ⟨rfl, ?_⟩
      walk_at "go"
      refine ⟨_, upd_same, Kt.small (by rw [List.length_map, List.length_take]; omega), ?_⟩
      rw [upd_upd, take_snoc e, List.map_append]
      rfl
    · rintro H' rfl
      rw [List.length_map, List.take_length]
      have e1 : (upd (upd H sl (.lst (zs.map V.int))) D (.lst (zs.map V.int))) D = some (.lst (zs.map V.int)) := upd_same
      have sm : Same H (upd (upd H sl (.lst (zs.map V.int))) D (.lst (zs.map V.int))) := same_mut (same_new hsl) (by rw [upd_ne nDs.symm] at hD; exact hD)
      generalize upd (upd H sl (.lst (zs.map V.int))) D (.lst (zs.map V.int)) = H1 at e1 sm ⊢
      walk_at "go"
      refine Kt.r_sum (.of e1) ?_
      walk_at "go"
      refine Kt.r_I (by decide) ?_
      walk_at "go"
      refine ⟨show (5 : Nat) ≤ sizeLine by decide, fun p hp => ?_⟩
      exact k _ p D zs (sm.trans (same_new hp)) (sm.free hp) D0 ⟨⟨0, 0, 0, _, Int.le_refl _, upd_same⟩, by rw [upd_ne (ne_of_none e1 hp)]; exact e1, ne_of_none e1 hp, hzl⟩
theorem ok__law_mixed {f : Addr} {fd : FuncData} (F0_ : Fun K "_law_mixed" "_law_mixed" st__law_mixed f fd) (T : T__law_mixed P w K mg base) : FnOk P w K mg base CX0 1 f fd ["cell", "k"] (sp__law_mixed K) := by
  refine F0_.ok sc__law_mixed (fun vs H Q E h => ?_) (fun cdv A outer s H vs Q E hr h => ?_)
  · obtain ⟨_, _, rfl, _⟩ := h
    rfl
  · obtain ⟨c, k, rfl, q⟩ := h
    refine ⟨_, (pss_cons (ps_set (i := 2) sc__law_mixed.nd rfl (.inl rfl) (pe_op op_mod (pe_callTy Kt.cr_int1 (by rfl) T.int_ (by decide +kernel) (pa_cons (pe_op op_add (pe_op op_add (pe_op op_mul (pe_op op_mod (pe_callTy Kt.cr_int1 (by rfl) T.int_ (by decide +kernel) (pa_cons (pv 0) pa_nil)) pe_int) pe_int) (pe_op op_mul (pv 1) pe_int)) pe_int) pa_nil)) pe_int))
(pss_cons (ps_set (i := 3) sc__law_mixed.nd rfl (.inl rfl) (pe_op op_mod (pe_callTy Kt.cr_int1 (by rfl) T.int_ (by decide +kernel) (pa_cons (pe_op op_add (pe_op op_mul (pv 2) (pv 2)) (pv 1)) pa_nil)) pe_int))
(pss_one (ps_ret (pe_op op_fdivW (pe_op op_mod (pe_callTy Kt.cr_int1 (by rfl) T.int_ (by decide +kernel) (pa_cons (pe_op op_mul (pe_op op_add (pv 3) pe_int) (pe_op op_add (pe_op op_fdivW (pv 3) pe_int) pe_int)) pa_nil)) pe_int) pe_int))))), ?_⟩
    try dsimp only [L2.cxOf, L2.Cx.nox]
    walk_at "go"
    refine Kt.r_I (by decide) ?_
    walk_at "go"
    refine Kt.r_I (.inr (by decide)) ?_
    walk_at "go"
    refine Kt.r_I (.inr (by decide)) ?_
    walk_at "go"
    refine Kt.r_I (by decide) ?_
    have b1 := Int.emod_nonneg (c % 2147483629 * 48271 + k * 69621 + 11) (show (2147483647 : Int) ≠ 0 by decide)
    have b2 := Int.emod_lt_of_pos (c % 2147483629 * 48271 + k * 69621 + 11) (show (0 : Int) < 2147483647 by decide)
    generalize (c % 2147483629 * 48271 + k * 69621 + 11) % 2147483647 = once at b1 b2 ⊢
    walk_at "go"
    refine Kt.r_I (.inl ⟨by omega, by omega⟩) ?_
    walk_at "go"
    refine Kt.r_I (by decide) ?_
    have b3 := Int.emod_nonneg (once * once + k) (show (2147483587 : Int) ≠ 0 by decide)
    have b4 := Int.emod_lt_of_pos (once * once + k) (show (0 : Int) < 2147483587 by decide)
    generalize (once * once + k) % 2147483587 = tw at b3 b4 ⊢
    walk_at "go"
    refine Kt.r_I ⟨by decide, by decide +kernel⟩ ?_
    walk_at "go"
    refine Kt.r_I (.inl ⟨by omega, by omega⟩) ?_
    walk_at "go"
    refine Kt.r_I (by decide) ?_
    have b5 := Int.emod_nonneg ((tw + 7) * (tw / 3 + 11)) (show (2147483629 : Int) ≠ 0 by decide)
    generalize (tw + 7) * (tw / 3 + 11) % 2147483629 = z at b5 ⊢
    walk_at "go"
    refine Kt.r_I ⟨by decide, by decide +kernel⟩ ?_
    exact q _ (by omega)
theorem shaped_ints (l : List Int) : SeqAt.shaped (.list (l.map PyData.int)) = true := by
  have h1 : PyData.canLayAll0 (l.map PyData.int) = true := by
    induction l with
    | nil => rfl
    | cons a l ih => simp only [List.map_cons, PyData.canLayAll0, PyData.canLay0, ih, Bool.and_self]
  have h2 : PyData.depthAll (l.map PyData.int) ≤ 1 := by
    clear h1
    induction l with
    | nil => exact Nat.zero_le _
    | cons a l ih => simp only [List.map_cons, PyData.depthAll, PyData.depth]; omega
  unfold SeqAt.shaped
  simp only [PyData.canLay0, PyData.depth, h1, Bool.true_and, decide_eq_true_eq]
  exact decide_eq_true (Nat.le_trans (Nat.add_le_add_right h2 1) (show 1 + 1 ≤ 64 by decide))
theorem dp_ints {K : PySem.W.Frag} {H : Hp} (l : List Int) : DpAll K H (l.map V.int) (l.map PyData.int) := by
  induction l with
  | nil => exact .nil
  | cons a l ih => exact .cons (.int a) ih
theorem eqv_nil (l : List Int) : PyData.eqv (.list (l.map PyData.int)) (.list []) = decide (l = []) := by
  cases l with
  | nil => rfl
  | cons a l => simp [PyData.eqv, PyData.eqvAll]
theorem ok__law_take {f : Addr} {fd : FuncData} (F0_ : Fun K "_law_take" "_law_take" st__law_take f fd) (T : T__law_take P w K mg base) : FnOk P w K mg base CX0 2 f fd ["purse", "size"] (sp__law_take K) := by
  refine F0_.ok sc__law_take (fun vs H Q E h => ?_) (fun cdv A outer s H vs Q E hr h => ?_)
  · obtain ⟨_, _, _, _, rfl, _⟩ := h
    rfl
  · obtain ⟨p, c, zs, size, rfl, ⟨⟨i, d, n, su, i0, hp⟩, hc, ncp, hzl⟩, hsz, k⟩ := h
    refine ⟨_, (pss_cons (ps_set (i := 2) sc__law_take.nd rfl (.inl rfl) (pe_ix ix_list (pv 0) pe_int (fun _ _ => rfl)))
(pss_cons (ps_if (PW.pt (pw_or (pt_cmpR (op_eqD hr.units) (pv 2) (pe_lst pa_nil) (nomark _)) (pw_or1 (pt_cmpR op_lt (pv 1) pe_int (nomark _)))))
(pss_one (ps_ret pe_int))
pss_nil)
(pss_cons (ps_asg (pe_op op_add (pe_ix ix_list (pv 0) pe_int (fun _ _ => rfl)) pe_int) (pg_sub (pv 0) pe_int set_list))
(pss_cons (ps_if (pt_cmpR op_ge (pe_ix ix_list (pv 0) pe_int (fun _ _ => rfl)) (pe_callB Kt.cr_len (by rfl) T.len_ PySem.boot_len (pa_cons (pv 2) pa_nil)) (nomark _))
(pss_one (ps_ret (pe_op op_mod (pe_callTy Kt.cr_int1 (by rfl) T.int_ (by decide +kernel) (pa_cons (C8.pe_c T.c__law_mixed hr (by decide) rfl (pa_cons (pe_ix ix_list (pv 0) pe_int (fun _ _ => rfl)) (pa_cons (pe_ix ix_list (pv 0) pe_int (fun _ _ => rfl)) pa_nil))) pa_nil)) (pv 1))))
pss_nil)
(pss_cons (ps_set (i := 3) sc__law_take.nd rfl (.inl rfl) (pe_ix ix_list (pv 2) (pe_ix ix_list (pv 0) pe_int (fun _ _ => rfl)) (fun _ _ => rfl)))
(pss_cons (ps_if (pt_cmpR op_lt (pv 3) (pe_op op_pow pe_int pe_int) (nomark _))
(pss_cons (ps_asg (pe_op op_add (pe_ix ix_list (pv 0) pe_int (fun _ _ => rfl)) pe_int) (pg_sub (pv 0) pe_int set_list))
(pss_cons (ps_if (pt_cmpR op_eq (pe_ix ix_list (pv 0) pe_int (fun _ _ => rfl)) pe_int (nomark _))
(pss_cons (ps_asg (pe_op op_add (pe_ix ix_list (pv 0) pe_int (fun _ _ => rfl)) pe_int) (pg_sub (pv 0) pe_int set_list))
(pss_one (ps_asg pe_int (pg_sub (pv 0) pe_int set_list))))
pss_nil)
(pss_one (ps_ret (pe_op op_mod (pe_callTy Kt.cr_int1 (by rfl) T.int_ (by decide +kernel) (pa_cons (C8.pe_c T.c__law_mixed hr (by decide) rfl (pa_cons (pv 3) (pa_cons (pe_ix ix_list (pv 0) pe_int (fun _ _ => rfl)) pa_nil))) pa_nil)) (pv 1))))))
pss_nil)
(pss_cons (ps_if (pt_cmpR op_eq (pe_ix ix_list (pv 0) pe_int (fun _ _ => rfl)) pe_int (nomark _))
(pss_one (ps_asg (pv 3) (pg_sub (pv 0) pe_int set_list)))
pss_nil)
(pss_cons (ps_set (i := 4) sc__law_take.nd rfl (.inl rfl) (pe_op op_mod (pe_callTy Kt.cr_int1 (by rfl) T.int_ (by decide +kernel) (pa_cons (pe_ix ix_list (pv 0) pe_int (fun _ _ => rfl)) pa_nil)) (pv 1)))
(pss_cons (ps_asg (pe_op op_fdivW (pe_callTy Kt.cr_int1 (by rfl) T.int_ (by decide +kernel) (pa_cons (pe_ix ix_list (pv 0) pe_int (fun _ _ => rfl)) pa_nil)) (pv 1)) (pg_sub (pv 0) pe_int set_list))
(pss_cons (ps_if (pt_cmpR op_eq (pe_ix ix_list (pv 0) pe_int (fun _ _ => rfl)) pe_int (nomark _))
(pss_one (ps_asg (pe_op op_add (pe_ix ix_list (pv 0) pe_int (fun _ _ => rfl)) pe_int) (pg_sub (pv 0) pe_int set_list)))
pss_nil)
(pss_one (ps_ret (pv 4))))))))))))), ?_⟩
    dsimp only [L2.cxOf, L2.Cx.nox]
    walk_at "go"
    refine Kt.r_ixLn 0 rfl (.of hp) rfl ?_
    walk_at "go"
    refine ⟨Nat.zero_le _, fun e he => ?_⟩
    have h1 : (upd H e (.lst [])) p = some (.lst [.ref c, .int i, .int d, .int n, .int su]) := by rw [upd_ne (ne_of_none hp he)]; exact hp
    have h2 : (upd H e (.lst [])) c = some (.lst (zs.map V.int)) := by rw [upd_ne (ne_of_none hc he)]; exact hc
    have h3 : (upd H e (.lst [])) e = some (.lst []) := upd_same
    have kp : Kp H (upd H e (.lst [])) p := (Kp.refl H p).new he
    generalize upd H e (.lst []) = H1 at h1 h2 h3 kp ⊢
    refine ⟨.list (zs.map PyData.int), .list [], .lst (.of h2) (dp_ints zs), .lst (.of h3) .nil, shaped_ints zs, shaped_ints [], ?_⟩
    rw [eqv_nil]
    -- the end: a purse with any counts, a number of the size
    have fin : ∀ (i' d' n' r : Int) (H' : Hp), Kp H H' p → 0 ≤ i' → H' p = some (.lst [.ref c, .int i', .int d', .int n', .int su]) → 0 ≤ r → (2 ≤ size → r < size) → (size < 2 → r = 0) → Q (.int r) H' := fun i' d' n' r H' a1 a2 a3 a4 a5 a6 =>
      k r H' a1 ⟨⟨i', d', n', su, a2, a3⟩, a1 _ _ hc ncp, ncp, hzl⟩ a4 a5 a6
    have md : ∀ x : Int, 2 ≤ size → 0 ≤ x % size ∧ x % size < size := fun x h => ⟨Int.emod_nonneg x (by omega), Int.emod_lt_of_pos x (by omega)⟩
    walk_at "go"
    refine Kt.if_dec (fun hz => ?_) (fun hz => ?_)
    · walk_at "go"
      by_cases hs2 : 2 ≤ size
      · -- no cells: 0
        exact fin i d n 0 H1 kp i0 h1 (Int.le_refl _) (fun h => by omega) (fun _ => rfl)
      · exact fin i d n 0 H1 kp i0 h1 (Int.le_refl _) (fun h => by omega) (fun _ => rfl)
    walk_at "go"
    refine Kt.if_dec (fun hs => ?_) (fun hs => ?_)
    · walk_at "go"
      exact fin i d n 0 H1 kp i0 h1 (Int.le_refl _) (fun h => by omega) (fun _ => rfl)
    have hs2 : 2 ≤ size := by omega
    have wd : CDivW (V.int size |> fun _ => (0 : Int)) size := ⟨by omega, Nat.lt_of_lt_of_le (PySem.Flt.log2_lt_of (k := 20) (by decide) (by omega)) (by decide)⟩
    walk_at "go"
    refine Kt.r_ixLn 3 rfl (.of h1) rfl ?_
    walk_at "go"
    refine Kt.r_setL 3 rfl h1 (by simp) ?_
    have h4 : (upd H1 p (.lst ([V.ref c, .int i, .int d, .int n, .int su].set 3 (.int (n + 1))))) p = some (.lst [.ref c, .int i, .int d, .int (n + 1), .int su]) := upd_same
    have h5 : (upd H1 p (.lst ([V.ref c, .int i, .int d, .int n, .int su].set 3 (.int (n + 1))))) c = some (.lst (zs.map V.int)) := by rw [upd_ne ncp]; exact h2
    have kp2 : Kp H (upd H1 p (.lst ([V.ref c, .int i, .int d, .int n, .int su].set 3 (.int (n + 1))))) p := kp.put
    generalize upd H1 p (.lst ([V.ref c, .int i, .int d, .int n, .int su].set 3 (.int (n + 1)))) = H2 at h4 h5 kp2 ⊢
    walk_at "go"
    refine Kt.r_ixLn 1 rfl (.of h4) rfl ?_
    walk_at "go"
    refine Kt.r_lenL h5 ?_
    walk_at "go"
    refine Kt.if_dec (fun hi => ?_) (fun hi => ?_)
    · walk_at "go"
      refine Kt.r_ixLn 4 rfl (.of h4) rfl ?_
      walk_at "go"
      refine Kt.r_ixLn 3 rfl (.of h4) rfl ?_
      walk_at "go"
      refine ⟨_, _, rfl, fun r hr0 => ?_⟩
      walk_at "go"
      refine Kt.r_I (by show 0 < size; omega) ?_
      exact fin i d _ _ H2 kp2 i0 h4 (md r hs2).1 (fun _ => (md r hs2).2) (fun h => by omega)
    walk_at "go"
    refine Kt.r_ixLn 1 rfl (.of h4) rfl ?_
    rw [List.length_map] at hi
    have hi2 : i.toNat < zs.length := by omega
    have hzi : (zs.map V.int)[i.toNat]? = some (.int zs[i.toNat]) := by rw [List.getElem?_map, List.getElem?_eq_getElem hi2]; rfl
    refine Kt.r_ixLn i.toNat (by omega) (.of h5) hzi ?_
    generalize zs[i.toNat] = z
    walk_at "go"
    refine Kt.r_I ⟨by decide, by decide, by decide⟩ ?_
    walk_at "go"
    refine Kt.if_dec (fun hlt => ?_) (fun hlt => ?_)
    · walk_at "go"
      refine Kt.r_ixLn 2 rfl (.of h4) rfl ?_
      walk_at "go"
      refine Kt.r_setL 2 rfl h4 (by simp) ?_
      have h6 : (upd H2 p (.lst ([V.ref c, .int i, .int d, .int (n + 1), .int su].set 2 (.int (d + 1))))) p = some (.lst [.ref c, .int i, .int (d + 1), .int (n + 1), .int su]) := upd_same
      have kp3 : Kp H (upd H2 p (.lst ([V.ref c, .int i, .int d, .int (n + 1), .int su].set 2 (.int (d + 1))))) p := kp2.put
      generalize upd H2 p (.lst ([V.ref c, .int i, .int d, .int (n + 1), .int su].set 2 (.int (d + 1)))) = H3 at h6 kp3 ⊢
      walk_at "go"
      refine Kt.r_ixLn 2 rfl (.of h6) rfl ?_
      walk_at "go"
      refine Kt.if_dec (fun h9 => ?_) (fun h9 => ?_)
      · walk_at "go"
        refine Kt.r_ixLn 1 rfl (.of h6) rfl ?_
        walk_at "go"
        refine Kt.r_setL 1 rfl h6 (by simp) ?_
        walk_at "go"
        refine Kt.r_setL 2 rfl upd_same (by simp) ?_
        walk_at "go"
        refine Kt.r_ixLn 3 rfl (.of upd_same) rfl ?_
        walk_at "go"
        refine ⟨_, _, rfl, fun r hr0 => ?_⟩
        walk_at "go"
        refine Kt.r_I (by show 0 < size; omega) ?_
        exact fin (i + 1) 0 _ _ _ kp3.put.put (by omega) upd_same (md r hs2).1 (fun _ => (md r hs2).2) (fun h => by omega)
      · walk_at "go"
        refine Kt.r_ixLn 3 rfl (.of h6) rfl ?_
        walk_at "go"
        refine ⟨_, _, rfl, fun r hr0 => ?_⟩
        walk_at "go"
        refine Kt.r_I (by show 0 < size; omega) ?_
        exact fin i _ _ _ _ kp3 i0 h6 (md r hs2).1 (fun _ => (md r hs2).2) (fun h => by omega)
    · -- a great cell
      walk_at "go"
      refine Kt.r_ixLn 2 rfl (.of h4) rfl ?_
      walk_at "go"
      -- from here on: some rest d', then a digit of it
      have rest : ∀ (d' : Int) (H3 : Hp), Kp H H3 p → H3 p = some (.lst [.ref c, .int i, .int d', .int (n + 1), .int su]) →
          tSeq (tAsg (tOp (rI (fun x j => 0 < j) fun i j => V.int (i % j)) (tCB Kt.rInt1 (tCons (tOp (rIxL K) (tVar 0) (tC (V.int 2))) tNil)) (tVar 1)) (gName 4))
          (tSeq (tAsg (tOp (rI CDivW fun i j => V.int (i / j)) (tCB Kt.rInt1 (tCons (tOp (rIxL K) (tVar 0) (tC (V.int 2))) tNil)) (tVar 1)) (gSub (tVar 0) (tC (V.int 2)) rSetL))
          (tSeq (tIfS (tTest (tOp rEq (tOp (rIxL K) (tVar 0) (tC (V.int 2))) (tC (V.int 0))))
                  (tAsg (tOp (rI0 fun i j => V.int (i + j)) (tOp (rIxL K) (tVar 0) (tC (V.int 1))) (tC (V.int 1))) (gSub (tVar 0) (tC (V.int 1)) rSetL)) tNext)
                (tRet (tVar 4)))) { nx := fun x H' => Q V.non H', rt := Q } [some (.ref p), some (.int size), some (.ref c), some (.int z), none] H3 := by
        intro d' H3 q1 q2
        walk_at "go"
        refine Kt.r_ixLn 2 rfl (.of q2) rfl ?_
        walk_at "go"
        refine Kt.r_I (by show 0 < size; omega) ?_
        walk_at "go"
        refine Kt.r_ixLn 2 rfl (.of q2) rfl ?_
        walk_at "go"
        refine Kt.r_I wd ?_
        walk_at "go"
        refine Kt.r_setL 2 rfl q2 (by simp) ?_
        have h6 : (upd H3 p (.lst ([V.ref c, .int i, .int d', .int (n + 1), .int su].set 2 (.int (d' / size))))) p = some (.lst [.ref c, .int i, .int (d' / size), .int (n + 1), .int su]) := upd_same
        have kp3 : Kp H (upd H3 p (.lst ([V.ref c, .int i, .int d', .int (n + 1), .int su].set 2 (.int (d' / size))))) p := q1.put
        generalize upd H3 p (.lst ([V.ref c, .int i, .int d', .int (n + 1), .int su].set 2 (.int (d' / size)))) = H4 at h6 kp3 ⊢
        walk_at "go"
        refine Kt.r_ixLn 2 rfl (.of h6) rfl ?_
        walk_at "go"
        refine Kt.if_dec (fun h9 => ?_) (fun h9 => ?_)
        · walk_at "go"
          refine Kt.r_ixLn 1 rfl (.of h6) rfl ?_
          walk_at "go"
          refine Kt.r_setL 1 rfl h6 (by simp) ?_
          walk_at "go"
          exact fin (i + 1) _ _ _ _ kp3.put (by omega) upd_same (md d' hs2).1 (fun _ => (md d' hs2).2) (fun h => by omega)
        · walk_at "go"
          exact fin i _ _ _ _ kp3 i0 h6 (md d' hs2).1 (fun _ => (md d' hs2).2) (fun h => by omega)
      refine Kt.if_dec (fun h0 => ?_) (fun h0 => ?_)
      · walk_at "go"
        refine Kt.r_setL 2 rfl h4 (by simp) ?_
        exact rest z _ kp2.put upd_same
      · exact rest d H2 kp2 h4
theorem ok__law_is_integer {f : Addr} {fd : FuncData} (F0_ : Fun K "_law_is_integer" "_law_is_integer" st__law_is_integer f fd) (T : T__law_is_integer P w K mg base) : FnOk P w K mg base CX0 1 f fd ["thing"] (sp__law_is_integer K) := by
  refine F0_.ok sc__law_is_integer (fun vs H Q E h => ?_) (fun cdv A outer s H vs Q E hr h => ?_)
  · obtain ⟨_, rfl, _⟩ := h
    rfl
  · obtain ⟨i, rfl, q⟩ := h
    refine ⟨_, (pss_one (ps_ret (pe_and (pe_callB call_isi (by rfl) T.isinstance_ (by decide +kernel) (pa_cons (pv 0) (pa_cons (pe_bltn (v := .ty "int") (u := Value.type "int") (by rfl) T.int_ (by decide +kernel) rfl) pa_nil))) (pe_one (pe_not (pe_callB call_isi (by rfl) T.isinstance_ (by decide +kernel) (pa_cons (pv 0) (pa_cons (pe_bltn (v := .ty "bool") (u := Value.type "bool") (by rfl) T.bool_ (by decide +kernel) rfl) pa_nil)))))))), ?_⟩
    try dsimp only [L2.cxOf, L2.Cx.nox]
    walk_at "go"
    refine Kt.r_isi (k := true) (.ty "int") (.base (.int i)) (kit_ty (by decide +kernel)) ?_
    walk_at "go"
    refine Kt.r_isi (k := false) (.ty "bool") (.base (.int i)) (kit_ty (by decide +kernel)) ?_
    walk_at "go"
    exact q
end
end K42

local macro_rules | `(tactic| walk_at "g1") => `(tactic| first
  | (with_reducible refine Kt.s_seq ?_)
  | (with_reducible refine Kt.s_asg ?_)
  | ((with_reducible refine Kt.e_var (v := ?v) ?h ?k); (case h => exact rfl))
  | (with_reducible refine Kt.e_c ?_)
  | (with_reducible refine Kt.g_name ?_)
  | (with_reducible refine Kt.e_op ?_)
  | (with_reducible refine Kt.r_I0 ?_)
  | (with_reducible refine Kt.r_eqI ?_)
  | (with_reducible refine Kt.r_neI ?_)
  | (with_reducible refine Kt.a_cons ?_)
  | (with_reducible refine Kt.a_nil ?_)
  | (with_reducible refine Kt.e_cb ?_)
  | (with_reducible refine Kt.s_next ?_)
  | (with_reducible refine Kt.s_if ?_)
  | (with_reducible refine Kt.s_ret ?_)
  | (with_reducible refine Kt.s_retN ?_)
  | (with_reducible refine Kt.s_drop ?_)
  | (with_reducible refine Kt.s_brk ?_)
  | (with_reducible refine Kt.s_cont ?_)
  | (with_reducible refine Kt.c_test ?_)
  | (with_reducible refine Kt.c_B ?_)
  | (with_reducible refine Kt.c_and ?_)
  | (with_reducible refine Kt.c_or ?_)
  | (with_reducible refine Kt.c_not ?_)
  | (with_reducible refine Kt.x_bl ?_)
  | (with_reducible refine Kt.e_bm ?_)
  | (with_reducible refine Kt.e_bm0 ?_)
  | (with_reducible refine Kt.e_dget ?_)
  | (with_reducible refine Kt.e_din ?_)
  | (with_reducible refine Kt.e_dnin ?_)
  | (with_reducible refine Kt.e_dget2 ?_)
  | (with_reducible refine Kt.s_dput ?_)
  | (with_reducible refine Kt.e_dnewK ?_)
  | (with_reducible refine Kt.e_tup ?_)
  | (with_reducible refine Kt.e_lst ?_)
  | (with_reducible refine Kt.e_call ?_)
  | (with_reducible refine Kt.e_un ?_)
  | (with_reducible refine Kt.r_U ?_)
  | (with_reducible refine Kt.r_int1 ?_)
  | (with_reducible refine Kt.e_if ?_)
  | (with_reducible refine Kt.e_notV ?_)
  | (with_reducible refine Kt.e_andV ?_)
  | (with_reducible refine Kt.e_orV ?_)
  | (with_reducible refine Kt.c_yes ?_)
  | (with_reducible refine Kt.g_sub ?_)
  | (with_reducible refine Kt.e_sl ?_)
  | (with_reducible refine Kt.o_none ?_)
  | (with_reducible refine Kt.o_some ?_)
  | (with_reducible refine Kt.x_part ?_)
  | (with_reducible refine L2.iteT ?_)
  | (with_reducible refine L2.iteF ?_))
local macro_rules | `(tactic| walk_at "go") => `(tactic| repeat walk_at "g1")
namespace K42
open PySem PySem.Spec L2 M42
theorem Pu.some {H : Hp} {p c : Addr} {zs : List Int} (h : Pu H p c zs) : ∃ o, H p = some o := let ⟨xs, e⟩ := h.at_; ⟨_, e⟩
theorem Prs.kp {H H' : Hp} {l p : Addr} {ms : List Mv} (h : Prs H l ms) (n : l ≠ p) (hp : ∃ xs, H p = some (.lst xs)) (k : Kp H H' p) : Prs H' l ms := by
  obtain ⟨ts, h1, h2⟩ := h
  obtain ⟨xs, hp⟩ := hp
  exact ⟨ts, k _ _ h1 n, h2.keep fun b ys e => k b _ e (by rintro rfl; rw [hp] at e; cases e)⟩
theorem Prs.same {H H' : Hp} {l : Addr} {ms : List Mv} (h : Prs H l ms) (s : Same H H') : Prs H' l ms := by
  obtain ⟨ts, h1, h2⟩ := h
  exact ⟨ts, s _ _ h1, h2.keep fun b ys e => s b _ e⟩
/-- a new pair at the end -/
theorem Prs.snoc {H : Hp} {l t : Addr} {ts : List Addr} {ms : List Mv} {a b : Int} (h1 : H l = some (.lst (ts.map V.ref))) (h2 : PrT H ts ms) (ht : H t = none) :
    Prs (upd (upd H t (.tup [.int a, .int b])) l (.lst (ts.map V.ref ++ [.ref t]))) l (ms ++ [(a, b)]) := by
  refine ⟨ts ++ [t], by rw [upd_same, List.map_append]; rfl, ?_⟩
  have nl : t ≠ l := (ne_of_none h1 ht).symm
  refine PrT.snoc (h2.keep fun c xs e => ?_) (by rw [upd_ne nl, upd_same])
  rw [upd_ne (by rintro rfl; rw [h1] at e; cases e), upd_ne (ne_of_none e ht)]
  exact e
def Rng (N : Int) (ms : List Mv) : Prop := ∀ q ∈ ms, 0 ≤ q.1 ∧ q.1 < N ∧ 0 ≤ q.2 ∧ q.2 < N
theorem Rng.snoc {N : Int} {ms : List Mv} (h : Rng N ms) {a b : Int} (h1 : 0 ≤ a ∧ a < N ∧ 0 ≤ b ∧ b < N) : Rng N (ms ++ [(a, b)]) := fun q hq => by
  rcases List.mem_append.mp hq with hq | hq
  · exact h q hq
  · have e : q = (a, b) := by simpa using hq
    rw [e]; exact h1
theorem nodup_snoc {ms : List Mv} (h : (ms.map (·.1)).Nodup) {a b : Int} (n : ∀ q ∈ ms, q.1 < a) : ((ms ++ [(a, b)]).map (·.1)).Nodup := by
  rw [List.map_append, List.nodup_append]
  refine ⟨h, by simp, fun x hx y hy e => ?_⟩
  obtain ⟨q, hq, eq⟩ := List.mem_map.mp hx
  have e2 : y = a := by simpa using hy
  have := n q hq
  omega
/-- what the makers of pairs hand back -/
def PostL (H : Hp) (p c : Addr) (zs : List Int) (N : Int) (M : Nat) (Q : VK) : Prop := ∀ H' l ms, Kp H H' p → Pu H' p c zs → H l = none → Prs H' l ms → (ms.map (·.1)).Nodup → Rng N ms → ms.length ≤ M → Q (.ref l) H'
def sp__law_free (K : PySem.W.Frag) : Sp := fun vs H Q _ => ∃ (p c : Addr) (zs : List Int) (many : Int), vs = [.ref p, .int many] ∧ Pu H p c zs ∧ 0 ≤ many ∧ many ≤ 47 ∧ PostL H p c zs 101 47 Q
def sp__law_rings (K : PySem.W.Frag) : Sp := fun vs H Q _ => ∃ (p c : Addr) (zs : List Int) (al : Bool), vs = [.ref p, .bl al] ∧ Pu H p c zs ∧ PostL H p c zs 101 47 Q
def sp__law_moves (K : PySem.W.Frag) : Sp := fun vs H Q _ => ∃ (p c : Addr) (zs : List Int), vs = [.ref p] ∧ Pu H p c zs ∧ PostL H p c zs 101 47 Q
def sp__law_spare (K : PySem.W.Frag) : Sp := fun vs H Q _ => ∃ (p c m : Addr) (zs : List Int) (ms : List Mv), vs = [.ref p, .ref m] ∧ Pu H p c zs ∧ Prs H m ms ∧ m ≠ p ∧ Rng 101 ms ∧ ms.length ≤ 47 ∧
  ∀ H' s, Kp H H' p → Pu H' p c zs → (∀ q ∈ ms, q.1 ≠ s ∧ q.2 ≠ s) → Q (.int s) H'
structure RI (H0 H1 : Hp) (p c l : Addr) (zs : List Int) (many : Int) (ms : List Mv) : Prop where
  kp : Kp H0 H1 p
  pu : Pu H1 p c zs
  pl : Prs H1 l ms
  nd : (ms.map (·.1)).Nodup
  rg : Rng 101 ms
  lt : ∀ q ∈ ms, q.1 < many
  ll : (ms.length : Int) ≤ many
theorem RI.call {H0 H1 H2 : Hp} {p c l : Addr} {zs : List Int} {many : Int} {ms : List Mv} (h : RI H0 H1 p c l zs many ms) (nlp : l ≠ p) (k : Kp H1 H2 p) (pu : Pu H2 p c zs) : RI H0 H2 p c l zs many ms :=
  ⟨h.kp.trans k, pu, h.pl.kp nlp h.pu.at_ k, h.nd, h.rg, h.lt, h.ll⟩
theorem RI.more {H0 H1 : Hp} {p c l : Addr} {zs : List Int} {many m2 : Int} {ms : List Mv} (h : RI H0 H1 p c l zs many ms) (le : many ≤ m2) : RI H0 H1 p c l zs m2 ms :=
  ⟨h.kp, h.pu, h.pl, h.nd, h.rg, fun q hq => by have := h.lt q hq; omega, by have := h.ll; omega⟩
theorem RI.add {H0 H1 : Hp} {p c l t : Addr} {zs : List Int} {many a b : Int} {ts : List Addr} {ms : List Mv} (h : RI H0 H1 p c l zs many ms) (hl : H0 l = none) (nlp : l ≠ p) (nlc : l ≠ c) (e : H1 l = some (.lst (ts.map V.ref))) (pt : PrT H1 ts ms) (htn : H1 t = none)
    (ha : a = many) (h0 : 0 ≤ many) (h1 : many < 101) (h2 : 0 ≤ b ∧ b < 101) : RI H0 (upd (upd H1 t (.tup [.int a, .int b])) l (.lst (ts.map V.ref ++ [.ref t]))) p c l zs (many + 1) (ms ++ [(a, b)]) := by
  subst ha
  refine ⟨fun x u ex ne => ?_, (h.pu.same (same_new htn)).put nlp nlc, Prs.snoc e pt htn, nodup_snoc h.nd h.lt, h.rg.snoc ⟨h0, h1, h2⟩, fun q hq => ?_, ?_⟩
  · have e4 := h.kp x u ex ne
    rw [upd_ne (ne_of_none ex hl), upd_ne (ne_of_none e4 htn)]
    exact e4
  · rcases List.mem_append.mp hq with hq | hq
    · have := h.lt q hq; omega
    · have e : q = (a, b) := by simpa using hq
      rw [e]
      show a < a + 1
      omega
  · rw [List.length_append, List.length_singleton]
    have := h.ll
    omega
/-! the numbers of the places -/
theorem cop101 : ∀ s : Nat, s < 101 → 0 < s → Nat.gcd 101 s = 1 := by decide +kernel
def gOf (stride shift x : Int) : Int := (x * stride + shift) % 101
theorem gOf_inj {stride shift : Int} (h1 : 1 ≤ stride) (h2 : stride ≤ 100) {a b : Int} (ha : 0 ≤ a ∧ a < 101) (hb : 0 ≤ b ∧ b < 101) (e : gOf stride shift a = gOf stride shift b) : a = b := by
  unfold gOf at e
  have d1 : ((a * stride + shift) - (b * stride + shift)) % 101 = 0 := Int.emod_eq_emod_iff_emod_sub_eq_zero.mp e
  have d2 : (a * stride + shift) - (b * stride + shift) = (a - b) * stride := by rw [Int.sub_mul]; omega
  rw [d2] at d1
  have d3 : (101 : Int) ∣ (a - b) * stride := Int.dvd_of_emod_eq_zero d1
  have d4 : 101 ∣ ((a - b) * stride).natAbs := by
    have := Int.natAbs_dvd_natAbs.mpr d3
    simpa using this
  rw [Int.natAbs_mul] at d4
  have cp : Nat.Coprime 101 stride.natAbs := cop101 stride.natAbs (by omega) (by omega)
  have d5 := cp.dvd_of_dvd_mul_right d4
  have d6 : (a - b).natAbs < 101 := by omega
  have d7 : (a - b).natAbs = 0 := Nat.eq_zero_of_dvd_of_lt d5 d6
  omega
def mapG (stride shift : Int) (ms : List Mv) : List Mv := ms.map fun q => (gOf stride shift q.1, gOf stride shift q.2)
theorem nodup_map {α β : Type} {f : α → β} : ∀ {l : List α}, l.Nodup → (∀ x ∈ l, ∀ y ∈ l, f x = f y → x = y) → (l.map f).Nodup
  | [], _, _ => .nil
  | a :: l, h, inj => by
    rw [List.nodup_cons] at h
    rw [List.map_cons, List.nodup_cons]
    refine ⟨fun hm => ?_, nodup_map h.2 fun x hx y hy => inj x (List.mem_cons_of_mem _ hx) y (List.mem_cons_of_mem _ hy)⟩
    obtain ⟨b, hb, e⟩ := List.mem_map.mp hm
    exact h.1 (by rw [inj a (List.mem_cons_self ..) b (List.mem_cons_of_mem _ hb) e.symm]; exact hb)
theorem mapG_nodup {stride shift : Int} (h1 : 1 ≤ stride) (h2 : stride ≤ 100) {ms : List Mv} (nd : (ms.map (·.1)).Nodup) (rg : Rng 101 ms) : ((mapG stride shift ms).map (·.1)).Nodup := by
  have e : (mapG stride shift ms).map (·.1) = (ms.map (·.1)).map (gOf stride shift) := by
    unfold mapG
    rw [List.map_map, List.map_map]
    rfl
  rw [e]
  refine nodup_map nd fun x hx y hy => ?_
  obtain ⟨q, hq, rfl⟩ := List.mem_map.mp hx
  obtain ⟨z, hz, rfl⟩ := List.mem_map.mp hy
  have a := rg q hq
  have b := rg z hz
  exact gOf_inj h1 h2 ⟨a.1, a.2.1⟩ ⟨b.1, b.2.1⟩
theorem gOf_rng (stride shift x : Int) : 0 ≤ gOf stride shift x ∧ gOf stride shift x < 101 := ⟨Int.emod_nonneg _ (by decide), Int.emod_lt_of_pos _ (by decide)⟩
theorem mapG_rng (stride shift : Int) (ms : List Mv) : Rng 101 (mapG stride shift ms) := fun q hq => by
  obtain ⟨z, hz, e⟩ := List.mem_map.mp hq
  rw [← e]
  exact ⟨(gOf_rng ..).1, (gOf_rng ..).2, (gOf_rng ..).1, (gOf_rng ..).2⟩
theorem PrT.erase {H : Hp} {ts : List Addr} {ps : List Mv} (h : PrT H ts ps) : ∀ k : Nat, PrT H (ts.eraseIdx k) (ps.eraseIdx k) := by
  induction h with
  | nil => intro k; exact .nil
  | cons a tl ih =>
    intro k
    cases k with
    | zero => exact tl
    | succ k => exact .cons a (ih k)
theorem perm_pop {α : Type} : ∀ {xs : List α} {k : Nat} {y : α}, xs[k]? = some y → (y :: xs.eraseIdx k).Perm xs
  | [], _, _, h => by simp at h
  | a :: l, 0, y, h => by
    have e : a = y := by simpa using h
    rw [e]
    exact List.Perm.refl _
  | a :: l, k + 1, y, h => by
    have ih := perm_pop (xs := l) (k := k) (y := y) (by simpa using h)
    exact (List.Perm.swap a y _).trans (ih.cons a)
theorem map_erase {α β : Type} (f : α → β) : ∀ (l : List α) (k : Nat), (l.map f).eraseIdx k = (l.eraseIdx k).map f
  | [], _ => rfl
  | _ :: _, 0 => rfl
  | a :: l, k + 1 => by
    show f a :: (l.map f).eraseIdx k = f a :: (l.eraseIdx k).map f
    rw [map_erase f l k]
abbrev st__law_free : Stmt := topS 10
theorem sc__law_free : FnScope ["purse", "many", "pairs", "place"] ["purse", "many"] (defScope st__law_free) := ⟨rfl, rfl, rfl, by decide +kernel, rfl, by decide +kernel, by decide +kernel⟩
abbrev st__law_rings : Stmt := topS 11
theorem sc__law_rings : FnScope ["purse", "alike", "pairs", "many", "size", "ring", "k", "tail"] ["purse", "alike"] (defScope st__law_rings) := ⟨rfl, rfl, rfl, by decide +kernel, rfl, by decide +kernel, by decide +kernel⟩
abbrev st__law_moves : Stmt := topS 12
theorem sc__law_moves : FnScope ["purse", "shape", "pairs", "stride", "shift", "rest", "pair", "moves", "turn"] ["purse"] (defScope st__law_moves) := ⟨rfl, rfl, rfl, by decide +kernel, rfl, by decide +kernel, by decide +kernel⟩
abbrev st__law_spare : Stmt := topS 13
theorem sc__law_spare : FnScope ["purse", "moves", "taken", "pair", "first", "k"] ["purse", "moves"] (defScope st__law_spare) := ⟨rfl, rfl, rfl, by decide +kernel, rfl, by decide +kernel, by decide +kernel⟩
section
variable {P : Program} {w : World} {K : PySem.W.Frag} {mg : Str → Option Value} {base : Heap}
structure T__law_free (P : Program) (w : World) (K : PySem.W.Frag) (mg : Str → Option Value) (base : Heap) : Prop where
  range_ : mg "range" = none
  c__law_take : C8.Cal P w K mg base 2 "_law_take" (sp__law_take K) []
structure T__law_rings (P : Program) (w : World) (K : PySem.W.Frag) (mg : Str → Option Value) (base : Heap) : Prop where
  int_ : mg "int" = none
  range_ : mg "range" = none
  c__law_take : C8.Cal P w K mg base 2 "_law_take" (sp__law_take K) []
structure T__law_moves (P : Program) (w : World) (K : PySem.W.Frag) (mg : Str → Option Value) (base : Heap) : Prop where
  int_ : mg "int" = none
  len_ : mg "len" = none
  range_ : mg "range" = none
  c__law_free : C8.Cal P w K mg base 3 "_law_free" (sp__law_free K) []
  c__law_rings : C8.Cal P w K mg base 3 "_law_rings" (sp__law_rings K) []
  c__law_take : C8.Cal P w K mg base 2 "_law_take" (sp__law_take K) []
structure T__law_spare (P : Program) (w : World) (K : PySem.W.Frag) (mg : Str → Option Value) (base : Heap) : Prop where
  int_ : mg "int" = none
  range_ : mg "range" = none
  c__law_take : C8.Cal P w K mg base 2 "_law_take" (sp__law_take K) []
theorem ok__law_free {f : Addr} {fd : FuncData} (F0_ : Fun K "_law_free" "_law_free" st__law_free f fd) (T : T__law_free P w K mg base) : FnOk P w K mg base CX0 3 f fd ["purse", "many"] (sp__law_free K) := by
  refine F0_.ok sc__law_free (fun vs H Q E h => ?_) (fun cdv A outer s H vs Q E hr h => ?_)
  · obtain ⟨_, _, _, _, rfl, _⟩ := h
    rfl
  · obtain ⟨p, c, zs, many, rfl, hpu, m0, m1, k⟩ := h
    refine ⟨_, (pss_cons (ps_set (i := 2) sc__law_free.nd rfl (.inl rfl) (pe_lst pa_nil))
(pss_cons (ps_for PassesOwn.never rfl (pi_range1 (by rfl) T.range_ (pa_cons (pv 1) pa_nil)) (pg_name (i := 3) sc__law_free.nd rfl (.inl rfl))
(pss_one (ps_if (pt_cmpR op_lt (C8.pe_c T.c__law_take hr (by decide) rfl (pa_cons (pv 0) (pa_cons pe_int pa_nil))) pe_int (nomark _))
(pss_one (ps_expr (pe_bm PySem.F.plainAttrs_list PySem.F.slot_list_append PySem.F.type_list_append mt_append (pv 2) (pa_cons (pe_tup (pa_cons (pv 3) (pa_cons (C8.pe_c T.c__law_take hr (by decide) rfl (pa_cons (pv 0) (pa_cons (pv 1) pa_nil))) pa_nil))) pa_nil))))
pss_nil)))
(pss_one (ps_ret (pv 2))))), ?_⟩
    dsimp only [L2.cxOf, L2.Cx.nox]
    walk_at "go"
    refine ⟨Nat.zero_le _, fun l hl => ?_⟩
    walk_at "go"
    have nlp : l ≠ p := by
      obtain ⟨xs, e⟩ := hpu.at_
      exact (ne_of_none e hl).symm
    have nlc : l ≠ c := (ne_of_none hpu.ce hl).symm
    refine Kt.f_rng ?_
    walk_at "go"
    refine Kt.x_rng (by omega) (by omega) ?_
    refine Kt.go_rng (fun j σ H1 => ∃ (ms : List Mv) (y3 : Option V), σ = [some (.ref p), some (.int many), some (.ref l), y3] ∧ Kp H H1 p ∧ Pu H1 p c zs ∧ Prs H1 l ms ∧
      (ms.map (·.1)).Nodup ∧ Rng 101 ms ∧ (∀ q ∈ ms, q.1 < (j : Int)) ∧ ms.length ≤ j) ?_ ?_ ?_
    · exact ⟨[], none, rfl, (Kp.refl H p).new hl, hpu.same (same_new hl), ⟨[], upd_same, .nil⟩, .nil, fun q hq => (nomatch hq), fun q hq => (nomatch hq), Nat.le_refl _⟩
    · rintro j σ H1 hj ⟨ms, y3, rfl, kp, pu, pl, nd, rg, lt, ll⟩
      walk_at "go"
      refine ⟨p, c, zs, 4, rfl, pu, by decide, fun r H2 k2 pu2 r0 r1 _ => ?_⟩
      have kp2 := kp.trans k2
      have pl2 := pl.kp nlp pu.at_ k2
      walk_at "go"
      refine Kt.if_dec (fun h3 => ?_) (fun h3 => ?_)
      · obtain ⟨ts2, e2, t2⟩ := pl2
        walk_at "go"
        refine Kt.x_tyL e2 ?_
        walk_at "go"
        refine ⟨p, c, zs, many, rfl, pu2, by omega, fun r' H3 k3 pu3 q0 q1 q2 => ?_⟩
        obtain ⟨ts3, e3, t3⟩ := Prs.kp ⟨ts2, e2, t2⟩ nlp pu2.at_ k3
        walk_at "go"
        refine ⟨show (2 : Nat) ≤ sizeLine by decide, fun t htn => ?_⟩
        walk_at "go"
        refine Kt.r_append (xs := ts3.map V.ref) (by rw [upd_ne (ne_of_none e3 htn)]; exact e3) (Kt.small (by rw [List.length_map, t3.length]; omega)) ?_
        have kp4 : Kp H (upd (upd H3 t (.tup [.int (j : Int), .int r'])) l (.lst (ts3.map V.ref ++ [.ref t]))) p := fun b u e ne => by
          have e4 := (kp2.trans k3) b u e ne
          rw [upd_ne (ne_of_none e hl), upd_ne (ne_of_none e4 htn)]
          exact e4
        refine ⟨ms ++ [((j : Int), r')], _, rfl, kp4, (pu3.same (same_new htn)).put nlp nlc, Prs.snoc e3 t3 htn, nodup_snoc nd lt, rg.snoc ⟨by omega, by omega, by omega, ?_⟩, ?_, ?_⟩
        · by_cases h2 : 2 ≤ many
          · have := q1 h2; omega
          · have := q2 (by omega); omega
        · intro q hq
          rcases List.mem_append.mp hq with hq | hq
          · have := lt q hq; omega
          · have e : q = ((j : Int), r') := by simpa using hq
            rw [e]
            show (j : Int) < ((j + 1 : Nat) : Int)
            omega
        · rw [List.length_append, List.length_singleton]; omega
      · walk_at "go"
        exact ⟨ms, _, rfl, kp2, pu2, pl2, nd, rg, fun q hq => by have := lt q hq; omega, by omega⟩
    · rintro σ H1 ⟨ms, y3, rfl, kp, pu, pl, nd, rg, lt, ll⟩
      walk_at "go"
      exact k H1 l ms kp pu hl pl nd rg (by omega)
theorem ok__law_rings {f : Addr} {fd : FuncData} (F0_ : Fun K "_law_rings" "_law_rings" st__law_rings f fd) (T : T__law_rings P w K mg base) : FnOk P w K mg base CX0 3 f fd ["purse", "alike"] (sp__law_rings K) := by
  refine F0_.ok sc__law_rings (fun vs H Q E h => ?_) (fun cdv A outer s H vs Q E hr h => ?_)
  · obtain ⟨_, _, _, _, rfl, _⟩ := h
    rfl
  · obtain ⟨p, c, zs, al, rfl, hpu, k⟩ := h
    refine ⟨_, (pss_cons (ps_set (i := 2) sc__law_rings.nd rfl (.inl rfl) (pe_lst pa_nil))
(pss_cons (ps_set (i := 3) sc__law_rings.nd rfl (.inl rfl) pe_int)
(pss_cons (ps_set (i := 4) sc__law_rings.nd rfl (.inl rfl) (pe_op op_add pe_int (C8.pe_c T.c__law_take hr (by decide) rfl (pa_cons (pv 0) (pa_cons pe_int pa_nil)))))
(pss_cons (ps_for PassesOwn.never rfl (pi_range1 (by rfl) T.range_ (pa_cons (pe_op op_add pe_int (C8.pe_c T.c__law_take hr (by decide) rfl (pa_cons (pv 0) (pa_cons pe_int pa_nil)))) pa_nil)) (pg_name (i := 5) sc__law_rings.nd rfl (.inl rfl))
(pss_cons (ps_if (pt_not (pt_val (pv 1)))
(pss_one (ps_set (i := 4) sc__law_rings.nd rfl (.inl rfl) (pe_op op_add pe_int (C8.pe_c T.c__law_take hr (by decide) rfl (pa_cons (pv 0) (pa_cons pe_int pa_nil))))))
pss_nil)
(pss_cons (ps_for PassesOwn.never rfl (pi_range1 (by rfl) T.range_ (pa_cons (pv 4) pa_nil)) (pg_name (i := 6) sc__law_rings.nd rfl (.inl rfl))
(pss_one (ps_expr (pe_bm PySem.F.plainAttrs_list PySem.F.slot_list_append PySem.F.type_list_append mt_append (pv 2) (pa_cons (pe_tup (pa_cons (pe_op op_add (pv 3) (pv 6)) (pa_cons (pe_op op_add (pv 3) (pe_op op_mod (pe_callTy Kt.cr_int1 (by rfl) T.int_ (by decide +kernel) (pa_cons (pe_op op_add (pv 6) pe_int) pa_nil)) (pv 4))) pa_nil))) pa_nil)))))
(pss_one (ps_set (i := 3) sc__law_rings.nd rfl (.inl rfl) (pe_op op_add (pv 3) (pv 4)))))))
(pss_cons (ps_for PassesOwn.never rfl (pi_range1 (by rfl) T.range_ (pa_cons (C8.pe_c T.c__law_take hr (by decide) rfl (pa_cons (pv 0) (pa_cons pe_int pa_nil))) pa_nil)) (pg_name (i := 7) sc__law_rings.nd rfl (.inl rfl))
(pss_cons (ps_expr (pe_bm PySem.F.plainAttrs_list PySem.F.slot_list_append PySem.F.type_list_append mt_append (pv 2) (pa_cons (pe_tup (pa_cons (pv 3) (pa_cons (C8.pe_c T.c__law_take hr (by decide) rfl (pa_cons (pv 0) (pa_cons (pv 3) pa_nil))) pa_nil))) pa_nil)))
(pss_one (ps_set (i := 3) sc__law_rings.nd rfl (.inl rfl) (pe_op op_add (pv 3) pe_int)))))
(pss_one (ps_ret (pv 2)))))))), ?_⟩
    dsimp only [L2.cxOf, L2.Cx.nox]
    walk_at "go"
    refine ⟨Nat.zero_le _, fun l hl => ?_⟩
    have nlp : l ≠ p := by
      obtain ⟨xs, e⟩ := hpu.at_
      exact (ne_of_none e hl).symm
    have nlc : l ≠ c := (ne_of_none hpu.ce hl).symm
    have R0 : RI H (upd H l (.lst [])) p c l zs 0 [] := ⟨(Kp.refl H p).new hl, hpu.same (same_new hl), ⟨[], upd_same, .nil⟩, .nil, fun q hq => (nomatch hq), fun q hq => (nomatch hq), Int.le_refl _⟩
    generalize upd H l (.lst []) = H1 at R0 ⊢
    walk_at "go"
    refine ⟨p, c, zs, 7, rfl, R0.pu, by decide, fun r H2 k2 pu2 r0 r1 _ => ?_⟩
    have R2 := R0.call nlp k2 pu2
    have r1 := r1 (by decide)
    walk_at "go"
    refine Kt.f_rng ?_
    walk_at "go"
    refine ⟨p, c, zs, 4, rfl, R2.pu, by decide, fun n H3 k3 pu3 n0 n1 _ => ?_⟩
    have R3 := R2.call nlp k3 pu3
    have n1 := n1 (by decide)
    walk_at "go"
    refine Kt.x_rng (by omega) (by omega) ?_
    refine Kt.go_rng (fun j σ H4 => ∃ (ms : List Mv) (many size : Int) (y5 y6 : Option V), σ = [some (.ref p), some (.bl al), some (.ref l), some (.int many), some (.int size), y5, y6, none] ∧ RI H H4 p c l zs many ms ∧ 0 ≤ many ∧ many ≤ 7 * (j : Int) ∧ 1 ≤ size ∧ size ≤ 7) ?_ ?_ ?_
    · exact ⟨[], 0, 1 + r, none, none, rfl, R3, by omega, by omega, by omega, by omega⟩
    · rintro j σ H4 hj ⟨ms, many, size, y5, y6, rfl, R4, m0, m1, s0, s1⟩
      walk_at "go"
      -- the inner loop, from any size
      have inner : ∀ (H5 : Hp) (size : Int), RI H H5 p c l zs many ms → 1 ≤ size → size ≤ 7 → ∀ (N : St → Hp → Prop) (R : VK) (b c' : St → Hp → Prop),
          (∀ H6 ms6 y6, RI H H6 p c l zs (many + size) ms6 → N [some (.ref p), some (.bl al), some (.ref l), some (.int (many + size)), some (.int size), some (.int (j : Int)), y6, none] H6) →
          tSeq (tFor (iRng1 (tCons (tVar 4) tNil)) (gName 6) (tDrop (tBM K "list" rAppend (tVar 2) (tCons (tTup (tCons (tOp (rI0 fun i j => V.int (i + j)) (tVar 3) (tVar 6)) (tCons (tOp (rI0 fun i j => V.int (i + j)) (tVar 3) (tOp (rI (fun x j => 0 < j) fun i j => V.int (i % j)) (tCB Kt.rInt1 (tCons (tOp (rI0 fun i j => V.int (i + j)) (tVar 6) (tC (V.int 1))) tNil)) (tVar 4))) tNil))) tNil))))
            (tAsg (tOp (rI0 fun i j => V.int (i + j)) (tVar 3) (tVar 4)) (gName 3)) ⟨N, R, b, c'⟩ [some (.ref p), some (.bl al), some (.ref l), some (.int many), some (.int size), some (.int (j : Int)), y6, none] H5 := by
        intro H5 size R5 s0 s1 N R b c' fin
        walk_at "go"
        refine Kt.f_rng ?_
        walk_at "go"
        refine Kt.x_rng (by omega) (by omega) ?_
        refine Kt.go_rng (fun i σ H6 => ∃ (ms6 : List Mv) (y6 : Option V), σ = [some (.ref p), some (.bl al), some (.ref l), some (.int many), some (.int size), some (.int (j : Int)), y6, none] ∧ RI H H6 p c l zs (many + (i : Int)) ms6) ?_ ?_ ?_
        · exact ⟨ms, y6, rfl, R5.more (by omega)⟩
        · rintro i σ H6 hi ⟨ms6, y6, rfl, R6⟩
          obtain ⟨ts6, e6, t6⟩ := R6.pl
          walk_at "go"
          refine Kt.x_tyL e6 ?_
          walk_at "go"
          refine Kt.r_I (by show 0 < size; omega) ?_
          walk_at "go"
          refine ⟨show (2 : Nat) ≤ sizeLine by decide, fun t htn => ?_⟩
          walk_at "go"
          have b1 := Int.emod_nonneg ((i : Int) + 1) (show size ≠ 0 by omega)
          have b2 := Int.emod_lt_of_pos ((i : Int) + 1) (show 0 < size by omega)
          have l6 := R6.ll
          refine Kt.r_append (xs := ts6.map V.ref) (by rw [upd_ne (ne_of_none e6 htn)]; exact e6) (Kt.small (by rw [List.length_map, t6.length]; omega)) ?_
          refine ⟨ms6 ++ [(many + (i : Int), many + ((i : Int) + 1) % size)], _, rfl, ?_⟩
          have := R6.add hl nlp nlc e6 t6 htn (a := many + (i : Int)) (b := many + ((i : Int) + 1) % size) rfl (by omega) (by omega) ⟨by omega, by omega⟩
          rw [show many + ((i + 1 : Nat) : Int) = many + (i : Int) + 1 by omega]
          exact this
        · rintro σ H6 ⟨ms6, y6, rfl, R6⟩
          walk_at "go"
          rw [show many + ((size.toNat : Nat) : Int) = many + size by omega] at R6
          exact fin H6 ms6 y6 R6
      refine Kt.if_nb (fun e => ?_) (fun e => ?_)
      · walk_at "go"
        refine ⟨p, c, zs, 7, rfl, R4.pu, by decide, fun r5 H5 k5 pu5 r50 r51 _ => ?_⟩
        have r51 := r51 (by decide)
        have R5 := R4.call nlp k5 pu5
        walk_at "go"
        exact inner H5 (1 + r5) R5 (by omega) (by omega) _ _ _ _ fun H6 ms6 y6 R6 => ⟨ms6, many + (1 + r5), 1 + r5, _, _, rfl, R6, by omega, by omega, by omega, by omega⟩
      · exact inner H4 size R4 s0 s1 _ _ _ _ fun H6 ms6 y6 R6 => ⟨ms6, many + size, size, _, _, rfl, R6, by omega, by omega, by omega, by omega⟩
    · rintro σ H4 ⟨ms, many, size, y5, y6, rfl, R4, m0, m1, s0, s1⟩
      have m28 : many ≤ 28 := by omega
      clear m1
      walk_at "go"
      refine Kt.f_rng ?_
      walk_at "go"
      refine ⟨p, c, zs, 12, rfl, R4.pu, by decide, fun n5 H5 k5 pu5 n50 n51 _ => ?_⟩
      have n51 := n51 (by decide)
      have R5 := R4.call nlp k5 pu5
      walk_at "go"
      refine Kt.x_rng (by omega) (by omega) ?_
      refine Kt.go_rng (fun j σ H6 => ∃ (ms6 : List Mv) (y7 : Option V), σ = [some (.ref p), some (.bl al), some (.ref l), some (.int (many + (j : Int))), some (.int size), y5, y6, y7] ∧ RI H H6 p c l zs (many + (j : Int)) ms6) ?_ ?_ ?_
      · refine ⟨ms, none, ?_, R5.more (by omega)⟩
        rw [show many + ((0 : Nat) : Int) = many by omega]
      · rintro i σ H6 hi ⟨ms6, y7, rfl, R6⟩
        obtain ⟨ts6, e6, t6⟩ := R6.pl
        walk_at "go"
        refine Kt.x_tyL e6 ?_
        walk_at "go"
        refine ⟨p, c, zs, _, rfl, R6.pu, by omega, fun r' H7 k7 pu7 q0 q1 q2 => ?_⟩
        have R7 := R6.call nlp k7 pu7
        obtain ⟨ts7, e7, t7⟩ := R7.pl
        walk_at "go"
        refine ⟨show (2 : Nat) ≤ sizeLine by decide, fun t htn => ?_⟩
        walk_at "go"
        have l7 := R7.ll
        refine Kt.r_append (xs := ts7.map V.ref) (by rw [upd_ne (ne_of_none e7 htn)]; exact e7) (Kt.small (by rw [List.length_map, t7.length]; omega)) ?_
        have := R7.add hl nlp nlc e7 t7 htn (a := many + (i : Int)) (b := r') rfl (by omega) (by omega) ⟨q0, by
          by_cases h2 : 2 ≤ many + (i : Int)
          · have := q1 h2; omega
          · have := q2 (by omega); omega⟩
        walk_at "go"
        rw [show many + (i : Int) + 1 = many + ((i + 1 : Nat) : Int) by omega] at this ⊢
        exact ⟨_, _, rfl, this⟩
      · rintro σ H6 ⟨ms6, y7, rfl, R6⟩
        walk_at "go"
        have l6 := R6.ll
        exact k H6 l ms6 R6.kp R6.pu hl R6.pl R6.nd R6.rg (by omega)
theorem ok__law_moves {f : Addr} {fd : FuncData} (F0_ : Fun K "_law_moves" "_law_moves" st__law_moves f fd) (T : T__law_moves P w K mg base) : FnOk P w K mg base CX0 4 f fd ["purse"] (sp__law_moves K) := by
  refine F0_.ok sc__law_moves (fun vs H Q E h => ?_) (fun cdv A outer s H vs Q E hr h => ?_)
  · obtain ⟨_, _, _, rfl, _⟩ := h
    rfl
  · obtain ⟨p, c, zs, rfl, hpu, k⟩ := h
    refine ⟨_, (pss_cons (ps_set (i := 1) sc__law_moves.nd rfl (.inl rfl) (C8.pe_c T.c__law_take hr (by decide) rfl (pa_cons (pv 0) (pa_cons pe_int pa_nil))))
(pss_cons (ps_if (pt_cmpR op_eq (pv 1) pe_int (nomark _))
(pss_one (ps_set (i := 2) sc__law_moves.nd rfl (.inl rfl) (C8.pe_c T.c__law_free hr (by decide) rfl (pa_cons (pv 0) (pa_cons (C8.pe_c T.c__law_take hr (by decide) rfl (pa_cons (pv 0) (pa_cons pe_int pa_nil))) pa_nil)))))
(pss_one (ps_if (pt_cmpR op_eq (pv 1) pe_int (nomark _))
(pss_one (ps_set (i := 2) sc__law_moves.nd rfl (.inl rfl) (C8.pe_c T.c__law_free hr (by decide) rfl (pa_cons (pv 0) (pa_cons (pe_op op_add pe_int (C8.pe_c T.c__law_take hr (by decide) rfl (pa_cons (pv 0) (pa_cons pe_int pa_nil)))) pa_nil)))))
(pss_one (ps_set (i := 2) sc__law_moves.nd rfl (.inl rfl) (C8.pe_c T.c__law_rings hr (by decide) rfl (pa_cons (pv 0) (pa_cons (pe_cmpR op_eq (pv 1) pe_int (nomark _)) pa_nil))))))))
(pss_cons (ps_set (i := 3) sc__law_moves.nd rfl (.inl rfl) (pe_op op_add pe_int (C8.pe_c T.c__law_take hr (by decide) rfl (pa_cons (pv 0) (pa_cons pe_int pa_nil)))))
(pss_cons (ps_set (i := 4) sc__law_moves.nd rfl (.inl rfl) (C8.pe_c T.c__law_take hr (by decide) rfl (pa_cons (pv 0) (pa_cons pe_int pa_nil))))
(pss_cons (ps_set (i := 5) sc__law_moves.nd rfl (.inl rfl) (pe_lst pa_nil))
(pss_cons (ps_for PassesOwn.never rfl (pi_list (pv 2)) (pg_name (i := 6) sc__law_moves.nd rfl (.inl rfl))
(pss_one (ps_expr (pe_bm PySem.F.plainAttrs_list PySem.F.slot_list_append PySem.F.type_list_append mt_append (pv 5) (pa_cons (pe_tup (pa_cons (pe_op op_mod (pe_callTy Kt.cr_int1 (by rfl) T.int_ (by decide +kernel) (pa_cons (pe_op op_add (pe_op op_mul (pe_ix ix_tup (pv 6) pe_int (fun _ _ => rfl)) (pv 3)) (pv 4)) pa_nil)) pe_int) (pa_cons (pe_op op_mod (pe_callTy Kt.cr_int1 (by rfl) T.int_ (by decide +kernel) (pa_cons (pe_op op_add (pe_op op_mul (pe_ix ix_tup (pv 6) pe_int (fun _ _ => rfl)) (pv 3)) (pv 4)) pa_nil)) pe_int) pa_nil))) pa_nil)))))
(pss_cons (ps_set (i := 7) sc__law_moves.nd rfl (.inl rfl) (pe_lst pa_nil))
(pss_cons (ps_for PassesOwn.never rfl (pi_range1 (by rfl) T.range_ (pa_cons (pe_callB Kt.cr_len (by rfl) T.len_ PySem.boot_len (pa_cons (pv 2) pa_nil)) pa_nil)) (pg_name (i := 8) sc__law_moves.nd rfl (.inl rfl))
(pss_one (ps_expr (pe_bm PySem.F.plainAttrs_list PySem.F.slot_list_append PySem.F.type_list_append mt_append (pv 7) (pa_cons (pe_bm PySem.F.plainAttrs_list PySem.F.slot_list_pop PySem.F.type_list_pop mt_popAt (pv 5) (pa_cons (C8.pe_c T.c__law_take hr (by decide) rfl (pa_cons (pv 0) (pa_cons (pe_callB Kt.cr_len (by rfl) T.len_ PySem.boot_len (pa_cons (pv 5) pa_nil)) pa_nil))) pa_nil)) pa_nil)))))
(pss_one (ps_ret (pv 7))))))))))), ?_⟩
    dsimp only [L2.cxOf, L2.Cx.nox]
    walk_at "go"
    refine ⟨p, c, zs, 4, rfl, hpu, by decide, fun sh H1 k1 pu1 s0 s1 _ => ?_⟩
    have s1 := s1 (by decide)
    walk_at "go"
    -- from any pairs on
    have rest : ∀ (H2 : Hp) (l : Addr) (ms : List Mv), Kp H H2 p → Pu H2 p c zs → H l = none → Prs H2 l ms → (ms.map (·.1)).Nodup → Rng 101 ms → ms.length ≤ 47 →
        tSeq (tAsg (tOp (rI0 fun i j => V.int (i + j)) (tC (V.int 1)) (tCall (sp__law_take K) [] E0 (tCons (tVar 0) (tCons (tC (V.int 100)) tNil)))) (gName 3))
        (tSeq (tAsg (tCall (sp__law_take K) [] E0 (tCons (tVar 0) (tCons (tC (V.int 101)) tNil))) (gName 4))
        (tSeq (tAsg (tLst tNil) (gName 5))
        (tSeq (tFor (iList K (tVar 2)) (gName 6) (tDrop (tBM K "list" rAppend (tVar 5) (tCons (tTup
            (tCons (tOp (rI (fun x j => 0 < j) fun i j => V.int (i % j)) (tCB Kt.rInt1 (tCons (tOp (rI0 fun i j => V.int (i + j)) (tOp (rI CMul fun i j => V.int (i * j)) (tOp (rIxT K) (tVar 6) (tC (V.int 0))) (tVar 3)) (tVar 4)) tNil)) (tC (V.int 101)))
            (tCons (tOp (rI (fun x j => 0 < j) fun i j => V.int (i % j)) (tCB Kt.rInt1 (tCons (tOp (rI0 fun i j => V.int (i + j)) (tOp (rI CMul fun i j => V.int (i * j)) (tOp (rIxT K) (tVar 6) (tC (V.int 1))) (tVar 3)) (tVar 4)) tNil)) (tC (V.int 101))) tNil))) tNil))))
        (tSeq (tAsg (tLst tNil) (gName 7))
        (tSeq (tFor (iRng1 (tCons (tCB (Kt.rLen K) (tCons (tVar 2) tNil)) tNil)) (gName 8) (tDrop (tBM K "list" rAppend (tVar 7) (tCons (tBM K "list" rPopAt (tVar 5) (tCons (tCall (sp__law_take K) [] E0 (tCons (tVar 0) (tCons (tCB (Kt.rLen K) (tCons (tVar 5) tNil)) tNil))) tNil)) tNil))))
        (tRet (tVar 7))))))) { nx := fun _ H' => Q V.non H', rt := Q } [some (.ref p), some (.int sh), some (.ref l), none, none, none, none, none, none] H2 := by
      intro H2 l ms kp2 pu2 hl0 pl nd rg ll
      have nlp : l ≠ p := by
        rintro rfl
        obtain ⟨xs, e⟩ := hpu.at_
        rw [e] at hl0; cases hl0
      walk_at "go"
      refine ⟨p, c, zs, 100, rfl, pu2, by decide, fun r3 H3 k3 pu3 a0 a1 _ => ?_⟩
      have a1 := a1 (by decide)
      have pl3 := pl.kp nlp pu2.at_ k3
      walk_at "go"
      refine ⟨p, c, zs, 101, rfl, pu3, by decide, fun t3 H4 k4 pu4 b0 b1 _ => ?_⟩
      have pl4 := pl3.kp nlp pu3.at_ k4
      have kp4 := (kp2.trans k3).trans k4
      walk_at "go"
      refine ⟨Nat.zero_le _, fun re hre => ?_⟩
      have nrp : re ≠ p := by
        obtain ⟨xs, e⟩ := pu4.at_
        exact (ne_of_none e hre).symm
      have nrc : re ≠ c := (ne_of_none pu4.ce hre).symm
      obtain ⟨ts, e4, t4⟩ := pl4
      have nlr : l ≠ re := ne_of_none e4 hre
      have re0 : H re = none := kp4.free pu4.some hre
      walk_at "go"
      refine Kt.f_list (K := K) (xs := ts.map V.ref) 2 rfl (.of (by rw [upd_ne nlr]; exact e4)) (fun j σ H5 => ∃ (tr : List Addr) (y6 : Option V), σ = [some (.ref p), some (.int sh), some (.ref l), some (.int (1 + r3)), some (.int t3), some (.ref re), y6, none, none] ∧
        (∀ b u, H4 b = some u → H5 b = some u) ∧ H5 re = some (.lst (tr.map V.ref)) ∧ PrT H5 tr (mapG (1 + r3) t3 (ms.take j))) ?_ ?_ ?_ ?_
      · exact ⟨[], none, rfl, same_new hre, upd_same, .nil⟩
      · rintro j σ H5 _ ⟨tr, y6, rfl, s5, _⟩
        exact .of (s5 _ _ e4)
      · rintro j x σ H5 hx ⟨tr, y6, rfl, s5, e5, t5⟩
        obtain ⟨t, ht, rfl⟩ := ref_get hx
        obtain ⟨q, hq, htq⟩ := t4.get ht
        have htq := s5 _ _ htq
        have ej := (List.getElem?_eq_some_iff.mp hq).1
        have rq := rg q (List.mem_of_getElem? hq)
        walk_at "go"
        refine Kt.x_tyL e5 ?_
        walk_at "go"
        refine Kt.r_ixT0 htq rfl ?_
        walk_at "go"
        refine Kt.r_I (.inl ⟨by omega, by omega⟩) ?_
        walk_at "go"
        refine Kt.r_I (by decide) ?_
        walk_at "go"
        refine Kt.r_ixT1 htq rfl ?_
        walk_at "go"
        refine Kt.r_I (.inl ⟨by omega, by omega⟩) ?_
        walk_at "go"
        refine Kt.r_I (by decide) ?_
        walk_at "go"
        refine ⟨show (2 : Nat) ≤ sizeLine by decide, fun tn htn => ?_⟩
        walk_at "go"
        refine Kt.r_append (xs := tr.map V.ref) (by rw [upd_ne (ne_of_none e5 htn)]; exact e5) (Kt.small ?_) ?_
        · rw [List.length_map, t5.length]
          unfold mapG
          rw [List.length_map, List.length_take]
          omega
        obtain ⟨tr2, e6, t6⟩ := Prs.snoc (a := gOf (1 + r3) t3 q.1) (b := gOf (1 + r3) t3 q.2) e5 t5 htn
        refine ⟨tr2, _, rfl, fun b u e => ?_, e6, ?_⟩
        · rw [upd_ne (ne_of_none e hre), upd_ne (ne_of_none (s5 b u e) htn)]
          exact s5 b u e
        · rw [take_snoc hq]
          unfold mapG at t6 ⊢
          rw [List.map_append]
          exact t6
      · rintro σ H5 ⟨tr, y6, rfl, s5, e5, t5⟩
        rw [List.length_map, t4.length, List.take_length] at t5
        have nd5 := mapG_nodup (stride := 1 + r3) (shift := t3) (by omega) (by omega) nd rg
        have rg5 := mapG_rng (1 + r3) t3 ms
        have ll5 : (mapG (1 + r3) t3 ms).length = ms.length := List.length_map ..
        generalize mapG (1 + r3) t3 ms = rs at t5 nd5 rg5 ll5
        walk_at "go"
        refine ⟨Nat.zero_le _, fun mv hmv => ?_⟩
        have nmr : mv ≠ re := (ne_of_none e5 hmv).symm
        have pu5 : Pu H5 p c zs := pu4.same s5
        have nmp : mv ≠ p := by
          obtain ⟨xs, e⟩ := pu5.at_
          exact (ne_of_none e hmv).symm
        have nmc : mv ≠ c := (ne_of_none pu5.ce hmv).symm
        have nml : l ≠ mv := ne_of_none (s5 _ _ e4) hmv
        have kp5 : Kp H H5 p := fun b u e ne => s5 b u (kp4 b u e ne)
        have mv0 : H mv = none := kp5.free pu5.some hmv
        walk_at "go"
        refine Kt.f_rng ?_
        walk_at "go"
        refine Kt.r_lenL (xs := ts.map V.ref) (by rw [upd_ne nml]; exact s5 _ _ e4) ?_
        have elen : (ts.map V.ref).length = rs.length := by rw [List.length_map, t4.length, ll5]
        rw [elen]
        walk_at "go"
        refine Kt.x_rng (by omega) (by omega) ?_
        refine Kt.go_rng (fun j σ H6 => ∃ (t1 t2 : List Addr) (r1 r2 : List Mv) (y8 : Option V), σ = [some (.ref p), some (.int sh), some (.ref l), some (.int (1 + r3)), some (.int t3), some (.ref re), y6, some (.ref mv), y8] ∧ Kp H H6 p ∧ Pu H6 p c zs ∧
          H6 re = some (.lst (t1.map V.ref)) ∧ PrT H6 t1 r1 ∧ H6 mv = some (.lst (t2.map V.ref)) ∧ PrT H6 t2 r2 ∧ (r2 ++ r1).Perm rs ∧ r2.length = j) ?_ ?_ ?_
        · refine ⟨tr, [], rs, [], none, rfl, kp5.new hmv, pu5.same (same_new hmv), by rw [upd_ne nmr.symm]; exact e5, t5.keep fun b xs e => by rw [upd_ne (ne_of_none e hmv)]; exact e, upd_same, .nil, List.Perm.refl _, rfl⟩
        · rintro j σ H6 hj ⟨t1, t2, r1, r2, y8, rfl, kp6, pu6, e1, p1, e2, p2, pm, lj⟩
          have plen := pm.length_eq
          rw [List.length_append] at plen
          walk_at "go"
          refine Kt.x_tyL e2 ?_
          walk_at "go"
          refine Kt.x_tyL e1 ?_
          walk_at "go"
          refine Kt.r_lenL e1 ?_
          rw [List.length_map, p1.length]
          walk_at "go"
          refine ⟨p, c, zs, (r1.length : Int), rfl, pu6, by omega, fun z H7 k7 pu7 z0 z1 z2 => ?_⟩
          have zlt : z.toNat < r1.length := by
            by_cases h2 : 2 ≤ (r1.length : Int)
            · have := z1 h2; omega
            · have := z2 (by omega); omega
          have e17 := k7 _ _ e1 nrp
          have e27 := k7 _ _ e2 nmp
          have tk : ∀ b xs, H6 b = some (.tup xs) → H7 b = some (.tup xs) := fun b xs e => k7 b _ e (by
            rintro rfl
            obtain ⟨ys, ey⟩ := pu6.at_
            rw [ey] at e; cases e)
          have p17 := p1.keep tk
          have p27 := p2.keep tk
          obtain ⟨y, hy⟩ : ∃ y, t1[z.toNat]? = some y := ⟨_, List.getElem?_eq_getElem (by rw [p1.length]; exact zlt)⟩
          obtain ⟨qy, hqy, hty⟩ := p17.get hy
          walk_at "go"
          refine Kt.r_popAt (xs := t1.map V.ref) (y := .ref y) z.toNat (by omega) e17 (by rw [List.getElem?_map, hy]; rfl) (by rw [List.length_map, p1.length]; omega) ?_
          walk_at "go"
          refine Kt.r_append (xs := t2.map V.ref) (by rw [upd_ne nmr]; exact e27) (Kt.small (by rw [List.length_map, p2.length]; omega)) ?_
          have tk2 : ∀ b xs, H7 b = some (.tup xs) → (upd (upd H7 re (.lst ((t1.map V.ref).eraseIdx z.toNat))) mv (.lst (t2.map V.ref ++ [.ref y]))) b = some (.tup xs) := fun b xs e => by
            rw [upd_ne (by rintro rfl; rw [e27] at e; cases e), upd_ne (by rintro rfl; rw [e17] at e; cases e)]
            exact e
          refine ⟨t1.eraseIdx z.toNat, t2 ++ [y], r1.eraseIdx z.toNat, r2 ++ [qy], _, rfl, fun b u e ne => ?_, (pu7.put nrp nrc).put nmp nmc, ?_, (p17.erase _).keep tk2, ?_, PrT.snoc (p27.keep tk2) (tk2 _ _ hty), ?_, ?_⟩
          · rw [upd_ne (ne_of_none e mv0), upd_ne (ne_of_none e re0)]
            exact k7 b u (kp6 b u e ne) ne
          · rw [upd_ne nmr.symm, upd_same, map_erase]
          · rw [upd_same, List.map_append]
            rfl
          · rw [List.append_assoc]
            exact ((perm_pop hqy).append_left r2).trans pm
          · rw [List.length_append, List.length_singleton, lj]
        · rintro σ H6 ⟨t1, t2, r1, r2, y8, rfl, kp6, pu6, e1, p1, e2, p2, pm, lj⟩
          have plen := pm.length_eq
          rw [List.length_append] at plen
          have r10 : r1 = [] := List.eq_nil_of_length_eq_zero (by omega)
          rw [r10, List.append_nil] at pm
          walk_at "go"
          refine k H6 mv r2 kp6 pu6 mv0 ⟨t2, e2, p2⟩ ((pm.map _).nodup_iff.mpr nd5) (fun q hq => rg5 q (pm.mem_iff.mp hq)) ?_
          rw [pm.length_eq, ll5]
          exact ll
    refine Kt.if_dec (fun h0 => ?_) (fun h0 => ?_)
    · walk_at "go"
      refine ⟨p, c, zs, 9, rfl, pu1, by decide, fun m2 H2 k2 pu2 m20 m21 _ => ?_⟩
      have m21 := m21 (by decide)
      walk_at "go"
      refine ⟨p, c, zs, m2, rfl, pu2, m20, by omega, fun H3 l ms k3 pu3 l0 pl nd rg ll => ?_⟩
      exact rest H3 l ms ((k1.trans k2).trans k3) pu3 ((k1.trans k2).free pu2.some l0) pl nd rg ll
    · walk_at "go"
      refine Kt.if_dec (fun h1 => ?_) (fun h1 => ?_)
      · walk_at "go"
        refine ⟨p, c, zs, 40, rfl, pu1, by decide, fun m2 H2 k2 pu2 m20 m21 _ => ?_⟩
        have m21 := m21 (by decide)
        walk_at "go"
        refine ⟨p, c, zs, _, rfl, pu2, by omega, by omega, fun H3 l ms k3 pu3 l0 pl nd rg ll => ?_⟩
        exact rest H3 l ms ((k1.trans k2).trans k3) pu3 ((k1.trans k2).free pu2.some l0) pl nd rg ll
      · walk_at "go"
        refine ⟨p, c, zs, _, rfl, pu1, fun H3 l ms k3 pu3 l0 pl nd rg ll => ?_⟩
        exact rest H3 l ms (k1.trans k3) pu3 (k1.free pu1.some l0) pl nd rg ll
theorem ok__law_spare {f : Addr} {fd : FuncData} (F0_ : Fun K "_law_spare" "_law_spare" st__law_spare f fd) (T : T__law_spare P w K mg base) : FnOk P w K mg base CX0 3 f fd ["purse", "moves"] (sp__law_spare K) := by
  refine F0_.ok sc__law_spare (fun vs H Q E h => ?_) (fun cdv A outer s H vs Q E hr h => ?_)
  · obtain ⟨_, _, _, _, _, rfl, _⟩ := h
    rfl
  · obtain ⟨p, c, m, zs, ms, rfl, hpu, ⟨ts, em, tm⟩, nmp, rg, ll, k⟩ := h
    refine ⟨_, (pss_cons (ps_set (i := 2) sc__law_spare.nd rfl (.inl rfl) pe_dnewK)
(pss_cons (ps_for PassesOwn.never rfl (pi_list (pv 1)) (pg_name (i := 3) sc__law_spare.nd rfl (.inl rfl))
(pss_cons (ps_dput (hu_of hr) (pv 2) (pe_ix ix_tup (pv 3) pe_int (fun _ _ => rfl)) pe_bl rfl)
(pss_one (ps_dput (hu_of hr) (pv 2) (pe_ix ix_tup (pv 3) pe_int (fun _ _ => rfl)) pe_bl rfl))))
(pss_cons (ps_set (i := 4) sc__law_spare.nd rfl (.inl rfl) (C8.pe_c T.c__law_take hr (by decide) rfl (pa_cons (pv 0) (pa_cons pe_int pa_nil))))
(pss_cons (ps_for PassesOwn.never rfl (pi_range1 (by rfl) T.range_ (pa_cons pe_int pa_nil)) (pg_name (i := 5) sc__law_spare.nd rfl (.inl rfl))
(pss_one (ps_if (pt_cmp (pc_dnotin (hu_of hr) (pe_op op_mod (pe_callTy Kt.cr_int1 (by rfl) T.int_ (by decide +kernel) (pa_cons (pe_op op_add (pv 4) (pv 5)) pa_nil)) pe_int) (pv 2)) rfl)
(pss_one (ps_ret (pe_op op_mod (pe_callTy Kt.cr_int1 (by rfl) T.int_ (by decide +kernel) (pa_cons (pe_op op_add (pv 4) (pv 5)) pa_nil)) pe_int)))
pss_nil)))
(pss_one (ps_ret pe_int)))))), ?_⟩
    dsimp only [L2.cxOf, L2.Cx.nox]
    walk_at "go"
    intro tk htk
    walk_at "go"
    have ntp : tk ≠ p := by
      obtain ⟨xs, e⟩ := hpu.at_
      exact (ne_of_none e htk).symm
    refine Kt.f_list (K := K) (xs := ts.map V.ref) 1 rfl (.of (by rw [upd_ne (ne_of_none em htk)]; exact em)) (fun j σ H1 => ∃ (kv : List (Key × V)) (y3 : Option V), σ = [some (.ref p), some (.ref m), some (.ref tk), y3, none, none] ∧
        (∀ b u, H b = some u → H1 b = some u) ∧ H1 tk = some (.dK kv) ∧ kv.length ≤ 2 * j ∧ ∀ q ∈ ms.take j, (valV kv (.inl q.1)).isSome = true ∧ (valV kv (.inl q.2)).isSome = true) ?_ ?_ ?_ ?_
    · exact ⟨[], none, rfl, same_new htk, upd_same, Nat.le_refl _, fun q hq => (nomatch hq)⟩
    · rintro j σ H1 _ ⟨kv, y3, rfl, s1, _⟩
      exact .of (s1 _ _ em)
    · rintro j x σ H1 hx ⟨kv, y3, rfl, s1, e1, lk, hk⟩
      obtain ⟨t, ht, rfl⟩ := ref_get hx
      obtain ⟨q, hq, htq⟩ := tm.get ht
      have htq := s1 _ _ htq
      have ej := (List.getElem?_eq_some_iff.mp hq).1
      have ntt : t ≠ tk := by rintro rfl; rw [htq] at e1; cases e1
      walk_at "go"
      refine Kt.r_ixT0 htq rfl ?_
      refine Kt.x_put e1 (Kt.small (by omega)) ?_
      have l1 := length_putK kv (.inl q.1) (.bl true)
      walk_at "go"
      refine Kt.r_ixT1 (by rw [upd_ne ntt]; exact htq) rfl ?_
      refine Kt.x_put upd_same (Kt.small (by omega)) ?_
      have l2 := length_putK (putK kv (.inl q.1) (.bl true)) (.inl q.2) (.bl true)
      refine ⟨_, _, rfl, fun b u e => ?_, upd_same, by omega, ?_⟩
      · rw [upd_upd, upd_ne (ne_of_none e htk)]
        exact s1 b u e
      · have up : ∀ x : Int, (valV kv (.inl x)).isSome = true ∨ x = q.1 ∨ x = q.2 → (valV (putK (putK kv (.inl q.1) (.bl true)) (.inl q.2) (.bl true)) (.inl x)).isSome = true := fun x hx => by
          rw [valV_put]
          by_cases a : x = q.2
          · rw [if_pos (by rw [a])]; rfl
          · rw [if_neg (fun z => a (Sum.inl.inj z)), valV_put]
            by_cases b : x = q.1
            · rw [if_pos (by rw [b])]; rfl
            · rw [if_neg (fun z => b (Sum.inl.inj z))]
              exact hx.resolve_right fun z => z.elim b a
        intro q' hq'
        rw [take_snoc hq] at hq'
        rcases List.mem_append.mp hq' with h | h
        · exact ⟨up _ (.inl (hk q' h).1), up _ (.inl (hk q' h).2)⟩
        · have e : q' = q := by simpa using h
          rw [e]
          exact ⟨up _ (.inr (.inl rfl)), up _ (.inr (.inr rfl))⟩
    · rintro σ H1 ⟨kv, y3, rfl, s1, e1, lk, hk⟩
      rw [List.length_map, tm.length, List.take_length] at hk
      walk_at "go"
      refine ⟨p, c, zs, 103, rfl, hpu.same s1, by decide, fun r H2 k2 pu2 r0 r1 _ => ?_⟩
      have e2 := k2 _ _ e1 ntp
      have kp2 : Kp H H2 p := fun b u e ne => k2 b u (s1 b u e) ne
      walk_at "go"
      refine Kt.f_rng ?_
      walk_at "go"
      refine Kt.x_rng (by decide) (by decide) ?_
      refine Kt.go_rng (fun j σ H3 => ∃ y5, σ = [some (.ref p), some (.ref m), some (.ref tk), y3, some (.int r), y5] ∧ H3 = H2) ?_ ?_ ?_
      · exact ⟨none, rfl, rfl⟩
      · rintro j σ H3 hj ⟨y5, rfl, rfl⟩
        walk_at "go"
        refine Kt.r_I (by decide) ?_
        walk_at "go"
        refine Kt.x_in e2 ?_
        walk_at "go"
        refine Kt.if_nb (fun e => ?_) (fun e => ?_)
        · walk_at "go"
          refine Kt.r_I (by decide) ?_
          refine k H3 _ kp2 pu2 fun q hq => ⟨fun z => ?_, fun z => ?_⟩
          · have := (hk q hq).1
            rw [z, e] at this
            cases this
          · have := (hk q hq).2
            rw [z, e] at this
            cases this
        · walk_at "go"
          exact ⟨_, rfl, rfl⟩
      · rintro σ H3 ⟨y5, rfl, rfl⟩
        walk_at "go"
        refine k H3 103 kp2 pu2 fun q hq => ?_
        have := rg q hq
        exact ⟨by omega, by omega⟩
end
end K42

namespace K42
open PySem PySem.Spec L2 M42
def sp__law_cycles (K : PySem.W.Frag) : Sp := fun vs H Q _ => ∃ (m : Addr) (ms : List Mv), vs = [.ref m] ∧ Prs H m ms ∧ (ms.map (·.1)).Nodup ∧ ms.length ≤ 100 ∧
  ∀ H' (n : Nat), Same H H' → (∀ Rs, Rings (Wof ms) Rs → Rs.length ≤ n) → Q (.int (n : Int)) H'
def sp__law_moved (K : PySem.W.Frag) : Sp := fun vs H Q _ => ∃ (m t : Addr) (spare : Int) (ms told : List Mv), vs = [.ref m, .int spare, .ref t] ∧ Prs H m ms ∧ Prs H t told ∧ (ms.map (·.1)).Nodup ∧ ms.length ≤ 100 ∧ told.length ≤ 1000 ∧ (∀ q ∈ ms, q.1 ≠ spare) ∧
  Good ms spare told ∧ ∀ H', Same H H' → Q (.bl true) H'
abbrev st__law_cycles : Stmt := topS 8
theorem sc__law_cycles : FnScope ["moves", "source", "pair", "count", "done", "first", "met", "place", "turn", "known"] ["moves"] (defScope st__law_cycles) := ⟨rfl, rfl, rfl, by decide +kernel, rfl, by decide +kernel, by decide +kernel⟩
abbrev st__law_moved : Stmt := topS 9
theorem sc__law_moved : FnScope ["moves", "spare", "told", "pair", "others", "held", "due", "place"] ["moves", "spare", "told"] (defScope st__law_moved) := ⟨rfl, rfl, rfl, by decide +kernel, rfl, by decide +kernel, by decide +kernel⟩
/-- the dict of what is held -/
structure HD (kv : List (Key × V)) (o : List Mv) : Prop where
  val : ∀ x, valV kv (.inl x) = if x ∈ o.map (·.1) then some (.int (content o x)) else none
  key : ∀ e ∈ kv, ∃ x, e.1 = (Sum.inl x : Key) ∧ x ∈ o.map (·.1)
theorem mem_putK {kv : List (Key × V)} {k : Key} {v : V} {e : Key × V} (h : e ∈ putK kv k v) : e.1 = k ∨ ∃ e' ∈ kv, e'.1 = e.1 := by
  unfold putK at h
  split at h
  · obtain ⟨e', he, h⟩ := List.mem_map.mp h
    right
    refine ⟨e', he, ?_⟩
    rw [← h]
    split <;> rfl
  · rcases List.mem_append.mp h with h | h
    · exact .inr ⟨e, h, rfl⟩
    · left
      have : e = (k, v) := by simpa using h
      rw [this]
theorem HD.put {kv : List (Key × V)} {o : List Mv} (h : HD kv o) (p : Mv) : HD (putK kv (.inl p.1) (.int (content o p.2))) (o ++ [p]) := by
  refine ⟨fun x => ?_, fun e he => ?_⟩
  · rw [valV_put, content_snoc]
    by_cases e : x = p.1
    · rw [if_pos (by rw [e]), if_pos (mem_snoc1.mpr (.inr e)), if_pos e]
    · rw [if_neg (fun z => e (Sum.inl.inj z)), h.val x, if_neg e]
      by_cases hm : x ∈ o.map (·.1)
      · rw [if_pos hm, if_pos (mem_snoc1.mpr (.inl hm))]
      · rw [if_neg hm, if_neg (fun z => (mem_snoc1.mp z).elim hm e)]
  · rcases mem_putK he with h1 | ⟨e', h1, h2⟩
    · exact ⟨p.1, h1, mem_snoc1.mpr (.inr rfl)⟩
    · obtain ⟨x, hx, hm⟩ := h.key e' h1
      exact ⟨x, by rw [← h2, hx], mem_snoc1.mpr (.inl hm)⟩
theorem HD.get {kv : List (Key × V)} {o : List Mv} (h : HD kv o) (x : Int) : (valV kv (.inl x)).getD (.int x) = .int (content o x) := by
  rw [h.val]
  by_cases hm : x ∈ o.map (·.1)
  · rw [if_pos hm]; rfl
  · rw [if_neg hm]
    show V.int x = .int (content o x)
    rw [show content o x = x from content_no x o id hm]
theorem due_get (ms : List Mv) (x : Int) : (valV (kvW ms) (.inl x)).getD (.int x) = .int (due ms x) := by
  rw [valV_kvW]
  unfold due
  cases (ms.find? fun p => decide (p.1 = x)) with
  | none => rfl
  | some p => rfl
section
variable {P : Program} {w : World} {K : PySem.W.Frag} {mg : Str → Option Value} {base : Heap}
structure T__law_cycles (P : Program) (w : World) (K : PySem.W.Frag) (mg : Str → Option Value) (base : Heap) : Prop where
  len_ : mg "len" = none
  range_ : mg "range" = none
structure T__law_moved (P : Program) (w : World) (K : PySem.W.Frag) (mg : Str → Option Value) (base : Heap) : Prop where
  isinstance_ : mg "isinstance" = none
  len_ : mg "len" = none
  tuple_ : mg "tuple" = none
  c__law_cycles : C8.Cal P w K mg base 1 "_law_cycles" (sp__law_cycles K) []
  c__law_is_integer : C8.Cal P w K mg base 1 "_law_is_integer" (sp__law_is_integer K) []
/-- a dict of marks: what it has is S -/
def DS (kv : List (Key × V)) (S : Int → Prop) : Prop := ∀ x, (valV kv (.inl x)).isSome = true ↔ S x
theorem DS.put {kv : List (Key × V)} {S : Int → Prop} (h : DS kv S) (a : Int) (v : V) : DS (putK kv (.inl a) v) (fun x => S x ∨ x = a) := fun x => by
  rw [valV_put]
  by_cases e : x = a
  · rw [if_pos (by rw [e])]
    exact ⟨fun _ => .inr e, fun _ => rfl⟩
  · rw [if_neg (fun z => e (Sum.inl.inj z)), h x]
    exact ⟨.inl, fun q => q.resolve_right e⟩
def kvM (l : List Int) : List (Key × V) := l.map fun x => (Sum.inl x, V.bl true)
theorem kvM_has (x : Int) : ∀ l : List Int, (valV (kvM l) (.inl x)).isSome = decide (x ∈ l)
  | [] => rfl
  | a :: l => by
    have ih := kvM_has x l
    show (valV ((Sum.inl a, V.bl true) :: kvM l) (.inl x)).isSome = _
    by_cases e : a = x
    · rw [valV_pos (p := ((Sum.inl a : Key), V.bl true)) (by rw [e])]
      simp [e]
    · rw [valV_neg (p := ((Sum.inl a : Key), V.bl true)) (fun z => e (Sum.inl.inj z)), ih]
      have e' : ¬ x = a := fun z => e z.symm
      simp [e']
theorem ok__law_cycles {f : Addr} {fd : FuncData} (F0_ : Fun K "_law_cycles" "_law_cycles" st__law_cycles f fd) (T : T__law_cycles P w K mg base) : FnOk P w K mg base CX0 1 f fd ["moves"] (sp__law_cycles K) := by
  refine F0_.ok sc__law_cycles (fun vs H Q E h => ?_) (fun cdv A outer s H vs Q E hr h => ?_)
  · obtain ⟨_, _, rfl, _⟩ := h
    rfl
  · obtain ⟨m, ms, rfl, ⟨ts, em, tm⟩, hn, ll, k⟩ := h
    refine ⟨_, (pss_cons (ps_set (i := 1) sc__law_cycles.nd rfl (.inl rfl) pe_dnewK)
(pss_cons (ps_for PassesOwn.never rfl (pi_list (pv 0)) (pg_name (i := 2) sc__law_cycles.nd rfl (.inl rfl))
(pss_one (ps_if (pt_cmpR op_ne (pe_ix ix_tup (pv 2) pe_int (fun _ _ => rfl)) (pe_ix ix_tup (pv 2) pe_int (fun _ _ => rfl)) (nomark _))
(pss_one (ps_dput (hu_of hr) (pv 1) (pe_ix ix_tup (pv 2) pe_int (fun _ _ => rfl)) (pe_ix ix_tup (pv 2) pe_int (fun _ _ => rfl)) rfl))
pss_nil)))
(pss_cons (ps_set (i := 3) sc__law_cycles.nd rfl (.inl rfl) pe_int)
(pss_cons (ps_set (i := 4) sc__law_cycles.nd rfl (.inl rfl) pe_dnewK)
(pss_cons (ps_lock (ps_for PassesOwn.never rfl (pi_keys (pv 1)) (pg_name (i := 5) sc__law_cycles.nd rfl (.inl rfl))
(pss_cons (ps_set (i := 6) sc__law_cycles.nd rfl (.inl rfl) pe_dnewK)
(pss_cons (ps_set (i := 7) sc__law_cycles.nd rfl (.inl rfl) (pv 5))
(pss_cons (ps_for PassesOwn.never rfl (pi_range1 (by rfl) T.range_ (pa_cons (pe_op op_add (pe_callB Kt.cr_lenD (by rfl) T.len_ PySem.boot_len (pa_cons (pv 1) pa_nil)) pe_int) pa_nil)) (pg_name (i := 8) sc__law_cycles.nd rfl (.inl rfl))
(pss_cons (ps_if (PW.pt (pw_or (pt_cmp (pc_dnotin (hu_of hr) (pv 7) (pv 1)) rfl) (pw_or (pt_cmp (pc_din (hu_of hr) (pv 7) (pv 4)) rfl) (pw_or1 (pt_cmp (pc_din (hu_of hr) (pv 7) (pv 6)) rfl)))))
(pss_one ps_break)
pss_nil)
(pss_cons (ps_dput (hu_of hr) (pv 6) (pv 7) pe_bl rfl)
(pss_one (ps_set (i := 7) sc__law_cycles.nd rfl (.inl rfl) (pe_dget (hu_of hr) (pv 1) (pv 7) (fun _ _ => rfl)))))))
(pss_cons (ps_if (pt_cmp (pc_din (hu_of hr) (pv 7) (pv 6)) rfl)
(pss_one (ps_set (i := 3) sc__law_cycles.nd rfl (.inl rfl) (pe_op op_add (pv 3) pe_int)))
pss_nil)
(pss_one (ps_lock (ps_for PassesOwn.never rfl (pi_keys (pv 6)) (pg_name (i := 9) sc__law_cycles.nd rfl (.inl rfl))
(pss_one (ps_dput (hu_of hr) (pv 4) (pv 9) pe_bl rfl)))))))))))
(pss_one (ps_ret (pv 3)))))))), ?_⟩
    dsimp only [L2.cxOf, L2.Cx.nox]
    walk_at "go"
    intro so hso
    walk_at "go"
    refine Kt.f_list (K := K) (xs := ts.map V.ref) 0 rfl (.of (by rw [upd_ne (ne_of_none em hso)]; exact em))
      (fun j σ H1 => ∃ (y2 : Option V), σ = [some (.ref m), some (.ref so), y2, none, none, none, none, none, none, none] ∧ (∀ b u, H b = some u → H1 b = some u) ∧ H1 so = some (.dK (kvW (others (ms.take j))))) ?_ ?_ ?_ ?_
    · exact ⟨none, rfl, same_new hso, upd_same⟩
    · rintro j σ H1 _ ⟨y2, rfl, s1, _⟩
      exact .of (s1 _ _ em)
    · rintro j x σ H1 hx ⟨y2, rfl, s1, e1⟩
      obtain ⟨t, ht, rfl⟩ := ref_get hx
      obtain ⟨q, hq, htq⟩ := tm.get ht
      have htq := s1 _ _ htq
      have ej := (List.getElem?_eq_some_iff.mp hq).1
      have es : ms.take (j + 1) = ms.take j ++ [q] := take_snoc hq
      walk_at "go"
      refine Kt.r_ixT0 htq rfl ?_
      walk_at "go"
      refine Kt.r_ixT1 htq rfl ?_
      walk_at "go"
      refine Kt.if_ndec (fun ne => ?_) (fun e => ?_)
      · walk_at "go"
        refine Kt.r_ixT1 htq rfl ?_
        walk_at "go"
        refine Kt.r_ixT0 htq rfl ?_
        refine Kt.x_put e1 (Kt.small ?_) ?_
        · have : (others (ms.take j)).length ≤ (ms.take j).length := List.length_filter_le _ _
          unfold kvW
          rw [List.length_map]
          rw [List.length_take] at this
          omega
        refine ⟨_, rfl, fun b u e => by rw [upd_ne (ne_of_none e hso)]; exact s1 b u e, ?_⟩
        rw [upd_same, es, others_snoc, if_pos ne, putK_new _ (kvW_new fun z => nodup_at hn hq (List.Sublist.mem z others_sub))]
        unfold kvW
        rw [List.map_append]
        rfl
      · walk_at "go"
        refine ⟨_, rfl, s1, ?_⟩
        rw [es, others_snoc, if_neg (fun z => z e)]
        exact e1
    · rintro σ H1 ⟨y2, rfl, s1, e1⟩
      rw [List.length_map, tm.length, List.take_length] at e1
      walk_at "go"
      intro dn hdn
      have nsd : so ≠ dn := ne_of_none e1 hdn
      have dn0 : H dn = none := by
        cases z : H dn with
        | none => rfl
        | some u => rw [s1 _ _ z] at hdn; cases hdn
      walk_at "go"
      have lks : (keysOf ms).length ≤ 100 := by
        unfold keysOf
        rw [List.length_map]
        exact Nat.le_trans (List.length_filter_le _ _) ll
      have lkv : (kvW (others ms)).length = (keysOf ms).length := by unfold kvW keysOf; rw [List.length_map, List.length_map]
      have srcAt : ∀ x : Int, (valV (kvW (others ms)) (.inl x)) = (Wof ms x).map V.int := fun x => valV_kvW x _
      have srcIn : ∀ x : Int, (valV (kvW (others ms)) (.inl x)).isSome = (Wof ms x).isSome := fun x => by rw [srcAt, Option.isSome_map]
      -- for first in source
      refine Kt.f_keys (kvs := kvW (others ms)) 1 rfl (by rw [upd_ne nsd]; exact e1)
        (fun od j σ H2 => ∃ (n : Nat) (kd : List (Key × V)) (S : Int → Prop) (y5 y6 y7 y8 y9 : Option V), σ = [some (.ref m), some (.ref so), y2, some (.int (n : Int)), some (.ref dn), y5, y6, y7, y8, y9] ∧
          (∀ b u, H b = some u → H2 b = some u) ∧ H2 so = some (.frz od (.dK (kvW (others ms)))) ∧ H2 dn = some (.dK kd) ∧ DS kd S ∧ Cnt (Wof ms) S n ∧ (∀ x ∈ (keysOf ms).take j, S x) ∧ kd.length ≤ 100 * j ∧ j ≤ 100) ?_ ?_ ?_ ?_
      · intro od
        refine ⟨0, [], fun _ => False, none, none, none, none, none, rfl, fun b u e => ?_, upd_same, ?_, fun x => ?_, Cnt.zero, fun x hx => (nomatch hx), Nat.le_refl _, Nat.zero_le _⟩
        · rw [upd_ne (ne_of_none e hso), upd_ne (ne_of_none (s1 b u e) hdn)]
          exact s1 b u e
        · rw [upd_ne nsd.symm, upd_same]
        · rw [valV_nil]
          exact ⟨fun z => (nomatch z), False.elim⟩
      · rintro od j σ H2 ⟨n, kd, S, y5, y6, y7, y8, y9, rfl, _, h, _⟩
        exact h
      · rintro od j kk v σ H2 hkv ⟨n, kd, S, y5, y6, y7, y8, y9, rfl, s2, e2, d2, hS, hC, hpre, lkd, j100⟩
        have hkv2 : ∃ p, (others ms)[j]? = some p ∧ (kk, v) = ((Sum.inl p.1 : Key), V.int p.2) := by
          unfold kvW at hkv
          rw [List.getElem?_map] at hkv
          cases e : (others ms)[j]? with
          | none => rw [e] at hkv; cases hkv
          | some p => rw [e] at hkv; exact ⟨p, rfl, (Option.some.inj hkv).symm⟩
        obtain ⟨q, hq, epp⟩ := hkv2
        cases epp
        have ek : (keysOf ms).take (j + 1) = (keysOf ms).take j ++ [q.1] := take_snoc (by unfold keysOf; rw [List.getElem?_map, hq]; rfl)
        have jlt : j < (keysOf ms).length := by
          have := (List.getElem?_eq_some_iff.mp hq).1
          unfold keysOf
          rw [List.length_map]
          exact this
        have hkey : (Wof ms q.1).isSome = true := (mem_keys hn).mp (List.mem_map_of_mem (List.mem_of_getElem? hq))
        show gName 5 (.int q.1) _ _ _
        walk_at "go"
        intro mt hmt
        have nmd : dn ≠ mt := ne_of_none d2 hmt
        have nms : so ≠ mt := ne_of_none e2 hmt
        have mt0 : H mt = none := by
          cases z : H mt with
          | none => rfl
          | some u => rw [s2 _ _ z] at hmt; cases hmt
        walk_at "go"
        refine Kt.f_rng ?_
        walk_at "go"
        have f2 : ∀ b u, H2 b = some u → (upd H2 mt (.dK [])) b = some u := fun b u e => by rw [upd_ne (ne_of_none e hmt)]; exact e
        refine Kt.r_lenDR (.inr ⟨od, f2 _ _ e2⟩) ?_
        rw [lkv]
        walk_at "go"
        refine Kt.x_rng (by omega) (by omega) ?_
        refine Kt.go_rngF (fun σ H4 => ∃ (M : List Int) (place : Int) (y8 : Option V), σ = [some (.ref m), some (.ref so), y2, some (.int (n : Int)), some (.ref dn), some (.int q.1), some (.ref mt), some (.int place), y8, y9] ∧
            (∀ b u, H b = some u → H4 b = some u) ∧ H4 so = some (.frz od (.dK (kvW (others ms)))) ∧ H4 dn = some (.dK kd) ∧ H4 mt = some (.dK (kvM M)) ∧ Pth (Wof ms) q.1 M place ∧ M.Nodup ∧ (∀ x ∈ M, x ∈ keysOf ms) ∧
            ((Wof ms place = none ∧ place ∉ M) ∨ (S place ∧ place ∉ M) ∨ place ∈ M))
          (fun i σ H4 => ∃ (M : List Int) (place : Int) (y8 : Option V), σ = [some (.ref m), some (.ref so), y2, some (.int (n : Int)), some (.ref dn), some (.int q.1), some (.ref mt), some (.int place), y8, y9] ∧
            (∀ b u, H b = some u → H4 b = some u) ∧ H4 so = some (.frz od (.dK (kvW (others ms)))) ∧ H4 dn = some (.dK kd) ∧ H4 mt = some (.dK (kvM M)) ∧ Pth (Wof ms) q.1 M place ∧ M.Nodup ∧ (∀ x ∈ M, x ∈ keysOf ms) ∧ (∀ x ∈ M, ¬ S x) ∧ M.length = i) ?_ ?_ ?_ ?_
        · exact ⟨[], q.1, y8, rfl, fun b u e => f2 _ _ (s2 b u e), f2 _ _ e2, f2 _ _ d2, upd_same, rfl, .nil, fun x hx => (nomatch hx), fun x hx => (nomatch hx), rfl⟩
        · rintro σ H4 ⟨M, place, y8, rfl, s4, e4, d4, m4, pth, mnd, mk, hend⟩
          have mlen : M.length ≤ 100 := Nat.le_trans (sub_len mnd mk) lks
          walk_at "go"
          refine Kt.x_in m4 ?_
          rw [kvM_has]
          walk_at "go"
          -- the last loop: all of met is done
          have last : ∀ (n2 : Nat), Cnt (Wof ms) (fun x => S x ∨ x ∈ M) n2 → ∀ (N : St → Hp → Prop) (R : VK) (b c' : St → Hp → Prop),
              (∀ σ H5, (∃ (n : Nat) (kd : List (Key × V)) (S : Int → Prop) (y5 y6 y7 y8 y9 : Option V), σ = [some (.ref m), some (.ref so), y2, some (.int (n : Int)), some (.ref dn), y5, y6, y7, y8, y9] ∧
                (∀ b u, H b = some u → H5 b = some u) ∧ H5 so = some (.frz od (.dK (kvW (others ms)))) ∧ H5 dn = some (.dK kd) ∧ DS kd S ∧ Cnt (Wof ms) S n ∧ (∀ x ∈ (keysOf ms).take (j + 1), S x) ∧ kd.length ≤ 100 * (j + 1) ∧ j + 1 ≤ 100) → N σ H5) →
              tLock (tFor (iKeys (tVar 6)) (gName 9) (sDPut (tVar 4) (tVar 9) (tC (V.bl true)))) ⟨N, R, b, c'⟩ [some (.ref m), some (.ref so), y2, some (.int (n2 : Int)), some (.ref dn), some (.int q.1), some (.ref mt), some (.int place), y8, y9] H4 := by
            intro n2 hC2 N R b c' fin
            refine Kt.f_keys (kvs := kvM M) 6 rfl m4 (fun od2 i σ H5 => ∃ (kd5 : List (Key × V)) (y9 : Option V), σ = [some (.ref m), some (.ref so), y2, some (.int (n2 : Int)), some (.ref dn), some (.int q.1), some (.ref mt), some (.int place), y8, y9] ∧
              (∀ b u, H b = some u → H5 b = some u) ∧ H5 so = some (.frz od (.dK (kvW (others ms)))) ∧ H5 dn = some (.dK kd5) ∧ H5 mt = some (.frz od2 (.dK (kvM M))) ∧ DS kd5 (fun x => S x ∨ x ∈ M.take i) ∧ kd5.length ≤ kd.length + i ∧ i ≤ M.length) ?_ ?_ ?_ ?_
            · intro od2
              refine ⟨kd, y9, rfl, fun b u e => by rw [upd_ne (ne_of_none e mt0)]; exact s4 b u e, by rw [upd_ne nms]; exact e4, by rw [upd_ne nmd]; exact d4, upd_same, fun x => ?_, Nat.le_refl _, Nat.zero_le _⟩
              rw [hS x]
              exact ⟨.inl, fun h => h.elim (fun h => h) (fun h => (nomatch h))⟩
            · rintro od2 i σ H5 ⟨kd5, y9, rfl, _, _, _, h, _⟩
              exact h
            · rintro od2 i kk v σ H5 hkv ⟨kd5, y9, rfl, s5, e5, d5, m5, hS5, l5, il⟩
              have hkv2 : ∃ x, M[i]? = some x ∧ (kk, v) = ((Sum.inl x : Key), V.bl true) := by
                unfold kvM at hkv
                rw [List.getElem?_map] at hkv
                cases e : M[i]? with
                | none => rw [e] at hkv; cases hkv
                | some p => rw [e] at hkv; exact ⟨p, rfl, (Option.some.inj hkv).symm⟩
              obtain ⟨x, hx, epp⟩ := hkv2
              cases epp
              have ilt := (List.getElem?_eq_some_iff.mp hx).1
              have nmd2 : mt ≠ dn := nmd.symm
              show gName 9 (.int x) _ _ _
              walk_at "go"
              refine Kt.x_put d5 (Kt.small (by omega)) ?_
              have lp := length_putK kd5 (.inl x) (.bl true)
              refine ⟨_, _, rfl, fun b u e => by rw [upd_ne (ne_of_none e dn0)]; exact s5 b u e, by rw [upd_ne nsd]; exact e5, upd_same, by rw [upd_ne nmd2]; exact m5, fun z => ?_, by omega, by omega⟩
              rw [hS5.put x _ z, take_snoc hx]
              show ((S z ∨ z ∈ M.take i) ∨ z = x) ↔ (S z ∨ z ∈ M.take i ++ [x])
              rw [List.mem_append, List.mem_singleton, or_assoc]
            · rintro od2 σ H5 ⟨kd5, y9, rfl, s5, e5, d5, m5, hS5, l5, il⟩
              have el : (kvM M).length = M.length := List.length_map ..
              rw [el, List.take_length] at hS5
              rw [el] at l5
              refine fin _ _ ⟨n2, kd5, fun x => S x ∨ x ∈ M, _, _, _, _, _, rfl, fun b u e => by rw [upd_ne (ne_of_none e mt0)]; exact s5 b u e, by rw [upd_ne nms]; exact e5, by rw [upd_ne nmd]; exact d5, hS5, hC2, fun x hx => ?_, by omega, by omega⟩
              rw [ek] at hx
              rcases List.mem_append.mp hx with hx | hx
              · exact .inl (hpre x hx)
              · have ex : x = q.1 := by simpa using hx
                rw [ex]
                cases M with
                | nil =>
                  have ep : q.1 = place := pth
                  rcases hend with h | h | h
                  · rw [ep, h.1] at hkey; cases hkey
                  · exact .inl (by rw [ep]; exact h.1)
                  · exact nomatch h
                | cons z M =>
                  have ez := pth.1
                  exact .inr (by rw [ez]; exact List.mem_cons_self ..)
          refine Kt.if_dec (fun hin => ?_) (fun hin => ?_)
          · walk_at "go"
            exact last (n + 1) (hC.in_ pth) _ _ _ _ fun σ H5 h => h
          · refine last n (hC.out pth ?_) _ _ _ _ fun σ H5 h => h
            rcases hend with h | h | h
            · exact .inl h.1
            · exact .inr h.1
            · exact (hin h).elim
        · rintro n' hfin i σ H4 hi ⟨M, place, y8, rfl, s4, e4, d4, m4, pth, mnd, mk, mS, mlen⟩
          walk_at "go"
          refine Kt.x_inR (.inr ⟨od, e4⟩) ?_
          rw [srcIn]
          walk_at "go"
          have notM : Wof ms place = none → place ∉ M := fun h hm => by
            have := (mem_keys hn).mp (mk place hm)
            rw [h] at this
            cases this
          refine Kt.if_nb (fun e => ?_) (fun e => ?_)
          · have e : Wof ms place = none := by
              cases z : Wof ms place with
              | none => rfl
              | some _ => rw [z] at e; cases e
            walk_at "go"
            exact hfin _ _ ⟨M, place, _, rfl, s4, e4, d4, m4, pth, mnd, mk, .inl ⟨e, notM e⟩⟩
          · obtain ⟨nxt, en⟩ := Option.isSome_iff_exists.mp e
            walk_at "go"
            refine Kt.x_in d4 ?_
            walk_at "go"
            refine Kt.if_b (fun e => ?_) (fun e => ?_)
            · walk_at "go"
              have hSp := (hS place).mp e
              exact hfin _ _ ⟨M, place, _, rfl, s4, e4, d4, m4, pth, mnd, mk, .inr (.inl ⟨hSp, fun hm => mS place hm hSp⟩)⟩
            · have nSp : ¬ S place := fun h => by
                have := (hS place).mpr h
                rw [this] at e
                cases e
              walk_at "go"
              refine Kt.x_in m4 ?_
              rw [kvM_has]
              walk_at "go"
              refine Kt.if_dec (fun hin => ?_) (fun hin => ?_)
              · walk_at "go"
                exact hfin _ _ ⟨M, place, _, rfl, s4, e4, d4, m4, pth, mnd, mk, .inr (.inr hin)⟩
              · walk_at "go"
                have pk : place ∈ keysOf ms := (mem_keys hn).mpr (by rw [en]; rfl)
                have nd2 : (M ++ [place]).Nodup := by
                  rw [List.nodup_append]
                  exact ⟨mnd, by simp, fun a ha b hb e => hin (by
                    have : b = place := by simpa using hb
                    rw [← this, ← e]
                    exact ha)⟩
                have mk2 : ∀ x ∈ M ++ [place], x ∈ keysOf ms := fun x hx => by
                  rcases List.mem_append.mp hx with hx | hx
                  · exact mk x hx
                  · have : x = place := by simpa using hx
                    rw [this]
                    exact pk
                have lM := sub_len nd2 mk2
                rw [List.length_append, List.length_singleton] at lM
                refine Kt.x_put m4 (Kt.small (by unfold kvM; rw [List.length_map]; omega)) ?_
                have em4 : putK (kvM M) (.inl place) (.bl true) = kvM (M ++ [place]) := by
                  rw [putK_new]
                  · unfold kvM
                    rw [List.map_append]
                    rfl
                  · have := kvM_has place M
                    rw [decide_eq_false hin] at this
                    cases z : valV (kvM M) (.inl place) with
                    | none => rfl
                    | some _ => rw [z] at this; cases this
                rw [em4]
                walk_at "go"
                refine Kt.x_getR (v := .int nxt) (.inr ⟨od, by rw [upd_ne nms]; exact e4⟩) (by rw [srcAt, en]; rfl) ?_
                walk_at "go"
                refine ⟨M ++ [place], nxt, _, rfl, fun b u e => by rw [upd_ne (ne_of_none e mt0)]; exact s4 b u e, by rw [upd_ne nms]; exact e4, by rw [upd_ne nmd]; exact d4, upd_same, pth.snoc en, nd2, mk2, fun x hx => ?_, by rw [List.length_append, List.length_singleton, mlen]⟩
                rcases List.mem_append.mp hx with hx | hx
                · exact mS x hx
                · have : x = place := by simpa using hx
                  rw [this]
                  exact nSp
        · rintro σ H4 ⟨M, place, y8, rfl, s4, e4, d4, m4, pth, mnd, mk, mS, mlen⟩
          have lM := sub_len mnd mk
          omega
      · rintro od σ H2 ⟨n, kd, S, y5, y6, y7, y8, y9, rfl, s2, e2, d2, hS, hC, hpre, lkd, j100⟩
        rw [lkv, List.take_length] at hpre
        walk_at "go"
        refine k _ n (fun b u e => ?_) fun Rs hR => hC.all (fun x y e => hpre x ((mem_keys hn).mpr (by rw [e]; rfl))) hR
        rw [upd_ne (ne_of_none e hso)]
        exact s2 b u e
theorem ok__law_moved {f : Addr} {fd : FuncData} (F0_ : Fun K "_law_moved" "_law_moved" st__law_moved f fd) (T : T__law_moved P w K mg base) : FnOk P w K mg base CX0 2 f fd ["moves", "spare", "told"] (sp__law_moved K) := by
  refine F0_.ok sc__law_moved (fun vs H Q E h => ?_) (fun cdv A outer s H vs Q E hr h => ?_)
  · obtain ⟨_, _, _, _, _, rfl, _⟩ := h
    rfl
  · obtain ⟨m, t, spare, ms, told, rfl, ⟨ts, em, tm⟩, ⟨tt, et, ttold⟩, hn, ll, lt, hsp, G, k⟩ := h
    refine ⟨_, (pss_cons (ps_setLc (i := 4) (own := [("pair", 3)]) (g := (gName 3)) (tt := (tTest (tOp _ (tOp (rIxT K) (tVar 3) (tC _)) (tOp (rIxT K) (tVar 3) (tC _))))) (te := (tVar 3)) rfl sc__law_moved.nd rfl rfl (sw_true rfl rfl rfl (by decide +kernel)) (pi_list (pv 0)) (blkOk_by (own := [("pair", 3)]) (N := ["moves", "spare", "told", "pair", "others", "held", "due", "place"]) (sc := defScope st__law_moved) (by decide +kernel)) (fun _ _ _ _ _ => (pg_name (i := 3) sc__law_moved.nd rfl (.inl rfl))) (fun _ _ _ _ _ => (pts_one (pt_cmpR op_ne (pe_ix ix_tup (pv 3) pe_int (fun _ _ => rfl)) (pe_ix ix_tup (pv 3) pe_int (fun _ _ => rfl)) (nomark _)))) (fun _ _ _ _ _ => (pv 3)))
(pss_cons (ps_if (pt_cmpR op_gt (pe_callB Kt.cr_len (by rfl) T.len_ PySem.boot_len (pa_cons (pv 2) pa_nil)) (pe_op op_add (pe_callB Kt.cr_len (by rfl) T.len_ PySem.boot_len (pa_cons (pv 4) pa_nil)) (C8.pe_c T.c__law_cycles hr (by decide) rfl (pa_cons (pv 0) pa_nil))) (nomark _))
(pss_one (ps_ret pe_bl))
pss_nil)
(pss_cons (ps_set (i := 5) sc__law_moved.nd rfl (.inl rfl) pe_dnewK)
(pss_cons (ps_for PassesOwn.never rfl (pi_list (pv 2)) (pg_name (i := 3) sc__law_moved.nd rfl (.inl rfl))
(pss_cons (ps_if (PW.pt (pw_or (pt_not (pt_val (pe_callB call_isi (by rfl) T.isinstance_ (by decide +kernel) (pa_cons (pv 3) (pa_cons (pe_bltn (v := .ty "tuple") (u := Value.type "tuple") (by rfl) T.tuple_ (by decide +kernel) rfl) pa_nil))))) (pw_or1 (pt_cmpR op_ne (pe_callB Kt.cr_len (by rfl) T.len_ PySem.boot_len (pa_cons (pv 3) pa_nil)) pe_int (nomark _)))))
(pss_one (ps_ret pe_bl))
pss_nil)
(pss_cons (ps_if (PW.pt (pw_or (pt_not (pt_val (C8.pe_c T.c__law_is_integer hr (by decide) rfl (pa_cons (pe_ix ix_tup (pv 3) pe_int (fun _ _ => rfl)) pa_nil)))) (pw_or (pt_not (pt_val (C8.pe_c T.c__law_is_integer hr (by decide) rfl (pa_cons (pe_ix ix_tup (pv 3) pe_int (fun _ _ => rfl)) pa_nil)))) (pw_or1 (pt_cmpR op_eq (pe_ix ix_tup (pv 3) pe_int (fun _ _ => rfl)) (pe_ix ix_tup (pv 3) pe_int (fun _ _ => rfl)) (nomark _))))))
(pss_one (ps_ret pe_bl))
pss_nil)
(pss_one (ps_dput (hu_of hr) (pv 5) (pe_ix ix_tup (pv 3) pe_int (fun _ _ => rfl)) (pe_dget2 (hu_of hr) (pv 5) (pe_ix ix_tup (pv 3) pe_int (fun _ _ => rfl)) (pe_ix ix_tup (pv 3) pe_int (fun _ _ => rfl)) ⟨rfl, rfl, rfl, rfl⟩) rfl)))))
(pss_cons (ps_set (i := 6) sc__law_moved.nd rfl (.inl rfl) pe_dnewK)
(pss_cons (ps_for PassesOwn.never rfl (pi_list (pv 0)) (pg_name (i := 3) sc__law_moved.nd rfl (.inl rfl))
(pss_one (ps_dput (hu_of hr) (pv 6) (pe_ix ix_tup (pv 3) pe_int (fun _ _ => rfl)) (pe_ix ix_tup (pv 3) pe_int (fun _ _ => rfl)) rfl)))
(pss_cons (ps_lock (ps_for PassesOwn.never rfl (pi_keys (pv 5)) (pg_name (i := 7) sc__law_moved.nd rfl (.inl rfl))
(pss_one (ps_if (PW.pt (pw_and (pt_cmpR op_ne (pv 7) (pv 1) (nomark _)) (pw_and1 (pt_cmpR op_ne (pe_dget (hu_of hr) (pv 5) (pv 7) (fun _ _ => rfl)) (pe_dget2 (hu_of hr) (pv 6) (pv 7) (pv 7) ⟨rfl, rfl, rfl, rfl⟩) (nomark _)))))
(pss_one (ps_ret pe_bl))
pss_nil))))
(pss_cons (ps_lock (ps_for PassesOwn.never rfl (pi_keys (pv 6)) (pg_name (i := 7) sc__law_moved.nd rfl (.inl rfl))
(pss_one (ps_if (pt_cmpR op_ne (pe_dget2 (hu_of hr) (pv 5) (pv 7) (pv 7) ⟨rfl, rfl, rfl, rfl⟩) (pe_dget (hu_of hr) (pv 6) (pv 7) (fun _ _ => rfl)) (nomark _))
(pss_one (ps_ret pe_bl))
pss_nil))))
(pss_one (ps_ret pe_bl)))))))))), ?_⟩
    dsimp only [L2.cxOf, L2.Cx.nox]
    walk_at "go"
    -- others
    refine Kt.l_list (K := K) (xs := ts.map V.ref) 0 rfl (.of em) (fun D j H' => H D = none ∧ ∃ acc, H' = upd H D (.lst acc) ∧ acc.length = (others (ms.take j)).length) ?_ ?_ ?_ ?_
    · exact fun D hD => ⟨hD, [], rfl, rfl⟩
    · rintro D j H' _ ⟨hD, acc, rfl, _⟩
      exact .of (by rw [upd_ne (ne_of_none em hD)]; exact em)
    · rintro D j x H' hx ⟨hD, acc, rfl, la⟩
      obtain ⟨tq, ht, rfl⟩ := ref_get hx
      obtain ⟨q, hq, htq⟩ := tm.get ht
      have ej := (List.getElem?_eq_some_iff.mp hq).1
      have htq : (upd H D (.lst acc)) tq = some (.tup [.int q.1, .int q.2]) := by rw [upd_ne (ne_of_none htq hD)]; exact htq
      walk_at "go"
      refine ⟨rfl, ?_⟩
      walk_at "go"
      refine Kt.r_ixT0 htq rfl ?_
      walk_at "go"
      refine Kt.r_ixT1 htq rfl ?_
      walk_at "go"
      refine Kt.if_ndec (fun ne => ?_) (fun e => ?_)
      · walk_at "go"
        refine ⟨acc, upd_same, Kt.small ?_, hD, _, upd_upd, ?_⟩
        · have a3 : (others (ms.take j)).length ≤ (ms.take j).length := List.length_filter_le _ _
          rw [List.length_take] at a3
          omega
        · rw [take_snoc hq, others_snoc, if_pos ne, List.length_append, List.length_append, la]
          rfl
      · refine ⟨hD, acc, rfl, ?_⟩
        rw [take_snoc hq, others_snoc, if_neg (fun z => z e)]
        exact la
    · rintro ot H' hot ⟨_, acc, rfl, la⟩
      rw [List.length_map, tm.length, List.take_length] at la
      have s1 : Same H (upd H ot (.lst acc)) := same_new hot
      have e1 : (upd H ot (.lst acc)) ot = some (.lst acc) := upd_same
      generalize upd H ot (.lst acc) = H1 at s1 e1 ⊢
      walk_at "go"
      refine Kt.r_lenL (s1 _ _ et) ?_
      walk_at "go"
      refine Kt.r_lenL e1 ?_
      walk_at "go"
      refine ⟨m, ms, rfl, Prs.same ⟨ts, em, tm⟩ s1, hn, ll, fun H2 n s2 hcyc => ?_⟩
      have s2 := s1.trans s2
      clear s1 e1
      walk_at "go"
      obtain ⟨Rs, hR, hlen⟩ := G.len
      have hc := hcyc Rs hR
      rw [List.length_map, ttold.length, la]
      refine Kt.if_dec (fun hgt => by omega) (fun _ => ?_)
      walk_at "go"
      intro hd hhd
      have hd0 := s2.free hhd
      walk_at "go"
      -- what is held
      refine Kt.f_list (K := K) (xs := tt.map V.ref) 2 rfl (.of (by rw [upd_ne (ne_of_none (s2 _ _ et) hhd)]; exact s2 _ _ et)) (fun j σ H3 => ∃ (kv : List (Key × V)) (y3 : Option V), σ = [some (.ref m), some (.int spare), some (.ref t), y3, some (.ref ot), some (.ref hd), none, none] ∧
        Same H H3 ∧ H3 hd = some (.dK kv) ∧ HD kv (told.take j) ∧ kv.length ≤ j) ?_ ?_ ?_ ?_
      · refine ⟨[], none, rfl, same_mut s2 hd0, upd_same, ⟨fun x => ?_, fun e he => (nomatch he)⟩, Nat.le_refl _⟩
        rw [valV_nil, if_neg (fun z => nomatch z)]
      · rintro j σ H3 _ ⟨kv, y3, rfl, s3, _⟩
        exact .of (s3 _ _ et)
      · rintro j x σ H3 hx ⟨kv, y3, rfl, s3, e3, hK, lk⟩
        obtain ⟨tq, ht, rfl⟩ := ref_get hx
        obtain ⟨q, hq, htq⟩ := ttold.get ht
        have htq := s3 _ _ htq
        have ej := (List.getElem?_eq_some_iff.mp hq).1
        walk_at "go"
        refine Kt.r_isi (k := true) (.ty "tuple") (.base (.tup htq)) (kit_ty (by decide +kernel)) ?_
        walk_at "go"
        refine Kt.r_len (.inr (.of htq)) ?_
        walk_at "go"
        refine Kt.if_ndec (fun ne => (ne rfl).elim) (fun _ => ?_)
        walk_at "go"
        refine Kt.r_ixT0 htq rfl ?_
        walk_at "go"
        refine ⟨_, rfl, ?_⟩
        walk_at "go"
        refine Kt.r_ixT1 htq rfl ?_
        walk_at "go"
        refine ⟨_, rfl, ?_⟩
        walk_at "go"
        refine Kt.r_ixT0 htq rfl ?_
        walk_at "go"
        refine Kt.r_ixT1 htq rfl ?_
        walk_at "go"
        refine Kt.if_dec (fun e => (G.unlike q (List.mem_of_getElem? hq) e).elim) (fun _ => ?_)
        walk_at "go"
        refine Kt.x_get2a e3 ?_
        walk_at "go"
        refine Kt.r_ixT1 htq rfl ?_
        walk_at "go"
        refine Kt.r_ixT1 htq rfl ?_
        refine Kt.x_get2b e3 ?_
        rw [hK.get]
        walk_at "go"
        refine Kt.r_ixT0 htq rfl ?_
        refine Kt.x_put e3 (Kt.small (by omega)) ?_
        have lp := length_putK kv (.inl q.1) (.int (content (told.take j) q.2))
        refine ⟨_, _, rfl, same_mut s3 hd0, upd_same, ?_, by omega⟩
        rw [take_snoc hq]
        exact hK.put q
      · rintro σ H3 ⟨kv, y3, rfl, s3, e3, hK, lk⟩
        rw [List.length_map, ttold.length] at lk
        rw [List.length_map, ttold.length, List.take_length] at hK
        walk_at "go"
        intro du hdu
        have nhu : hd ≠ du := ne_of_none e3 hdu
        have du0 := s3.free hdu
        walk_at "go"
        refine Kt.f_list (K := K) (xs := ts.map V.ref) 0 rfl (.of (by rw [upd_ne (ne_of_none (s3 _ _ em) hdu)]; exact s3 _ _ em)) (fun j σ H4 => ∃ (y3 : Option V), σ = [some (.ref m), some (.int spare), some (.ref t), y3, some (.ref ot), some (.ref hd), some (.ref du), none] ∧
          Same H H4 ∧ H4 hd = some (.dK kv) ∧ H4 du = some (.dK (kvW (ms.take j)))) ?_ ?_ ?_ ?_
        · exact ⟨y3, rfl, same_mut s3 du0, by rw [upd_ne nhu]; exact e3, upd_same⟩
        · rintro j σ H4 _ ⟨y3, rfl, s4, _⟩
          exact .of (s4 _ _ em)
        · rintro j x σ H4 hx ⟨y3, rfl, s4, e4, d4⟩
          obtain ⟨tq, ht, rfl⟩ := ref_get hx
          obtain ⟨q, hq, htq⟩ := tm.get ht
          have htq := s4 _ _ htq
          have ej := (List.getElem?_eq_some_iff.mp hq).1
          walk_at "go"
          refine Kt.r_ixT1 htq rfl ?_
          walk_at "go"
          refine Kt.r_ixT0 htq rfl ?_
          refine Kt.x_put d4 (Kt.small (by unfold kvW; rw [List.length_map, List.length_take]; omega)) ?_
          refine ⟨_, rfl, same_mut s4 du0, by rw [upd_ne nhu]; exact e4, ?_⟩
          rw [upd_same, take_snoc hq, putK_new _ (kvW_new (nodup_at hn hq))]
          unfold kvW
          rw [List.map_append]
          rfl
        · rintro σ H4 ⟨y3, rfl, s4, e4, d4⟩
          rw [List.length_map, tm.length, List.take_length] at d4
          walk_at "go"
          refine Kt.f_keys 5 rfl e4 (fun od j σ H5 => ∃ (y7 : Option V), σ = [some (.ref m), some (.int spare), some (.ref t), y3, some (.ref ot), some (.ref hd), some (.ref du), y7] ∧ H5 = upd H4 hd (.frz od (.dK kv))) ?_ ?_ ?_ ?_
          · exact fun od => ⟨none, rfl, rfl⟩
          · rintro od j σ H5 ⟨y7, rfl, rfl⟩
            exact upd_same
          · rintro od j kk v σ H5 hkv ⟨y7, rfl, rfl⟩
            obtain ⟨x, ex, hx⟩ := hK.key _ (List.mem_of_getElem? hkv)
            have ex : kk = Sum.inl x := ex
            subst ex
            have d5 : (upd H4 hd (.frz od (.dK kv))) du = some (.dK (kvW ms)) := by rw [upd_ne nhu.symm]; exact d4
            show gName 7 (.int x) _ _ _
            walk_at "go"
            refine Kt.if_ndec (fun ne => ?_) (fun e => ?_)
            · walk_at "go"
              refine Kt.x_getR (v := .int (content told x)) (.inr ⟨od, upd_same⟩) (by rw [hK.val, if_pos hx]) ?_
              walk_at "go"
              refine Kt.x_get2a d5 ?_
              walk_at "go"
              refine Kt.x_get2b d5 ?_
              rw [due_get]
              walk_at "go"
              refine Kt.if_ndec (fun ne2 => (ne2 (G.right x ne)).elim) (fun _ => ?_)
              walk_at "go"
              exact ⟨_, rfl, rfl⟩
            · walk_at "go"
              exact ⟨_, rfl, rfl⟩
          · rintro od σ H5 ⟨y7, rfl, rfl⟩
            rw [upd_upd]
            have s6 : Same H4 (upd H4 hd (.dK kv)) := fun b u e => by
              by_cases z : b = hd
              · rw [z, upd_same, ← e4, ← z, e]
              · rw [upd_ne z]; exact e
            generalize upd H4 hd (.dK kv) = H6 at s6 ⊢
            have e6 := s6 _ _ e4
            have d6 := s6 _ _ d4
            walk_at "go"
            refine Kt.f_keys 6 rfl d6 (fun od j σ H7 => ∃ (y7 : Option V), σ = [some (.ref m), some (.int spare), some (.ref t), y3, some (.ref ot), some (.ref hd), some (.ref du), y7] ∧ H7 = upd H6 du (.frz od (.dK (kvW ms)))) ?_ ?_ ?_ ?_
            · exact fun od => ⟨y7, rfl, rfl⟩
            · rintro od j σ H7 ⟨y7, rfl, rfl⟩
              exact upd_same
            · rintro od j kk v σ H7 hkv ⟨y7, rfl, rfl⟩
              have hkv2 : ∃ p, ms[j]? = some p ∧ (kk, v) = ((Sum.inl p.1 : Key), V.int p.2) := by
                unfold kvW at hkv
                rw [List.getElem?_map] at hkv
                cases e : ms[j]? with
                | none => rw [e] at hkv; cases hkv
                | some p => rw [e] at hkv; exact ⟨p, rfl, (Option.some.inj hkv).symm⟩
              obtain ⟨q, hq, epp⟩ := hkv2
              cases epp
              have hqm := List.mem_of_getElem? hq
              have e7 : (upd H6 du (.frz od (.dK (kvW ms)))) hd = some (.dK kv) := by rw [upd_ne nhu]; exact e6
              show gName 7 (.int q.1) _ _ _
              walk_at "go"
              refine Kt.x_get2a e7 ?_
              walk_at "go"
              refine Kt.x_get2b e7 ?_
              rw [hK.get]
              walk_at "go"
              refine Kt.x_getR (v := .int q.2) (.inr ⟨od, upd_same⟩) (by rw [valV_kvW, find_of hn hqm]; rfl) ?_
              walk_at "go"
              refine Kt.if_ndec (fun ne2 => (ne2 ?_).elim) (fun _ => ?_)
              · rw [G.right q.1 (hsp q hqm), due_of hn (b := q.2) hqm]
              · walk_at "go"
                exact ⟨_, rfl, rfl⟩
            · rintro od σ H7 ⟨y7, rfl, rfl⟩
              rw [upd_upd]
              walk_at "go"
              refine k _ (fun b u e => ?_)
              rw [upd_ne (ne_of_none e du0)]
              exact s6 _ _ (s4 b u e)
end
end K42

namespace K42
open PySem PySem.Spec L2 M42
def dPairs (ms : List Mv) : PyData := .list (ms.map fun p => .tuple [.int p.1, .int p.2])
theorem Prs.dp {K : PySem.W.Frag} {H : Hp} {l : Addr} {ms : List Mv} (h : Prs H l ms) : Dp K H (.ref l) (dPairs ms) := by
  obtain ⟨ts, e, t⟩ := h
  refine .lst (.of e) ?_
  clear e
  induction t with
  | nil => exact .nil
  | cons a _ ih => exact .cons (.tup (.of a) (.cons (.int _) (.cons (.int _) .nil))) ih
theorem dPairs_can (ms : List Mv) : PyData.canLayAll0 (ms.map fun p => PyData.tuple [.int p.1, .int p.2]) = true := by
  induction ms with
  | nil => rfl
  | cons a l ih => simp only [List.map_cons, PyData.canLayAll0, PyData.canLay0, ih, Bool.and_self]
theorem dPairs_shaped (ms : List Mv) : SeqAt.shaped (dPairs ms) = true := by
  have h1 := dPairs_can ms
  have h2 : PyData.depthAll (ms.map fun p => PyData.tuple [.int p.1, .int p.2]) ≤ 3 := by
    clear h1
    induction ms with
    | nil => exact Nat.zero_le _
    | cons a l ih => simp only [List.map_cons, PyData.depthAll, PyData.depth]; omega
  unfold SeqAt.shaped dPairs
  simp only [PyData.canLay0, PyData.depth, h1, Bool.true_and]
  exact decide_eq_true (Nat.le_trans (Nat.add_le_add_right h2 1) (show 3 + 1 ≤ 64 by decide))
theorem dPairs_eq (ms : List Mv) : PyData.eqv (dPairs ms) (dPairs ms) = true := by
  refine PySem.SeqAt.eqv_refl _ ?_
  unfold dPairs
  simp only [PyData.canLay0]
  exact dPairs_can ms
theorem r_neP {K : PySem.W.Frag} {H : Hp} {Q : VK} {a b : Addr} {ms : List Mv} (h1 : Prs H a ms) (h2 : Prs H b ms) (q : Q (.bl (!true)) H) : rNeD K (.ref a) (.ref b) H Q :=
  ⟨_, _, h1.dp, h2.dp, dPairs_shaped ms, dPairs_shaped ms, by rw [dPairs_eq]; exact q⟩
/-- a copy of a list of pairs -/
theorem Prs.copy {H : Hp} {l : Addr} {ms : List Mv} {ts : List Addr} (t : PrT H ts ms) (hl : H l = none) : Prs (upd H l (.lst (ts.map V.ref))) l ms :=
  ⟨ts, upd_same, t.keep fun b xs e => by rw [upd_ne (ne_of_none e hl)]; exact e⟩
theorem PrT.reverse {H : Hp} {ts : List Addr} {ps : List Mv} (h : PrT H ts ps) : PrT H ts.reverse ps.reverse := by
  induction h with
  | nil => exact .nil
  | cons a _ ih => rw [List.reverse_cons, List.reverse_cons]; exact ih.snoc a
def spLaw (K : PySem.W.Frag) : Sp := fun vs H Q _ => ∃ (a : Addr) (ns : List Int), vs = [.ref a] ∧ SqL K H a (ns.map V.int) ∧ ns.length ≤ 63 ∧ ∀ H', Q (.bl true) H'
abbrev st_law : Stmt := topS 14
theorem sc_law : FnScope ["script", "purse", "moves", "spare", "handed", "told", "again", "back", "great", "turned"] ["script"] (defScope st_law) := ⟨rfl, rfl, rfl, by decide +kernel, rfl, by decide +kernel, by decide +kernel⟩
section
variable {P : Program} {w : World} {K : PySem.W.Frag} {mg : Str → Option Value} {base : Heap}
structure T_law (P : Program) (w : World) (K : PySem.W.Frag) (mg : Str → Option Value) (base : Heap) : Prop where
  isinstance_ : mg "isinstance" = none
  list_ : mg "list" = none
  c__law_moved : C8.Cal P w K mg base 2 "_law_moved" (sp__law_moved K) []
  c__law_moves : C8.Cal P w K mg base 4 "_law_moves" (sp__law_moves K) []
  c__law_purse : C8.Cal P w K mg base 1 "_law_purse" (sp__law_purse K) []
  c__law_spare : C8.Cal P w K mg base 3 "_law_spare" (sp__law_spare K) []
  c__law_take : C8.Cal P w K mg base 2 "_law_take" (sp__law_take K) []
  c_order_moves : C8.Cal P w K mg base 2 "order_moves" (sp_order_moves K) []
theorem ok_law {f : Addr} {fd : FuncData} (F0_ : Fun K "law" "law" st_law f fd) (T : T_law P w K mg base) : FnOk P w K mg base CX0 5 f fd ["script"] (spLaw K) := by
  refine F0_.ok sc_law (fun vs H Q E h => ?_) (fun cdv A outer s H vs Q E hr h => ?_)
  · obtain ⟨_, _, rfl, _⟩ := h
    rfl
  · obtain ⟨a, ns, rfl, hS, hlen, k⟩ := h
    refine ⟨_, (pss_cons (ps_set (i := 1) sc_law.nd rfl (.inl rfl) (C8.pe_c T.c__law_purse hr (by decide) rfl (pa_cons (pv 0) pa_nil)))
(pss_cons (ps_set (i := 2) sc_law.nd rfl (.inl rfl) (C8.pe_c T.c__law_moves hr (by decide) rfl (pa_cons (pv 1) pa_nil)))
(pss_cons (ps_set (i := 3) sc_law.nd rfl (.inl rfl) (C8.pe_c T.c__law_spare hr (by decide) rfl (pa_cons (pv 1) (pa_cons (pv 2) pa_nil))))
(pss_cons (ps_set (i := 4) sc_law.nd rfl (.inl rfl) (pe_callTy Kt.cr_listof (by rfl) T.list_ (by decide +kernel) (pa_cons (pv 2) pa_nil)))
(pss_cons (ps_set (i := 5) sc_law.nd rfl (.inl rfl) (C8.pe_c T.c_order_moves hr (by decide) rfl (pa_cons (pv 4) (pa_cons (pv 3) pa_nil))))
(pss_cons (ps_if (PW.pt (pw_or (pt_not (pt_val (pe_callB call_isi (by rfl) T.isinstance_ (by decide +kernel) (pa_cons (pv 5) (pa_cons (pe_bltn (v := .ty "list") (u := Value.type "list") (by rfl) T.list_ (by decide +kernel) rfl) pa_nil))))) (pw_or1 (pt_cmpR (op_neD hr.units) (pv 4) (pv 2) (nomark _)))))
(pss_one (ps_ret pe_bl))
pss_nil)
(pss_cons (ps_if (pt_not (pt_val (C8.pe_c T.c__law_moved hr (by decide) rfl (pa_cons (pv 2) (pa_cons (pv 3) (pa_cons (pe_callTy Kt.cr_listof (by rfl) T.list_ (by decide +kernel) (pa_cons (pv 5) pa_nil)) pa_nil))))))
(pss_one (ps_ret pe_bl))
pss_nil)
(pss_cons (ps_expr (pe_bm0 PySem.F.plainAttrs_list PySem.F.slot_list_clear PySem.F.type_list_clear mt_clear (pv 5)))
(pss_cons (ps_if (pt_cmpR (op_neD hr.units) (pv 4) (pv 2) (nomark _))
(pss_one (ps_ret pe_bl))
pss_nil)
(pss_cons (ps_set (i := 6) sc_law.nd rfl (.inl rfl) (C8.pe_c T.c_order_moves hr (by decide) rfl (pa_cons (pv 4) (pa_cons (pv 3) pa_nil))))
(pss_cons (ps_if (PW.pt (pw_or (pt_not (pt_val (pe_callB call_isi (by rfl) T.isinstance_ (by decide +kernel) (pa_cons (pv 6) (pa_cons (pe_bltn (v := .ty "list") (u := Value.type "list") (by rfl) T.list_ (by decide +kernel) rfl) pa_nil))))) (pw_or1 (pt_not (pt_val (C8.pe_c T.c__law_moved hr (by decide) rfl (pa_cons (pv 2) (pa_cons (pv 3) (pa_cons (pe_callTy Kt.cr_listof (by rfl) T.list_ (by decide +kernel) (pa_cons (pv 6) pa_nil)) pa_nil)))))))))
(pss_one (ps_ret pe_bl))
pss_nil)
(pss_cons (ps_set (i := 7) sc_law.nd rfl (.inl rfl) (pe_callTy Kt.cr_listof (by rfl) T.list_ (by decide +kernel) (pa_cons (pv 2) pa_nil)))
(pss_cons (ps_expr (pe_bm0 PySem.F.plainAttrs_list PySem.F.slot_list_reverse PySem.F.type_list_reverse mt_reverse (pv 7)))
(pss_cons (ps_set (i := 8) sc_law.nd rfl (.inl rfl) (pe_op op_add pe_int (C8.pe_c T.c__law_take hr (by decide) rfl (pa_cons (pv 1) (pa_cons pe_int pa_nil)))))
(pss_cons (ps_set (i := 9) sc_law.nd rfl (.inl rfl) (C8.pe_c T.c_order_moves hr (by decide) rfl (pa_cons (pe_callTy Kt.cr_listof (by rfl) T.list_ (by decide +kernel) (pa_cons (pv 7) pa_nil)) (pa_cons (pv 8) pa_nil))))
(pss_one (ps_ret (pe_and (pe_callB call_isi (by rfl) T.isinstance_ (by decide +kernel) (pa_cons (pv 9) (pa_cons (pe_bltn (v := .ty "list") (u := Value.type "list") (by rfl) T.list_ (by decide +kernel) rfl) pa_nil))) (pe_one (C8.pe_c T.c__law_moved hr (by decide) rfl (pa_cons (pv 7) (pa_cons (pv 8) (pa_cons (pe_callTy Kt.cr_listof (by rfl) T.list_ (by decide +kernel) (pa_cons (pv 9) pa_nil)) pa_nil))))))))))))))))))))))), ?_⟩
    dsimp only [L2.cxOf, L2.Cx.nox]
    walk_at "go"
    refine ⟨a, ns, rfl, hS, hlen, fun H1 p c zs s1 p0 c0 pu1 => ?_⟩
    walk_at "go"
    refine ⟨p, c, zs, rfl, pu1, fun H2 m ms k2 pu2 m0 pm nd rg ll => ?_⟩
    have nmp : m ≠ p := by
      rintro rfl
      obtain ⟨xs, e⟩ := pu1.at_
      rw [e] at m0
      cases m0
    walk_at "go"
    refine ⟨p, c, m, zs, ms, rfl, pu2, pm, nmp, rg, ll, fun H3 sp k3 pu3 hsp => ?_⟩
    obtain ⟨ts, em, tm⟩ := pm.kp nmp pu2.at_ k3
    clear k2 pu2 k3
    walk_at "go"
    refine Kt.r_listof (.inl (.of em)) fun h hh => ?_
    have ph : Prs (upd H3 h (.lst (ts.map V.ref))) h ms := Prs.copy tm hh
    have pm4 : Prs (upd H3 h (.lst (ts.map V.ref))) m ms := Prs.same ⟨ts, em, tm⟩ (same_new hh)
    have pu4 := pu3.same (same_new (o := .lst (ts.map V.ref)) hh)
    have nhp : h ≠ p := by
      obtain ⟨xs, e⟩ := pu3.at_
      exact (ne_of_none e hh).symm
    generalize upd H3 h (.lst (ts.map V.ref)) = H4 at ph pm4 pu4 ⊢
    clear em tm pu3 hh
    walk_at "go"
    refine ⟨h, sp, ms, rfl, ph, nd, hsp, by omega, fun H5 t told s5 t0 pt G lt => ?_⟩
    have ph5 := ph.same s5
    have pm5 := pm4.same s5
    have pu5 := pu4.same s5
    obtain ⟨tt, et, ttold⟩ := id pt
    walk_at "go"
    refine Kt.r_isi (k := true) (.ty "list") (.base (.lst et)) (kit_ty (by decide +kernel)) ?_
    walk_at "go"
    refine r_neP ph5 pm5 ?_
    walk_at "go"
    refine Kt.r_listof (.inl (.of et)) fun t2 ht2 => ?_
    have s6 : Same H5 (upd H5 t2 (.lst (tt.map V.ref))) := same_new ht2
    have pt2 : Prs (upd H5 t2 (.lst (tt.map V.ref))) t2 told := Prs.copy ttold ht2
    generalize upd H5 t2 (.lst (tt.map V.ref)) = H6 at s6 pt2 ⊢
    walk_at "go"
    refine ⟨m, t2, sp, ms, told, rfl, pm5.same s6, pt2, nd, by omega, by omega, fun q hq => (hsp q hq).1, G, fun H7 s7 => ?_⟩
    have s67 := s6.trans s7
    walk_at "go"
    refine Kt.x_tyL (s67 _ _ et) ?_
    walk_at "go"
    refine Kt.r_clear (s67 _ _ et) ?_
    -- behind told.clear()
    have s4 : Same H4 (upd H7 t (.lst [])) := same_mut (s5.trans s67) t0
    have ph8 := ph.same s4
    have pm8 := pm4.same s4
    have pu8 := pu4.same s4
    generalize upd H7 t (.lst []) = H8 at ph8 pm8 pu8 ⊢
    clear s4 s5 s6 s7 s67 pt2 ph pm4 pu4 ph5 pm5 pu5 et ttold pt t0 G lt
    walk_at "go"
    refine r_neP ph8 pm8 ?_
    walk_at "go"
    refine ⟨h, sp, ms, rfl, ph8, nd, hsp, by omega, fun H9 ag told2 s9 ag0 pag G2 lt2 => ?_⟩
    obtain ⟨ta, ea, tta⟩ := id pag
    walk_at "go"
    refine Kt.r_isi (k := true) (.ty "list") (.base (.lst ea)) (kit_ty (by decide +kernel)) ?_
    walk_at "go"
    refine Kt.r_listof (.inl (.of ea)) fun t3 ht3 => ?_
    have s10 : Same H9 (upd H9 t3 (.lst (ta.map V.ref))) := same_new ht3
    have pt3 : Prs (upd H9 t3 (.lst (ta.map V.ref))) t3 told2 := Prs.copy tta ht3
    generalize upd H9 t3 (.lst (ta.map V.ref)) = H10 at s10 pt3 ⊢
    walk_at "go"
    refine ⟨m, t3, sp, ms, told2, rfl, (pm8.same s9).same s10, pt3, nd, by omega, by omega, fun q hq => (hsp q hq).1, G2, fun H11 s11 => ?_⟩
    obtain ⟨ts, em, tm⟩ := ((pm8.same s9).same s10).same s11
    have pu11 := ((pu8.same s9).same s10).same s11
    clear s9 s10 s11 pm8 ph8 pu8 pt3 G2 lt2 ea tta pag ag0
    walk_at "go"
    refine Kt.r_listof (.inl (.of em)) fun b hb => ?_
    have nbp : b ≠ p := by
      obtain ⟨xs, e⟩ := pu11.at_
      exact (ne_of_none e hb).symm
    have nbc : b ≠ c := (ne_of_none pu11.ce hb).symm
    have eb : (upd H11 b (.lst (ts.map V.ref))) b = some (.lst (ts.map V.ref)) := upd_same
    walk_at "go"
    refine Kt.x_tyL eb ?_
    walk_at "go"
    refine Kt.r_reverse eb ?_
    rw [upd_upd]
    have pb : Prs (upd H11 b (.lst (ts.map V.ref).reverse)) b ms.reverse := by
      rw [← List.map_reverse]
      exact Prs.copy tm.reverse hb
    have pu12 : Pu (upd H11 b (.lst (ts.map V.ref).reverse)) p c zs := pu11.put nbp nbc
    generalize upd H11 b (.lst (ts.map V.ref).reverse) = H12 at pb pu12 ⊢
    walk_at "go"
    refine ⟨p, c, zs, 9000, rfl, pu12, by decide, fun r H13 k13 pu13 r0 _ _ => ?_⟩
    obtain ⟨tb, eb13, tb13⟩ := pb.kp nbp pu12.at_ k13
    have ndr : (ms.reverse.map (·.1)).Nodup := by
      rw [List.map_reverse]
      exact (List.reverse_perm _).nodup_iff.mpr nd
    have hgr : ∀ q ∈ ms.reverse, q.1 ≠ 103 + r ∧ q.2 ≠ 103 + r := fun q hq => by
      have := rg q (List.mem_reverse.mp hq)
      exact ⟨by omega, by omega⟩
    walk_at "go"
    refine Kt.r_listof (.inl (.of eb13)) fun b2 hb2 => ?_
    have pb2 : Prs (upd H13 b2 (.lst (tb.map V.ref))) b2 ms.reverse := Prs.copy tb13 hb2
    have pb13 : Prs (upd H13 b2 (.lst (tb.map V.ref))) b ms.reverse := Prs.same ⟨tb, eb13, tb13⟩ (same_new hb2)
    generalize upd H13 b2 (.lst (tb.map V.ref)) = H14 at pb2 pb13 ⊢
    walk_at "go"
    refine ⟨b2, _, ms.reverse, rfl, pb2, ndr, hgr, by rw [List.length_reverse]; omega, fun H15 tu told3 s15 _ ptu G3 lt3 => ?_⟩
    obtain ⟨t4, e4, tt4⟩ := id ptu
    walk_at "go"
    refine Kt.r_isi (k := true) (.ty "list") (.base (.lst e4)) (kit_ty (by decide +kernel)) ?_
    walk_at "go"
    refine Kt.r_listof (.inl (.of e4)) fun t5 ht5 => ?_
    have s16 : Same H15 (upd H15 t5 (.lst (t4.map V.ref))) := same_new ht5
    have pt5 : Prs (upd H15 t5 (.lst (t4.map V.ref))) t5 told3 := Prs.copy tt4 ht5
    generalize upd H15 t5 (.lst (t4.map V.ref)) = H16 at s16 pt5 ⊢
    walk_at "go"
    exact ⟨b, t5, _, ms.reverse, told3, rfl, (pb13.same s15).same s16, pt5, ndr, by rw [List.length_reverse]; omega, by omega, fun q hq => (hgr q hq).1, G3, fun H17 _ => k H17⟩
end
end K42

namespace K42
open PySem PySem.Spec L2
theorem all_mk {l : PySem.W.OpenLaw} {w : World} {K : PySem.W.Frag} {h : Heap} {mg : Str → Option Value} {fa f0 f1 f2 f3 f4 f5 f6 f7 f8 f9 f10 f11 f12 : Addr} (X : K.In h) (G : h.Ns mainGlobals mg) (hfa : mg "law" = some (.ref fa))
    {od0 an0 od1 an1 od2 an2 od3 an3 od4 an4 od5 an5 od6 an6 od7 an7 od8 an8 od9 an9 od10 an10 od11 an11 od12 an12 : Option Addr} {sl0 sl1 sl2 sl3 sl4 sl5 sl6 sl7 sl8 sl9 sl10 sl11 sl12 : Array (Option Value)} {oc0 kV0 dc0 pm0 cd0 ct0 oc1 kV1 dc1 pm1 cd1 ct1 oc2 kV2 dc2 pm2 cd2 ct2 oc3 kV3 dc3 pm3 cd3 ct3 oc4 kV4 dc4 pm4 cd4 ct4 oc5 kV5 dc5 pm5 cd5 ct5 oc6 kV6 dc6 pm6 cd6 ct6 oc7 kV7 dc7 pm7 cd7 ct7 oc8 kV8 dc8 pm8 cd8 ct8 oc9 kV9 dc9 pm9 cd9 ct9 oc10 kV10 dc10 pm10 cd10 ct10 oc11 kV11 dc11 pm11 cd11 ct11 oc12 kV12 dc12 pm12 cd12 ct12 : Value}
    (a0 : PySem.W.nsIn K mainGlobals "_law_cycles" = some (some (.ref f0))) (l0 : K.lookup f0 = some ⟨oc0, od0, .func (PySem.W.fnOf "_law_cycles" "_law_cycles" (defArgs st__law_cycles) (defBody st__law_cycles) (defScope st__law_cycles) .none kV0 dc0 pm0 an0 cd0 ct0), sl0⟩) (c0 : PySem.W.codeIn K cd0 "_law_cycles" = true) (k0 : PySem.W.keepIn K (.ref f0) = true)
    (a1 : PySem.W.nsIn K mainGlobals "_law_is_integer" = some (some (.ref f1))) (l1 : K.lookup f1 = some ⟨oc1, od1, .func (PySem.W.fnOf "_law_is_integer" "_law_is_integer" (defArgs st__law_is_integer) (defBody st__law_is_integer) (defScope st__law_is_integer) .none kV1 dc1 pm1 an1 cd1 ct1), sl1⟩) (c1 : PySem.W.codeIn K cd1 "_law_is_integer" = true) (k1 : PySem.W.keepIn K (.ref f1) = true)
    (a2 : PySem.W.nsIn K mainGlobals "_law_moved" = some (some (.ref f2))) (l2 : K.lookup f2 = some ⟨oc2, od2, .func (PySem.W.fnOf "_law_moved" "_law_moved" (defArgs st__law_moved) (defBody st__law_moved) (defScope st__law_moved) .none kV2 dc2 pm2 an2 cd2 ct2), sl2⟩) (c2 : PySem.W.codeIn K cd2 "_law_moved" = true) (k2 : PySem.W.keepIn K (.ref f2) = true)
    (a3 : PySem.W.nsIn K mainGlobals "_law_mixed" = some (some (.ref f3))) (l3 : K.lookup f3 = some ⟨oc3, od3, .func (PySem.W.fnOf "_law_mixed" "_law_mixed" (defArgs st__law_mixed) (defBody st__law_mixed) (defScope st__law_mixed) .none kV3 dc3 pm3 an3 cd3 ct3), sl3⟩) (c3 : PySem.W.codeIn K cd3 "_law_mixed" = true) (k3 : PySem.W.keepIn K (.ref f3) = true)
    (a4 : PySem.W.nsIn K mainGlobals "_law_take" = some (some (.ref f4))) (l4 : K.lookup f4 = some ⟨oc4, od4, .func (PySem.W.fnOf "_law_take" "_law_take" (defArgs st__law_take) (defBody st__law_take) (defScope st__law_take) .none kV4 dc4 pm4 an4 cd4 ct4), sl4⟩) (c4 : PySem.W.codeIn K cd4 "_law_take" = true) (k4 : PySem.W.keepIn K (.ref f4) = true)
    (a5 : PySem.W.nsIn K mainGlobals "_law_free" = some (some (.ref f5))) (l5 : K.lookup f5 = some ⟨oc5, od5, .func (PySem.W.fnOf "_law_free" "_law_free" (defArgs st__law_free) (defBody st__law_free) (defScope st__law_free) .none kV5 dc5 pm5 an5 cd5 ct5), sl5⟩) (c5 : PySem.W.codeIn K cd5 "_law_free" = true) (k5 : PySem.W.keepIn K (.ref f5) = true)
    (a6 : PySem.W.nsIn K mainGlobals "_law_rings" = some (some (.ref f6))) (l6 : K.lookup f6 = some ⟨oc6, od6, .func (PySem.W.fnOf "_law_rings" "_law_rings" (defArgs st__law_rings) (defBody st__law_rings) (defScope st__law_rings) .none kV6 dc6 pm6 an6 cd6 ct6), sl6⟩) (c6 : PySem.W.codeIn K cd6 "_law_rings" = true) (k6 : PySem.W.keepIn K (.ref f6) = true)
    (a7 : PySem.W.nsIn K mainGlobals "_law_moves" = some (some (.ref f7))) (l7 : K.lookup f7 = some ⟨oc7, od7, .func (PySem.W.fnOf "_law_moves" "_law_moves" (defArgs st__law_moves) (defBody st__law_moves) (defScope st__law_moves) .none kV7 dc7 pm7 an7 cd7 ct7), sl7⟩) (c7 : PySem.W.codeIn K cd7 "_law_moves" = true) (k7 : PySem.W.keepIn K (.ref f7) = true)
    (a8 : PySem.W.nsIn K mainGlobals "_law_purse" = some (some (.ref f8))) (l8 : K.lookup f8 = some ⟨oc8, od8, .func (PySem.W.fnOf "_law_purse" "_law_purse" (defArgs st__law_purse) (defBody st__law_purse) (defScope st__law_purse) .none kV8 dc8 pm8 an8 cd8 ct8), sl8⟩) (c8 : PySem.W.codeIn K cd8 "_law_purse" = true) (k8 : PySem.W.keepIn K (.ref f8) = true)
    (a9 : PySem.W.nsIn K mainGlobals "_law_spare" = some (some (.ref f9))) (l9 : K.lookup f9 = some ⟨oc9, od9, .func (PySem.W.fnOf "_law_spare" "_law_spare" (defArgs st__law_spare) (defBody st__law_spare) (defScope st__law_spare) .none kV9 dc9 pm9 an9 cd9 ct9), sl9⟩) (c9 : PySem.W.codeIn K cd9 "_law_spare" = true) (k9 : PySem.W.keepIn K (.ref f9) = true)
    (a10 : PySem.W.nsIn K mainGlobals "perform_free" = some (some (.ref f10))) (l10 : K.lookup f10 = some ⟨oc10, od10, .func (PySem.W.fnOf "perform_free" "perform_free" (defArgs st_perform_free) (defBody st_perform_free) (defScope st_perform_free) .none kV10 dc10 pm10 an10 cd10 ct10), sl10⟩) (c10 : PySem.W.codeIn K cd10 "perform_free" = true) (k10 : PySem.W.keepIn K (.ref f10) = true)
    (a11 : PySem.W.nsIn K mainGlobals "order_moves" = some (some (.ref f11))) (l11 : K.lookup f11 = some ⟨oc11, od11, .func (PySem.W.fnOf "order_moves" "order_moves" (defArgs st_order_moves) (defBody st_order_moves) (defScope st_order_moves) .none kV11 dc11 pm11 an11 cd11 ct11), sl11⟩) (c11 : PySem.W.codeIn K cd11 "order_moves" = true) (k11 : PySem.W.keepIn K (.ref f11) = true)
    (a12 : PySem.W.nsIn K mainGlobals "law" = some (some (.ref f12))) (l12 : K.lookup f12 = some ⟨oc12, od12, .func (PySem.W.fnOf "law" "law" (defArgs st_law) (defBody st_law) (defScope st_law) .none kV12 dc12 pm12 an12 cd12 ct12), sl12⟩) (c12 : PySem.W.codeIn K cd12 "law" = true) (k12 : PySem.W.keepIn K (.ref f12) = true)
    (z_bool : PySem.W.nsIn K mainGlobals "bool" = some none)
    (z_int : PySem.W.nsIn K mainGlobals "int" = some none)
    (z_isinstance : PySem.W.nsIn K mainGlobals "isinstance" = some none)
    (z_len : PySem.W.nsIn K mainGlobals "len" = some none)
    (z_list : PySem.W.nsIn K mainGlobals "list" = some none)
    (z_range : PySem.W.nsIn K mainGlobals "range" = some none)
    (z_sum : PySem.W.nsIn K mainGlobals "sum" = some none)
    (z_tuple : PySem.W.nsIn K mainGlobals "tuple" = some none)
    : ∃ fd : FuncData, (∀ (s : Shared) (v : Value), BindsTo s fd ⟨[v], []⟩ [("script", v)]) ∧ ∀ base : Heap, K.In base → base.Ns mainGlobals mg → FnOk l.prog w K mg base CX0 5 fa fd ["script"] (spLaw K) := by
  have e := hfa.symm.trans (PySem.W.mg_of X G a12)
  cases e
  have F0 := fun_mk (st := st__law_cycles) l0 c0 k0
  have b0 := F0.binds (ps := ["moves"]) fun _ _ _ _ _ _ us hl => match us, hl with | [_], _ => rfl
  have F1 := fun_mk (st := st__law_is_integer) l1 c1 k1
  have b1 := F1.binds (ps := ["thing"]) fun _ _ _ _ _ _ us hl => match us, hl with | [_], _ => rfl
  have F2 := fun_mk (st := st__law_moved) l2 c2 k2
  have b2 := F2.binds (ps := ["moves", "spare", "told"]) fun _ _ _ _ _ _ us hl => match us, hl with | [_, _, _], _ => rfl
  have F3 := fun_mk (st := st__law_mixed) l3 c3 k3
  have b3 := F3.binds (ps := ["cell", "k"]) fun _ _ _ _ _ _ us hl => match us, hl with | [_, _], _ => rfl
  have F4 := fun_mk (st := st__law_take) l4 c4 k4
  have b4 := F4.binds (ps := ["purse", "size"]) fun _ _ _ _ _ _ us hl => match us, hl with | [_, _], _ => rfl
  have F5 := fun_mk (st := st__law_free) l5 c5 k5
  have b5 := F5.binds (ps := ["purse", "many"]) fun _ _ _ _ _ _ us hl => match us, hl with | [_, _], _ => rfl
  have F6 := fun_mk (st := st__law_rings) l6 c6 k6
  have b6 := F6.binds (ps := ["purse", "alike"]) fun _ _ _ _ _ _ us hl => match us, hl with | [_, _], _ => rfl
  have F7 := fun_mk (st := st__law_moves) l7 c7 k7
  have b7 := F7.binds (ps := ["purse"]) fun _ _ _ _ _ _ us hl => match us, hl with | [_], _ => rfl
  have F8 := fun_mk (st := st__law_purse) l8 c8 k8
  have b8 := F8.binds (ps := ["script"]) fun _ _ _ _ _ _ us hl => match us, hl with | [_], _ => rfl
  have F9 := fun_mk (st := st__law_spare) l9 c9 k9
  have b9 := F9.binds (ps := ["purse", "moves"]) fun _ _ _ _ _ _ us hl => match us, hl with | [_, _], _ => rfl
  have F10 := fun_mk (st := st_perform_free) l10 c10 k10
  have b10 := F10.binds (ps := ["free", "wanted", "found_at", "ordered"]) fun _ _ _ _ _ _ us hl => match us, hl with | [_, _, _, _], _ => rfl
  have F11 := fun_mk (st := st_order_moves) l11 c11 k11
  have b11 := F11.binds (ps := ["moves", "spare"]) fun _ _ _ _ _ _ us hl => match us, hl with | [_, _], _ => rfl
  have F12 := fun_mk (st := st_law) l12 c12 k12
  have Z_bool := PySem.W.mg_none_of X G z_bool
  have Z_int := PySem.W.mg_none_of X G z_int
  have Z_isinstance := PySem.W.mg_none_of X G z_isinstance
  have Z_len := PySem.W.mg_none_of X G z_len
  have Z_list := PySem.W.mg_none_of X G z_list
  have Z_range := PySem.W.mg_none_of X G z_range
  have Z_sum := PySem.W.mg_none_of X G z_sum
  have Z_tuple := PySem.W.mg_none_of X G z_tuple
  refine ⟨PySem.W.fnOf "law" "law" (defArgs st_law) (defBody st_law) (defScope st_law) .none kV12 dc12 pm12 an12 cd12 ct12, fun s v => .of_eq rfl, fun base _ _ => ?_⟩
  have O__law_cycles := ok__law_cycles (P := l.prog) (w := w) (mg := mg) (base := base) F0 ⟨Z_len, Z_range⟩
  have C__law_cycles : C8.Cal l.prog w K mg base 1 "_law_cycles" (sp__law_cycles K) [] := ⟨f0, _, _, [], O__law_cycles, PySem.W.mg_of X G a0, k0, b0, .nil⟩
  have O__law_is_integer := ok__law_is_integer (P := l.prog) (w := w) (mg := mg) (base := base) F1 ⟨Z_bool, Z_int, Z_isinstance⟩
  have C__law_is_integer : C8.Cal l.prog w K mg base 1 "_law_is_integer" (sp__law_is_integer K) [] := ⟨f1, _, _, [], O__law_is_integer, PySem.W.mg_of X G a1, k1, b1, .nil⟩
  have O__law_moved := ok__law_moved (P := l.prog) (w := w) (mg := mg) (base := base) F2 ⟨Z_isinstance, Z_len, Z_tuple, C__law_cycles, C__law_is_integer⟩
  have C__law_moved : C8.Cal l.prog w K mg base 2 "_law_moved" (sp__law_moved K) [] := ⟨f2, _, _, [], O__law_moved, PySem.W.mg_of X G a2, k2, b2, .nil⟩
  have O__law_mixed := ok__law_mixed (P := l.prog) (w := w) (mg := mg) (base := base) F3 ⟨Z_int⟩
  have C__law_mixed : C8.Cal l.prog w K mg base 1 "_law_mixed" (sp__law_mixed K) [] := ⟨f3, _, _, [], O__law_mixed, PySem.W.mg_of X G a3, k3, b3, .nil⟩
  have O__law_take := ok__law_take (P := l.prog) (w := w) (mg := mg) (base := base) F4 ⟨Z_int, Z_len, C__law_mixed⟩
  have C__law_take : C8.Cal l.prog w K mg base 2 "_law_take" (sp__law_take K) [] := ⟨f4, _, _, [], O__law_take, PySem.W.mg_of X G a4, k4, b4, .nil⟩
  have O__law_free := ok__law_free (P := l.prog) (w := w) (mg := mg) (base := base) F5 ⟨Z_range, C__law_take⟩
  have C__law_free : C8.Cal l.prog w K mg base 3 "_law_free" (sp__law_free K) [] := ⟨f5, _, _, [], O__law_free, PySem.W.mg_of X G a5, k5, b5, .nil⟩
  have O__law_rings := ok__law_rings (P := l.prog) (w := w) (mg := mg) (base := base) F6 ⟨Z_int, Z_range, C__law_take⟩
  have C__law_rings : C8.Cal l.prog w K mg base 3 "_law_rings" (sp__law_rings K) [] := ⟨f6, _, _, [], O__law_rings, PySem.W.mg_of X G a6, k6, b6, .nil⟩
  have O__law_moves := ok__law_moves (P := l.prog) (w := w) (mg := mg) (base := base) F7 ⟨Z_int, Z_len, Z_range, C__law_free, C__law_rings, C__law_take⟩
  have C__law_moves : C8.Cal l.prog w K mg base 4 "_law_moves" (sp__law_moves K) [] := ⟨f7, _, _, [], O__law_moves, PySem.W.mg_of X G a7, k7, b7, .nil⟩
  have O__law_purse := ok__law_purse (P := l.prog) (w := w) (mg := mg) (base := base) F8 ⟨Z_int, Z_sum⟩
  have C__law_purse : C8.Cal l.prog w K mg base 1 "_law_purse" (sp__law_purse K) [] := ⟨f8, _, _, [], O__law_purse, PySem.W.mg_of X G a8, k8, b8, .nil⟩
  have O__law_spare := ok__law_spare (P := l.prog) (w := w) (mg := mg) (base := base) F9 ⟨Z_int, Z_range, C__law_take⟩
  have C__law_spare : C8.Cal l.prog w K mg base 3 "_law_spare" (sp__law_spare K) [] := ⟨f9, _, _, [], O__law_spare, PySem.W.mg_of X G a9, k9, b9, .nil⟩
  have O_perform_free := ok_perform_free (P := l.prog) (w := w) (mg := mg) (base := base) F10 ⟨Z_len⟩
  have C_perform_free : C8.Cal l.prog w K mg base 1 "perform_free" (sp_perform_free K) [] := ⟨f10, _, _, [], O_perform_free, PySem.W.mg_of X G a10, k10, b10, .nil⟩
  have O_order_moves := ok_order_moves (P := l.prog) (w := w) (mg := mg) (base := base) F11 ⟨Z_list, C_perform_free⟩
  have C_order_moves : C8.Cal l.prog w K mg base 2 "order_moves" (sp_order_moves K) [] := ⟨f11, _, _, [], O_order_moves, PySem.W.mg_of X G a11, k11, b11, .nil⟩
  have O_law := ok_law (P := l.prog) (w := w) (mg := mg) (base := base) F12 ⟨Z_isinstance, Z_list, C__law_moved, C__law_moves, C__law_purse, C__law_spare, C__law_take, C_order_moves⟩
  exact O_law
end K42

open PySem PySem.W PyProof.Rows in
set_option maxRecDepth 100000 in
set_option maxHeartbeats 0 in
theorem PySem.Challenge.cw_reforge_k42_moves_holds : PySem.Challenge.rw_reforge_k42_moves.Holds := by
  w_on; o_law; k_head; (case hw => w_witness2)
  k_fill
  refine L2.walk_of (l := PySem.Challenge.rw_reforge_k42_moves) (n := 63) (k := 5) (x := "script") (CX := fun _ => L2.CX0) (sp := fun w => K42.spLaw _) rfl (by decide) rfl ⟨rfl, by decide, by decide⟩ (fun w h Y => PySem.W.kIn_of Y) ?F (fun _ _ a ns hl _ hS => ⟨a, ns, rfl, hS, hl, fun _ => rfl⟩) (fun _ _ _ _ _ h => h)
  case F =>
    intro w mg fa h KX G hmg
    refine' K42.all_mk KX G hmg ?a0 ?l0 ?c0 ?k0 ?a1 ?l1 ?c1 ?k1 ?a2 ?l2 ?c2 ?k2 ?a3 ?l3 ?c3 ?k3 ?a4 ?l4 ?c4 ?k4 ?a5 ?l5 ?c5 ?k5 ?a6 ?l6 ?c6 ?k6 ?a7 ?l7 ?c7 ?k7 ?a8 ?l8 ?c8 ?k8 ?a9 ?l9 ?c9 ?k9 ?a10 ?l10 ?c10 ?k10 ?a11 ?l11 ?c11 ?k11 ?a12 ?l12 ?c12 ?k12 ?z_bool ?z_int ?z_isinstance ?z_len ?z_list ?z_range ?z_sum ?z_tuple
    (case a0 => k_is)
    (case l0 => k_is)
    (case c0 => k_is)
    (case k0 => k_is)
    (case a1 => k_is)
    (case l1 => k_is)
    (case c1 => k_is)
    (case k1 => k_is)
    (case a2 => k_is)
    (case l2 => k_is)
    (case c2 => k_is)
    (case k2 => k_is)
    (case a3 => k_is)
    (case l3 => k_is)
    (case c3 => k_is)
    (case k3 => k_is)
    (case a4 => k_is)
    (case l4 => k_is)
    (case c4 => k_is)
    (case k4 => k_is)
    (case a5 => k_is)
    (case l5 => k_is)
    (case c5 => k_is)
    (case k5 => k_is)
    (case a6 => k_is)
    (case l6 => k_is)
    (case c6 => k_is)
    (case k6 => k_is)
    (case a7 => k_is)
    (case l7 => k_is)
    (case c7 => k_is)
    (case k7 => k_is)
    (case a8 => k_is)
    (case l8 => k_is)
    (case c8 => k_is)
    (case k8 => k_is)
    (case a9 => k_is)
    (case l9 => k_is)
    (case c9 => k_is)
    (case k9 => k_is)
    (case a10 => k_is)
    (case l10 => k_is)
    (case c10 => k_is)
    (case k10 => k_is)
    (case a11 => k_is)
    (case l11 => k_is)
    (case c11 => k_is)
    (case k11 => k_is)
    (case a12 => k_is)
    (case l12 => k_is)
    (case c12 => k_is)
    (case k12 => k_is)
    (case z_bool => k_is)
    (case z_int => k_is)
    (case z_isinstance => k_is)
    (case z_len => k_is)
    (case z_list => k_is)
    (case z_range => k_is)
    (case z_sum => k_is)
    (case z_tuple => k_is)