import PyProof.Rows.All
import Wide.All
import OpenK.AllK
import Wide.FinOn
import HandS.ForMost
import HandS.Exc
import HandS.WordsExc
import HandS.Wide
import HandS.IsInst
import HandS.Defaults
import HandS.MakeKwOnly
import HandS.Flow
import HandS.SortInts
import PySem.Challenge.RW_latestow_k10_sheets_at_worst
set_option Elab.async false
set_option linter.all false
set_option maxRecDepth 100000
set_option maxHeartbeats 4000000
/-! own rules over the hand layer -/
namespace Lt
open PySem PySem.Spec PyProof.Rows L2

theorem cx_no {P : Program} {w : World} {H : Hp} {s : Shared} {e : Value} {s' : Shared} (h : L2.CX P w [] H s (fun _ _ _ => False) e s') : False := by
  obtain ⟨_, _, _, _, _, _, _, _, _, _, _, _, z⟩ := h
  exact z

section
variable {X : Cx}
/-- a constant of the module -/
theorem pe_gl {x : Str} {v : V} {pos : Pos} (hg : Gl X x) (hm : ∃ u, X.mg x = some u ∧ RelV v u) (hd : (x == ("__debug__" : Str)) = false := by decide) : PE X (.Name x pos) (tC v) := by
  obtain ⟨u, h1, h2⟩ := hm
  exact pe_glob hg h1 h2 hd
/-- xs[k], 0 ≤ k, for xs[k] op= e -/
def rGetL (K : PySem.W.Frag) : V → V → Hp → VK → Prop := fun o i H Q => ∃ (p : Addr) (xs : List V) (k : Int) (v : V), o = .ref p ∧ i = .int k ∧ SqL K H p xs ∧ 0 ≤ k ∧ xs[k.toNat]? = some v ∧ Q v H
theorem gt_list : PGet X (rGetL X.K) := by
  intro pins s σ H o i ov iv Q I ro ri hw
  obtain ⟨p, xs, k, v, rfl, rfl, hx, h0, hv, hq⟩ := hw
  cases ro
  obtain ⟨tk, rfl⟩ := ri
  obtain ⟨its, rv, pl, hz⟩ := I.list hx
  obtain ⟨u, hu, ru⟩ := rv.get hv
  have hlt : k.toNat < xs.length := (List.getElem?_eq_some_iff.mp hv).1
  have hs : (sizeLine : Nat) < 2 ^ 63 := line63
  exact PySem.wpAny_getItem_list pl.isList h0 (by omega) (by simpa using hu) ⟨v, H, I, ru, hq⟩
theorem ip_of {op : Operator} {t : TIp} (h : OpR X (inplaceOp op) t) : PIp X op t := fun pins s σ H x y v u Q I rx ry q => h pins s σ H x y v u Q I rx ry q
theorem ps_augL {o i e : Expr} {to ti te : TE} {tip : TIp} {op : Operator} {tpos pos : Pos} (ho : PE X o to) (hi : PE X i ti) (he : PE X e te) (hp : OpR X (inplaceOp op) tip)
    (ha : ∀ ov iv new, augStore i ov iv new = (do holding [new, ov, iv] (setItem ov iv new); release [new, ov, iv] []; pure .next) := by intros; rfl) : PS X (.AugAssign (.Subscript o i tpos) op e pos) (tAugS to ti te (rGetL X.K) tip rSetL) :=
  ps_augS ho hi gt_list he (ip_of hp) set_list ha
/-- a statement, then a word of the state, then what follows from the word -/
def tMid (t u : TS) : TS := fun D σ H => ∃ M : L2.St → Hp → Prop, t { D with nx := M } σ H ∧ ∀ σ1 H1, M σ1 H1 → u D σ1 H1
theorem pss_mid {st : Stmt} {rest : List Stmt} {t u : TS} (hs : PS X st t) (hr : PSs X rest u) : PSs X (st :: rest) (tMid t u) := by
  refine ⟨fun pins s σ H D I hw => ?_⟩
  obtain ⟨M, h1, h2⟩ := hw
  exact wpAny_execs_cons (thn (hs.run pins s σ H { D with nx := M } I h1) fun f s1 hf => by
    cases f
    case next =>
      obtain ⟨σ1, H1, I1, m⟩ := hf
      exact hr.run pins s1 σ1 H1 D I1 (h2 σ1 H1 m)
    all_goals exact hf)
end

/-! ### heaps: all but b as it was -/
def SameB (b : Addr) (H H' : Hp) : Prop := ∀ a o, a ≠ b → H a = some o → H' a = some o
theorem SameB.refl (b : Addr) (H : Hp) : SameB b H H := fun _ _ _ h => h
theorem SameB.trans {b : Addr} {H H1 H2 : Hp} (x : SameB b H H1) (y : SameB b H1 H2) : SameB b H H2 := fun a o n h => y a o n (x a o n h)
theorem Same.toB {b : Addr} {H H' : Hp} (x : Same H H') : SameB b H H' := fun a o _ h => x a o h
theorem SameB.upd {b : Addr} {H H' : Hp} {o : HO} (x : SameB b H H') : SameB b H (upd H' b o) := fun a u n h => by rw [upd_ne n]; exact x a u n h
theorem SameB.new {b p : Addr} {H H' : Hp} {o : HO} (x : SameB b H H') (hp : H' p = none) : SameB b H (L2.upd H' p o) := fun a u n h => by
  have h1 := x a u n h
  rw [upd_ne (ne_of_none h1 hp)]
  exact h1
theorem same_new {H : Hp} {p : Addr} {o : HO} (h : H p = none) : Same H (upd H p o) := fun b x e => by
  rw [upd_ne (ne_of_none e h)]
  exact e
theorem Same.new {p : Addr} {H H' : Hp} {o : HO} (x : Same H H') (hp : H' p = none) : Same H (L2.upd H' p o) := fun a u h => by
  have h1 := x a u h
  rw [upd_ne (ne_of_none h1 hp)]
  exact h1
/-- an object that H does not know may be written -/
theorem Same.mut {p : Addr} {H H' : Hp} {o : HO} (x : Same H H') (hp : H p = none) : Same H (L2.upd H' p o) := fun a u h => by
  rw [upd_ne (ne_of_none h hp)]
  exact x a u h
theorem SameB.seq {K : PySem.W.Frag} {b a : Addr} {H H' : Hp} {xs : List V} (x : SameB b H H') (n : a ≠ b) (h : SqL K H a xs) : SqL K H' a xs := by
  rcases h with (h | ⟨o, h⟩) | h
  · exact .inl (.inl (x _ _ n h))
  · exact .inl (.inr ⟨o, x _ _ n h⟩)
  · exact .inr h

/-! ### the bag of draws -/
/-- the bag at b over the numbers at l -/
def Bag (H : Hp) (b l : Addr) (ns : List Int) : Prop := ∃ (i r z : Int), 0 ≤ i ∧ H b = some (.lst [.ref l, .int i, .int r, .int z]) ∧ H l = some (.lst (ns.map V.int)) ∧ ns.length ≤ 63
theorem Bag.ne {H : Hp} {b l : Addr} {ns : List Int} (h : Bag H b l ns) : l ≠ b := by
  obtain ⟨i, r, z, _, h1, h2, _⟩ := h
  intro e
  subst e
  rw [h1] at h2
  cases ns with
  | nil => cases h2
  | cons n ns => cases h2
theorem Bag.mk {H : Hp} {b l : Addr} {ns : List Int} {i r z : Int} (h0 : 0 ≤ i) (h1 : H b = some (.lst [.ref l, .int i, .int r, .int z])) (h2 : H l = some (.lst (ns.map V.int))) (h3 : ns.length ≤ 63) : Bag H b l ns := ⟨i, r, z, h0, h1, h2, h3⟩
theorem Bag.keep {H H' : Hp} {b l : Addr} {ns : List Int} (h : Bag H b l ns) (s : Same H H') : Bag H' b l ns := by
  obtain ⟨i, r, z, h0, h1, h2, h3⟩ := h
  exact ⟨i, r, z, h0, s _ _ h1, s _ _ h2, h3⟩
theorem sz {n : Nat} (h : n ≤ 1000) : n ≤ sizeLine := Nat.le_trans h (by decide)
theorem pull_pick {xs : List V} {v n : Int} (lo hi : Int) (h0 : 0 ≤ v) (h1 : v < n) (hn : n = (xs.length : Int)) (hP : ∀ x ∈ xs, ∃ t, x = V.int t ∧ lo ≤ t ∧ t ≤ hi) : ∃ t, atI xs v = some (.int t) ∧ lo ≤ t ∧ t ≤ hi := by
  have hl : v.toNat < xs.length := by omega
  have e : (v.toNat : Int) = v := Int.toNat_of_nonneg h0
  obtain ⟨t, et, h2⟩ := hP _ (List.getElem_mem hl)
  refine ⟨t, ?_, h2⟩
  have q := atI_nat (xs := xs) (List.getElem?_eq_getElem hl)
  rw [e, et] at q
  exact q
theorem atI_pick {xs : List V} {v : Int} (P : V → Prop) (h0 : 0 ≤ v) (h1 : v < (xs.length : Int)) (hP : ∀ x ∈ xs, P x) : ∃ x, atI xs v = some x ∧ P x := by
  have hl : v.toNat < xs.length := by omega
  have e : (v.toNat : Int) = v := Int.toNat_of_nonneg h0
  refine ⟨xs[v.toNat], ?_, hP _ (List.getElem_mem hl)⟩
  have q := atI_nat (xs := xs) (List.getElem?_eq_getElem hl)
  rw [e] at q
  exact q
end Lt
namespace Lt
open PySem PySem.Spec PyProof.Rows L2
/-! the readings, one combinator a step -/
section
variable {K : PySem.W.Frag} {D : Ends} {σ : L2.St} {H : Hp} {Q : VK} {ta tb te tx : TE} {t u : TS} {c : TT} {i j : Int} {v x y : V} {p a : Addr} {xs : List V} {E : XK}
theorem k_seq (h : t { D with nx := u D } σ H) : tSeq t u D σ H := h
theorem k_next (h : D.nx σ H) : tNext D σ H := h
theorem k_ifS (h : c σ H fun b H1 => if b = true then t D σ H1 else u D σ H1) : tIfS c t u D σ H := h
theorem k_ret (h : te σ H D.rt) : tRet te D σ H := h
theorem k_drop (h : te σ H fun _ H1 => D.nx σ H1) : tDrop te D σ H := h
theorem k_asg {g : TG} (h : te σ H fun x H1 => g x σ H1 D.nx) : tAsg te g D σ H := h
theorem k_gName {n : Nat} {Qs : L2.St → Hp → Prop} (h : Qs (σ.set n (some v)) H) : gName n v σ H Qs := h
theorem k_gSub {to ti : TE} {tt : TSet} {Qs : L2.St → Hp → Prop} (h : to σ H fun o H1 => ti σ H1 fun i H2 => tt o i v H2 fun H3 => Qs σ H3) : gSub to ti tt v σ H Qs := h
theorem k_setL {xs : List V} {k : Int} {n : Nat} {Qh : Hp → Prop} (h1 : H p = some (.lst xs)) (h2 : ixN xs.length k = some n) (h : Qh (upd H p (.lst (xs.set n v)))) : rSetL (.ref p) (.int k) v H Qh := ⟨p, xs, k, n, rfl, rfl, h1, h2, h⟩
theorem k_var {n : Nat} (h1 : σ[n]? = some (some v)) (h : Q v H) : tVar n σ H Q := ⟨v, h1, h⟩
theorem k_c (h : Q v H) : tC v σ H Q := h
theorem k_op {r : R2} (h : ta σ H fun x H1 => tb σ H1 fun y H2 => r x y H2 Q) : tOp r ta tb σ H Q := h
theorem k_un {r : V → Hp → VK → Prop} (h : ta σ H fun x H1 => r x H1 Q) : tUn r ta σ H Q := h
theorem k_I0 {g : Int → Int → V} (h : Q (g i j) H) : rI0 g (.int i) (.int j) H Q := ⟨i, j, rfl, rfl, h⟩
theorem k_I {C : Int → Int → Prop} {g : Int → Int → V} (hc : C i j) (h : Q (g i j) H) : rI C g (.int i) (.int j) H Q := ⟨i, j, rfl, rfl, hc, h⟩
theorem k_U {g : Int → V} (h : Q (g i) H) : rU g (.int i) H Q := ⟨i, rfl, h⟩
theorem k_ixL (h1 : SqL K H p xs) (h2 : atI xs i = some v) (h : Q v H) : rIxL K (.ref p) (.int i) H Q := ⟨p, xs, i, v, rfl, rfl, h1, h2, h⟩
theorem k_ixT (h1 : SqT K H p xs) (h2 : atI xs i = some v) (h : Q v H) : rIxT K (.ref p) (.int i) H Q := ⟨p, xs, i, v, rfl, rfl, h1, h2, h⟩
theorem k_getL {k : Int} (h1 : SqL K H p xs) (h0 : 0 ≤ k) (h2 : xs[k.toNat]? = some v) (h : Q v H) : rGetL K (.ref p) (.int k) H Q := ⟨p, xs, k, v, rfl, rfl, h1, h0, h2, h⟩
theorem k_tst {Qb : Bool → Hp → Prop} (h : te σ H fun x H' => ∃ k, x = .bl k ∧ Qb k H') : tTest te σ H Qb := h
theorem k_tB {Qb : Bool → Hp → Prop} (h : te σ H fun x H' => ∃ k, x = .bl k ∧ Qb k H') : tB te σ H Qb := h
theorem k_bl {b : Bool} {Qb : Bool → Hp → Prop} (h : Qb b H) : ∃ k, V.bl b = .bl k ∧ Qb k H := ⟨b, rfl, h⟩
theorem k_cb {r : List V → Hp → VK → Prop} {ts : TA} (h : ts σ H fun vs H1 => r vs H1 Q) : tCB r ts σ H Q := h
theorem k_cons {ts : TA} {Ql : List V → Hp → Prop} (h : te σ H fun x H1 => ts σ H1 fun xs H2 => Ql (x :: xs) H2) : tCons te ts σ H Ql := h
theorem k_nil {Ql : List V → Hp → Prop} (h : Ql [] H) : tNil σ H Ql := h
theorem k_call {sp : Sp} {dvs : List V} {ts : TA} (h : ts σ H fun vs H1 => sp (vs ++ dvs) H1 Q E) : tCall sp dvs E ts σ H Q := h
theorem k_callN {n m : Nat} {sp : Sp} {gV : List V → List V → List V} {t1 t2 : TA} (h : t1 σ H fun vs H1 => t2 σ H1 fun zs H2 => vs.length = n ∧ zs.length = m ∧ sp (gV vs zs) H2 Q E) : tCallN n m sp gV E t1 t2 σ H Q := h
theorem k_isi {b : Bool} {n m : String} (ht : TyX K H x (.type m)) (hk : kitB m n = some b) (h : Q (.bl b) H) : rIsi K [x, .ty n] H Q := ⟨x, .ty n, _, _, b, rfl, .ty n, ht, kit_ty hk, h⟩
theorem isi_ii : kitB "int" "int" = some true := by decide +kernel
theorem isi_ib : kitB "int" "bool" = some false := by decide +kernel
theorem isi_bi : kitB "bool" "int" = some true := by decide +kernel
theorem isi_bb : kitB "bool" "bool" = some true := by decide +kernel
theorem isi_is : kitB "int" "str" = some false := by decide +kernel
theorem isi_si : kitB "str" "int" = some false := by decide +kernel
theorem isi_ss : kitB "str" "str" = some true := by decide +kernel
theorem isi_ll : kitB "list" "list" = some true := by decide +kernel
theorem isi_tt : kitB "tuple" "tuple" = some true := by decide +kernel
theorem isi_lt : kitB "list" "tuple" = some false := by decide +kernel
theorem isi_tl : kitB "tuple" "list" = some false := by decide +kernel
theorem isi_ni : kitB "NoneType" "int" = some false := by decide +kernel
theorem isi_dd : kitB "dict" "dict" = some true := by decide +kernel
theorem k_lst {ts : TA} (h : ts σ H fun xs H1 => xs.length ≤ sizeLine ∧ ∀ p, H1 p = none → Q (.ref p) (upd H1 p (.lst xs))) : tLst ts σ H Q := h
theorem k_tup {ts : TA} (h : ts σ H fun xs H1 => xs.length ≤ sizeLine ∧ ∀ p, H1 p = none → Q (.ref p) (upd H1 p (.tup xs))) : tTup ts σ H Q := h
theorem k_and {tt uu : TT} {Qb : Bool → Hp → Prop} (h : tt σ H fun c H1 => if c = true then uu σ H1 Qb else Qb false H1) : tAnd tt uu σ H Qb := h
theorem k_or {tt uu : TT} {Qb : Bool → Hp → Prop} (h : tt σ H fun c H1 => if c = true then Qb true H1 else uu σ H1 Qb) : tOr tt uu σ H Qb := h
theorem k_not {tt : TT} {Qb : Bool → Hp → Prop} (h : tt σ H fun c H1 => Qb (!c) H1) : tNot tt σ H Qb := h
theorem k_andV (h : ta σ H fun x H1 => ∃ c, x = .bl c ∧ if c = true then tb σ H1 Q else Q (.bl false) H1) : tAndV ta tb σ H Q := h
theorem k_orV (h : ta σ H fun x H1 => ∃ c, x = .bl c ∧ if c = true then Q (.bl true) H1 else tb σ H1 Q) : tOrV ta tb σ H Q := h
theorem k_notV (h : ta σ H fun x H1 => ∃ c, x = .bl c ∧ Q (.bl (!c)) H1) : tNotV ta σ H Q := h
theorem k_ifE {tt : TT} (h : tt σ H fun c H1 => if c = true then ta σ H1 Q else tb σ H1 Q) : tIf tt ta tb σ H Q := h
theorem k_eqV (hs : scal x y = true) (h : Q (.bl (decide (x = y))) H) : rEq x y H Q := ⟨hs, h⟩
theorem k_neV (hs : scal x y = true) (h : Q (.bl (!decide (x = y))) H) : rNe x y H Q := ⟨hs, h⟩
theorem k_augS {to ti te : TE} {tget : V → V → Hp → VK → Prop} {tip : TIp} {tset : TSet} (h : to σ H fun o H1 => ti σ H1 fun i H2 => tget o i H2 fun x H3 => te σ H3 fun y H4 => tip x y H4 fun z H5 => tset o i z H5 fun H6 => D.nx σ H6) : tAugS to ti te tget tip tset D σ H := h
theorem k_aug {n : Nat} {ti : TIp} (h1 : σ[n]? = some (some x)) (h : te σ H fun y H1 => ti x y H1 fun z H2 => D.nx (σ.set n (some z)) H2) : tAug n te ti D σ H := ⟨x, h1, h⟩
theorem k_ipI {f : Int → Int → Int} (h : Q (.int (f i j)) H) : ipI f (.int i) (.int j) H Q := ⟨i, j, rfl, rfl, h⟩
theorem k_sl {r : V → Option Int → Option Int → Hp → VK → Prop} {tl th : TO} (h : te σ H fun x H1 => tl σ H1 fun lo H2 => th σ H2 fun hi H3 => r x lo hi H3 Q) : tSl r te tl th σ H Q := h
theorem k_noPart {Qo : Option Int → Hp → Prop} (h : Qo none H) : tNoPart σ H Qo := h
theorem k_part {Qo : Option Int → Hp → Prop} (h : te σ H fun x H1 => ∃ i, x = .int i ∧ Qo (some i) H1) : tPart te σ H Qo := h
theorem k_int {Qi : Int → Hp → Prop} (h : Qi i H) : ∃ k, V.int i = .int k ∧ Qi k H := ⟨i, rfl, h⟩
theorem k_slL {lo hi : Option Int} (h1 : SqL K H p xs) (h : ∀ q, H q = none → Q (.ref q) (upd H q (.lst (cutV xs lo hi)))) : rSlL K (.ref p) lo hi H Q := ⟨p, xs, rfl, h1, h⟩
theorem k_iteD {q A B : Prop} [Decidable q] (h1 : q → A) (h2 : ¬ q → B) : if decide q = true then A else B := by
  by_cases h : q
  · rw [decide_eq_true h]
    exact h1 h
  · rw [decide_eq_false h]
    exact h2 h
theorem k_iteN {q A B : Prop} [Decidable q] (h1 : ¬ q → A) (h2 : q → B) : if (!decide q) = true then A else B := by
  by_cases h : q
  · rw [decide_eq_true h]
    exact h2 h
  · rw [decide_eq_false h]
    exact h1 h
theorem k_iteB {b : Bool} {A B : Prop} (h1 : b = true → A) (h2 : b = false → B) : if b = true then A else B := by
  cases b
  · exact h2 rfl
  · exact h1 rfl
theorem k_ite0 {A B : Prop} (h : B) : if false = true then A else B := h
theorem k_ite1 {A B : Prop} (h : A) : if true = true then A else B := h
theorem k_iteN1 {A B : Prop} (h : B) : if (!true) = true then A else B := h
theorem k_iteN0 {A B : Prop} (h : A) : if (!false) = true then A else B := h
theorem k_iteT {b : Bool} {A B : Prop} (e : b = true) (h : A) : if b = true then A else B := by
  rw [if_pos e]
  exact h
theorem k_iteF {b : Bool} {A B : Prop} (e : b = false) (h : B) : if b = true then A else B := by
  rw [e]
  exact h
theorem k_iteE {A B : Prop} {x : V} (h : A) : if decide (x = x) = true then A else B := k_iteT (decide_eq_true rfl) h
theorem k_iteNE {A B : Prop} {x : V} (h : B) : if (!decide (x = x)) = true then A else B := k_iteF (by rw [decide_eq_true rfl]; rfl) h
theorem k_for {wi : TI} {g : TG} {tb : TS} (h : wi σ H fun J H1 => ∃ W : Nat → Nat → L2.St → Hp → Prop, (∃ m, W 0 m σ H1) ∧ ∀ i m σ H, W i m σ H →
    (J.stop i H ∧ D.nx σ H) ∨ (J.go i H ∧ ∃ N : L2.St → Hp → Prop, (∀ σ' H', N σ' H' → ∃ m', m' < m ∧ W (i + 1) m' σ' H') ∧ ∀ x H', J.yld i H x H' → g x σ H' fun σ2 H2 => tb { D with nx := N, ct := N, bk := D.nx } σ2 H2)) : tFor wi g tb D σ H := h
theorem k_iL {R : It → Hp → Prop} (h : te σ H fun x H1 => ∃ a, x = .ref a ∧ (∃ xs, SqL K H1 a xs) ∧ R (Itl K a) H1) : iList K te σ H R := h
theorem k_iT {R : It → Hp → Prop} (h : te σ H fun x H1 => ∃ a, x = .ref a ∧ (∃ xs, SqT K H1 a xs) ∧ R (Itt K a) H1) : iTup K te σ H R := h
theorem k_iR1 {ts : TA} {R : It → Hp → Prop} (h : ts σ H fun vs H1 => ∃ j : Int, vs = [.int j] ∧ -(2 ^ 62) ≤ j ∧ j < 2 ^ 62 ∧ R (Itr 0 j.toNat) H1) : iRng1 ts σ H R := h
theorem k_iR2 {ts : TA} {R : It → Hp → Prop} (h : ts σ H fun vs H1 => ∃ i j : Int, vs = [.int i, .int j] ∧ (-(2 ^ 62) ≤ i ∧ i < 2 ^ 62 ∧ -(2 ^ 62) ≤ j ∧ j < 2 ^ 62) ∧ R (Itr i (j - i).toNat) H1) : iRng2 ts σ H R := h
/-- a for over a list: what is left behind the steps -/
theorem k_inL {g : TG} {tb : TS} {Nx : L2.St → Hp → Prop} {R : VK} (Pv : Nat → L2.St → Hp → Prop) (hq : SqL K H a xs) (h0 : Pv 0 σ H) (hl : ∀ i σ H, i ≤ xs.length → Pv i σ H → SqL K H a xs)
    (hs : ∀ i x σ H, xs[i]? = some x → Pv i σ H → g x σ H fun σ2 H2 => tb { nx := Pv (i + 1), rt := R, bk := Nx, ct := Pv (i + 1) } σ2 H2) (hd : ∀ σ H, Pv xs.length σ H → Nx σ H) :
    (∃ xs, SqL K H a xs) ∧ ∃ W : Nat → Nat → L2.St → Hp → Prop, (∃ m, W 0 m σ H) ∧ ∀ i m σ H, W i m σ H →
      ((Itl K a).stop i H ∧ Nx σ H) ∨ ((Itl K a).go i H ∧ ∃ N : L2.St → Hp → Prop, (∀ σ' H', N σ' H' → ∃ m', m' < m ∧ W (i + 1) m' σ' H') ∧ ∀ x H', (Itl K a).yld i H x H' → g x σ H' fun σ2 H2 => tb { nx := N, rt := R, bk := Nx, ct := N } σ2 H2) :=
  ⟨⟨xs, hq⟩, for_list (D := { nx := Nx, rt := R }) Pv h0 hl hs hd⟩
theorem k_inT {g : TG} {tb : TS} {Nx : L2.St → Hp → Prop} {R : VK} (Pv : Nat → L2.St → Hp → Prop) (hq : SqT K H a xs) (h0 : Pv 0 σ H) (hl : ∀ i σ H, i ≤ xs.length → Pv i σ H → SqT K H a xs)
    (hs : ∀ i x σ H, xs[i]? = some x → Pv i σ H → g x σ H fun σ2 H2 => tb { nx := Pv (i + 1), rt := R, bk := Nx, ct := Pv (i + 1) } σ2 H2) (hd : ∀ σ H, Pv xs.length σ H → Nx σ H) :
    (∃ xs, SqT K H a xs) ∧ ∃ W : Nat → Nat → L2.St → Hp → Prop, (∃ m, W 0 m σ H) ∧ ∀ i m σ H, W i m σ H →
      ((Itt K a).stop i H ∧ Nx σ H) ∨ ((Itt K a).go i H ∧ ∃ N : L2.St → Hp → Prop, (∀ σ' H', N σ' H' → ∃ m', m' < m ∧ W (i + 1) m' σ' H') ∧ ∀ x H', (Itt K a).yld i H x H' → g x σ H' fun σ2 H2 => tb { nx := N, rt := R, bk := Nx, ct := N } σ2 H2) :=
  ⟨⟨xs, hq⟩, for_tup (D := { nx := Nx, rt := R }) Pv h0 hl hs hd⟩
/-- range(n), range(lo, hi) -/
theorem k_inR {lo : Int} {n : Nat} {g : TG} {tb : TS} {Nx : L2.St → Hp → Prop} {R : VK} (Pv : Nat → L2.St → Hp → Prop) (h0 : Pv 0 σ H)
    (hs : ∀ i σ H, i < n → Pv i σ H → g (.int (lo + i)) σ H fun σ2 H2 => tb { nx := Pv (i + 1), rt := R, bk := Nx, ct := Pv (i + 1) } σ2 H2) (hd : ∀ σ H, Pv n σ H → Nx σ H) :
    ∃ W : Nat → Nat → L2.St → Hp → Prop, (∃ m, W 0 m σ H) ∧ ∀ i m σ H, W i m σ H →
      ((Itr lo n).stop i H ∧ Nx σ H) ∨ ((Itr lo n).go i H ∧ ∃ N : L2.St → Hp → Prop, (∀ σ' H', N σ' H' → ∃ m', m' < m ∧ W (i + 1) m' σ' H') ∧ ∀ x H', (Itr lo n).yld i H x H' → g x σ H' fun σ2 H2 => tb { nx := N, rt := R, bk := Nx, ct := N } σ2 H2) :=
  for_range (D := { nx := Nx, rt := R }) Pv h0 hs hd
theorem k_expr {sp : Sp} (h : sp [] H Q E) : sp [] H Q E := h
theorem k_tup1 {K : PySem.W.Frag} {n : Nat} {ts : TGs} {Qs : L2.St → Hp → Prop} (h1 : SqT K H a xs) (h2 : xs.length = n) (h : ts xs σ H Qs) : gTup K n ts (.ref a) σ H Qs := ⟨a, xs, rfl, h1, h2, h⟩
theorem k_gCons {g : TG} {gs : TGs} {r : List V} {Qs : L2.St → Hp → Prop} (h : g v σ H fun σ' H' => gs r σ' H' Qs) : gCons g gs (v :: r) σ H Qs := ⟨v, r, rfl, h⟩
theorem k_gNil {Qs : L2.St → Hp → Prop} (h : Qs σ H) : gNil [] σ H Qs := ⟨rfl, h⟩
theorem k_fld {C dx : Addr} {f : Str} {fs : List (Str × V)} (h : ta σ H fun x H1 => ∃ a C dx fs v, x = .ref a ∧ H1 a = some (.ins C dx fs) ∧ Cls K C ∧ NoAttr K C f ∧ fs.lookup f = some v ∧ Q v H1) : tFld K ta f σ H Q := h
theorem Same.get {H H' : Hp} {o : HO} (s : Same H H') (h : H a = some o) : H' a = some o := s _ _ h
theorem SameB.get {b : Addr} {H H' : Hp} {o : HO} (s : SameB b H H') (n : a ≠ b) (h : H a = some o) : H' a = some o := s _ _ n h
theorem ne_upd {b : Addr} {o u : HO} (h : a ≠ b) (e : H a = some u) : upd H b o a = some u := by
  rw [upd_ne h]
  exact e
end
end Lt
/-! tactics: rd a step, go steps, hp an object of the heap -/
local macro_rules | `(tactic| walk_at "ne") => `(tactic| first
  | assumption
  | (apply Ne.symm; assumption)
  | exact L2.ne_of_none (by assumption) (by assumption)
  | exact Ne.symm (L2.ne_of_none (by assumption) (by assumption)))
local macro_rules | `(tactic| walk_at "hp") => `(tactic| first
  | assumption
  | exact L2.upd_same
  | exact L2.SqL.of L2.upd_same
  | exact L2.SqT.of L2.upd_same
  | exact L2.SqL.of (by assumption)
  | exact L2.SqT.of (by assumption)
  | exact Lt.ne_upd (by walk_at "ne") (by assumption)
  | exact Lt.ne_upd (by walk_at "ne") L2.upd_same)
local macro_rules | `(tactic| walk_at "ic") => `(tactic| first
  | assumption
  | exact ⟨by decide, by decide, by decide⟩
  | exact ⟨by decide, by decide⟩
  | exact Or.inl ⟨by decide, by decide⟩
  | exact Or.inr ⟨by decide, by decide⟩
  | exact Or.inl ⟨by omega, by omega⟩
  | exact Or.inr ⟨by omega, by omega⟩
  | (show (0 : Int) < _; first | decide | omega)
  | exact ⟨by omega, by omega⟩)
local macro_rules | `(tactic| walk_at "sz") => `(tactic| exact Lt.sz (by first | decide | (simp only [List.length_cons, List.length_nil]; decide)))
local macro_rules | `(tactic| walk_at "ty") => `(tactic| first
  | exact L2.TyX.base (L2.TyOf.int _)
  | exact L2.TyX.base (L2.TyOf.bl _)
  | exact L2.TyX.base (L2.TyOf.str _)
  | exact L2.TyX.base L2.TyOf.non
  | exact L2.TyX.base (L2.TyOf.lst (by walk_at "hp"))
  | exact L2.TyX.base (L2.TyOf.tup (by walk_at "hp"))
  | exact L2.TyX.base (L2.TyOf.dK (by walk_at "hp"))
  | exact L2.TyX.base (L2.TyOf.dT (by walk_at "hp")))
local macro_rules | `(tactic| walk_at "isi") => `(tactic| first
  | exact Lt.isi_ii | exact Lt.isi_ib | exact Lt.isi_bi | exact Lt.isi_bb | exact Lt.isi_is | exact Lt.isi_si | exact Lt.isi_ss | exact Lt.isi_ll | exact Lt.isi_tt | exact Lt.isi_lt | exact Lt.isi_tl | exact Lt.isi_ni | exact Lt.isi_dd)
local macro_rules | `(tactic| walk_at "rd") => `(tactic| first
  | (with_reducible refine Lt.k_seq ?_)
  | (with_reducible refine Lt.k_next ?_)
  | (with_reducible refine Lt.k_c ?_)
  | (with_reducible refine Lt.k_op ?_)
  | (with_reducible refine Lt.k_I0 ?_)
  | (with_reducible refine Lt.k_ifS ?_)
  | (with_reducible refine Lt.k_tst ?_)
  | (with_reducible refine Lt.k_tB ?_)
  | (with_reducible refine Lt.k_asg ?_)
  | (with_reducible refine Lt.k_gName ?_)
  | (with_reducible refine Lt.k_gSub ?_)
  | (with_reducible refine Lt.k_cb ?_)
  | (with_reducible refine Lt.k_cons ?_)
  | (with_reducible refine Lt.k_nil ?_)
  | (with_reducible refine Lt.k_call ?_)
  | (with_reducible refine Lt.k_ret ?_)
  | (with_reducible refine Lt.k_drop ?_)
  | (with_reducible refine Lt.k_lst ?_)
  | (with_reducible refine Lt.k_tup ?_)
  | (with_reducible refine Lt.k_and ?_)
  | (with_reducible refine Lt.k_or ?_)
  | (with_reducible refine Lt.k_not ?_)
  | (with_reducible refine Lt.k_andV ?_)
  | (with_reducible refine Lt.k_orV ?_)
  | (with_reducible refine Lt.k_notV ?_)
  | (with_reducible refine Lt.k_ifE ?_)
  | (with_reducible refine Lt.k_augS ?_)
  | (with_reducible refine Lt.k_ipI ?_)
  | (with_reducible refine Lt.k_un ?_)
  | (with_reducible refine Lt.k_U ?_)
  | (with_reducible refine Lt.k_sl ?_)
  | (with_reducible refine Lt.k_noPart ?_)
  | (with_reducible refine Lt.k_part ?_)
  | (with_reducible refine Lt.k_for ?_)
  | (with_reducible refine Lt.k_iL ?_)
  | (with_reducible refine Lt.k_iT ?_)
  | (with_reducible refine Lt.k_iR1 ?_)
  | (with_reducible refine Lt.k_iR2 ?_)
  | (with_reducible refine Lt.k_ite0 ?_)
  | (with_reducible refine Lt.k_ite1 ?_)
  | (with_reducible refine Lt.k_iteN1 ?_)
  | (with_reducible refine Lt.k_iteN0 ?_)
  | (with_reducible refine Lt.k_gCons ?_)
  | (with_reducible refine Lt.k_gNil ?_)
  | ((with_reducible refine' Lt.k_var ?h1 ?_); (case h1 => exact rfl))
  | ((with_reducible refine' Lt.k_I ?hc ?_); (case hc => walk_at "ic"))
  | ((with_reducible refine' Lt.k_isi ?ht ?hk ?_); (case ht => walk_at "ty"); (case hk => walk_at "isi"))
  | (with_reducible refine Lt.k_callN ?_)
  | ((with_reducible refine' Lt.k_aug ?h1 ?_); (case h1 => exact rfl))
  | ((with_reducible refine' Lt.k_eqV ?h1 ?_); (case h1 => exact rfl))
  | ((with_reducible refine' Lt.k_neV ?h1 ?_); (case h1 => exact rfl))
  | ((with_reducible refine' Lt.k_ixL ?h1 ?h2 ?_); (case h1 => walk_at "hp"); (case h2 => exact rfl))
  | ((with_reducible refine' Lt.k_ixT ?h1 ?h2 ?_); (case h1 => walk_at "hp"); (case h2 => exact rfl))
  | ((with_reducible refine' Lt.k_getL ?h1 ?h0 ?h2 ?_); (case h1 => walk_at "hp"); (case h0 => decide); (case h2 => exact rfl))
  | ((with_reducible refine' Lt.k_setL ?h1 ?h2 ?_); (case h1 => walk_at "hp"); (case h2 => exact rfl))
  | ((with_reducible refine' ⟨_, _, rfl, Or.inl ?h1, ?_⟩); (case h1 => walk_at "hp"))
  | (with_reducible refine ⟨_, rfl, ?_⟩)
  | (with_reducible refine Lt.k_iteE ?_)
  | (with_reducible refine Lt.k_iteNE ?_)
  | ((with_reducible refine' Lt.k_iteT ?h1 ?_); (case h1 => decide))
  | ((with_reducible refine' Lt.k_iteF ?h1 ?_); (case h1 => decide))
  | refine ⟨rfl, rfl, ?_⟩)
local macro_rules | `(tactic| walk_at "go") => `(tactic| ((repeat walk_at "rd"); try dsimp only))
namespace K10
open PySem PySem.Spec PyProof.Rows L2 Lt
def topS (i : Nat) : Stmt := PySem.Challenge.pw_latestow_k10_sheets_at_worst.main.body.getD i (.Pass ⟨0, 0, 0, 0⟩)
abbrev s_worst : Stmt := topS 3
abbrev N_worst : List Str := ["pages", "node", "sheet"]
theorem sc_worst : FnScope N_worst ["pages", "node", "sheet"] (defScope s_worst) := ⟨rfl, rfl, rfl, by decide +kernel, rfl, by decide +kernel, by decide +kernel⟩
abbrev s_charge : Stmt := topS 4
abbrev N_charge : List Str := ["pages"]
theorem sc_charge : FnScope N_charge ["pages"] (defScope s_charge) := ⟨rfl, rfl, rfl, by decide +kernel, rfl, by decide +kernel, by decide +kernel⟩
abbrev s_law_bag : Stmt := topS 6
abbrev N_law_bag : List Str := ["_law_script"]
theorem sc_law_bag : FnScope N_law_bag ["_law_script"] (defScope s_law_bag) := ⟨rfl, rfl, rfl, by decide +kernel, rfl, by decide +kernel, by decide +kernel⟩
abbrev s_law_pull : Stmt := topS 7
abbrev N_law_pull : List Str := ["_law_bag_here", "_law_top", "_law_cell", "_law_got"]
theorem sc_law_pull : FnScope N_law_pull ["_law_bag_here", "_law_top"] (defScope s_law_pull) := ⟨rfl, rfl, rfl, by decide +kernel, rfl, by decide +kernel, by decide +kernel⟩
abbrev s_law_int : Stmt := topS 8
abbrev N_law_int : List Str := ["_law_one"]
theorem sc_law_int : FnScope N_law_int ["_law_one"] (defScope s_law_int) := ⟨rfl, rfl, rfl, by decide +kernel, rfl, by decide +kernel, by decide +kernel⟩
abbrev s_law_worst : Stmt := topS 9
abbrev N_law_worst : List Str := ["_law_pages"]
theorem sc_law_worst : FnScope N_law_worst ["_law_pages"] (defScope s_law_worst) := ⟨rfl, rfl, rfl, by decide +kernel, rfl, by decide +kernel, by decide +kernel⟩
abbrev s_law_least : Stmt := topS 10
abbrev N_law_least : List Str := ["_law_told", "_law_pages", "_law_own", "_law_each"]
theorem sc_law_least : FnScope N_law_least ["_law_told", "_law_pages", "_law_own", "_law_each"] (defScope s_law_least) := ⟨rfl, rfl, rfl, by decide +kernel, rfl, by decide +kernel, by decide +kernel⟩
abbrev s_law : Stmt := topS 11
abbrev N_law : List Str := ["_law_script", "_law_bag_here", "_law_top", "_law_pages", "_law_own", "_law_each", "_law_near"]
theorem sc_law : FnScope N_law ["_law_script"] (defScope s_law) := ⟨rfl, rfl, rfl, by decide +kernel, rfl, by decide +kernel, by decide +kernel⟩
structure Txt (K : PySem.W.Frag) (mg : Str → Option Value) where
  f_worst : Addr
  d_worst : FuncData
  F_worst : FunD K "worst" "worst" (defArgs s_worst) (defBody s_worst) (defScope s_worst) [] [("node", V.int 3), ("sheet", V.int 6)] f_worst d_worst
  g_worst : mg "worst" = some (.ref f_worst)
  f_charge : Addr
  d_charge : FuncData
  F_charge : FunD K "charge" "charge" (defArgs s_charge) (defBody s_charge) (defScope s_charge) [] [] f_charge d_charge
  g_charge : mg "charge" = some (.ref f_charge)
  f_law_bag : Addr
  d_law_bag : FuncData
  F_law_bag : FunD K "_law_bag" "_law_bag" (defArgs s_law_bag) (defBody s_law_bag) (defScope s_law_bag) [] [] f_law_bag d_law_bag
  g_law_bag : mg "_law_bag" = some (.ref f_law_bag)
  f_law_pull : Addr
  d_law_pull : FuncData
  F_law_pull : FunD K "_law_pull" "_law_pull" (defArgs s_law_pull) (defBody s_law_pull) (defScope s_law_pull) [] [] f_law_pull d_law_pull
  g_law_pull : mg "_law_pull" = some (.ref f_law_pull)
  f_law_int : Addr
  d_law_int : FuncData
  F_law_int : FunD K "_law_int" "_law_int" (defArgs s_law_int) (defBody s_law_int) (defScope s_law_int) [] [] f_law_int d_law_int
  g_law_int : mg "_law_int" = some (.ref f_law_int)
  f_law_worst : Addr
  d_law_worst : FuncData
  F_law_worst : FunD K "_law_worst" "_law_worst" (defArgs s_law_worst) (defBody s_law_worst) (defScope s_law_worst) [] [] f_law_worst d_law_worst
  g_law_worst : mg "_law_worst" = some (.ref f_law_worst)
  f_law_least : Addr
  d_law_least : FuncData
  F_law_least : FunD K "_law_least" "_law_least" (defArgs s_law_least) (defBody s_law_least) (defScope s_law_least) [] [] f_law_least d_law_least
  g_law_least : mg "_law_least" = some (.ref f_law_least)
  f_law : Addr
  d_law : FuncData
  F_law : FunD K "law" "law" (defArgs s_law) (defBody s_law) (defScope s_law) [] [] f_law d_law
  g_law : mg "law" = some (.ref f_law)
  c_NODE : ∃ u, mg "NODE" = some u ∧ RelV (.int 3) u
  c_SHEET : ∃ u, mg "SHEET" = some u ∧ RelV (.int 6) u
  z_bool : mg "bool" = none
  z_int : mg "int" = none
  z_isinstance : mg "isinstance" = none
  z_len : mg "len" = none
  z_list : mg "list" = none
theorem Txt.b1_worst {K : PySem.W.Frag} {mg : Str → Option Value} (T : Txt K mg) : ∃ ds, Vals [V.int 3, V.int 6] ds ∧ Binds K T.d_worst ["pages", "node", "sheet"] ds := T.F_worst.binds0 1 (fun z => nomatch z) rfl fun D _ _ _ _ _ us vs h1 h2 => match us, vs, h1, h2 with | [_], [_, _], _, _ => ⟨_, _, _, _, _, _, rfl, rfl, ⟨_, _, _, _, _, _, rfl, rfl, rfl⟩⟩
def g_worst_1_sheet_node {α : Type} (us mv ws : List α) : List α := ((us ++ (ws.drop 1).take 1) ++ (ws.drop 0).take 1)
theorem Txt.kb_worst_1_sheet_node {K : PySem.W.Frag} {mg : Str → Option Value} (T : Txt K mg) : ∃ mv : List Value, KBn K T.d_worst ["pages", "node", "sheet"] 1 ["sheet", "node"] (fun us ws => g_worst_1_sheet_node us mv ws) (fun vs zs => g_worst_1_sheet_node vs (([] : List (Str × V)).map (·.2)) zs) := by
  exact T.F_worst.kbinds0 1 ["sheet", "node"] [] (fun us mv ws => g_worst_1_sheet_node us mv ws) (fun z => nomatch z) (by decide) (fun r1 r2 r3 => (Vals.append (Vals.append r1 (Vals.take 1 (Vals.drop 1 r3))) (Vals.take 1 (Vals.drop 0 r3)))) fun D _ _ _ _ _ us mv ws h1 h2 h3 => match us, mv, ws, h1, h2, h3 with | [_], [], [_, _], _, _, _ => rfl
def g_worst_1_node {α : Type} (us mv ws : List α) : List α := ((us ++ (ws.drop 0).take 1) ++ (mv.drop 0).take 1)
theorem Txt.kb_worst_1_node {K : PySem.W.Frag} {mg : Str → Option Value} (T : Txt K mg) : ∃ mv : List Value, KBn K T.d_worst ["pages", "node", "sheet"] 1 ["node"] (fun us ws => g_worst_1_node us mv ws) (fun vs zs => g_worst_1_node vs (([("sheet", V.int 6)] : List (Str × V)).map (·.2)) zs) := by
  exact T.F_worst.kbinds0 1 ["node"] [("sheet", V.int 6)] (fun us mv ws => g_worst_1_node us mv ws) (fun z => nomatch z) (by decide) (fun r1 r2 r3 => (Vals.append (Vals.append r1 (Vals.take 1 (Vals.drop 0 r3))) (Vals.take 1 (Vals.drop 0 r2)))) fun D _ _ _ _ _ us mv ws h1 h2 h3 => match us, mv, ws, h1, h2, h3 with | [_], [_], [_], _, _, _ => ⟨_, _, _, _, _, _, rfl, rfl, rfl⟩
def g_worst_1_sheet {α : Type} (us mv ws : List α) : List α := ((us ++ (mv.drop 0).take 1) ++ (ws.drop 0).take 1)
theorem Txt.kb_worst_1_sheet {K : PySem.W.Frag} {mg : Str → Option Value} (T : Txt K mg) : ∃ mv : List Value, KBn K T.d_worst ["pages", "node", "sheet"] 1 ["sheet"] (fun us ws => g_worst_1_sheet us mv ws) (fun vs zs => g_worst_1_sheet vs (([("node", V.int 3)] : List (Str × V)).map (·.2)) zs) := by
  exact T.F_worst.kbinds0 1 ["sheet"] [("node", V.int 3)] (fun us mv ws => g_worst_1_sheet us mv ws) (fun z => nomatch z) (by decide) (fun r1 r2 r3 => (Vals.append (Vals.append r1 (Vals.take 1 (Vals.drop 0 r2))) (Vals.take 1 (Vals.drop 0 r3)))) fun D _ _ _ _ _ us mv ws h1 h2 h3 => match us, mv, ws, h1, h2, h3 with | [_], [_], [_], _, _, _ => ⟨_, _, _, _, _, _, rfl, rfl, rfl⟩
def g_worst_1_node_sheet {α : Type} (us mv ws : List α) : List α := ((us ++ (ws.drop 0).take 1) ++ (ws.drop 1).take 1)
theorem Txt.kb_worst_1_node_sheet {K : PySem.W.Frag} {mg : Str → Option Value} (T : Txt K mg) : ∃ mv : List Value, KBn K T.d_worst ["pages", "node", "sheet"] 1 ["node", "sheet"] (fun us ws => g_worst_1_node_sheet us mv ws) (fun vs zs => g_worst_1_node_sheet vs (([] : List (Str × V)).map (·.2)) zs) := by
  exact T.F_worst.kbinds0 1 ["node", "sheet"] [] (fun us mv ws => g_worst_1_node_sheet us mv ws) (fun z => nomatch z) (by decide) (fun r1 r2 r3 => (Vals.append (Vals.append r1 (Vals.take 1 (Vals.drop 0 r3))) (Vals.take 1 (Vals.drop 1 r3)))) fun D _ _ _ _ _ us mv ws h1 h2 h3 => match us, mv, ws, h1, h2, h3 with | [_], [], [_, _], _, _, _ => rfl
theorem Txt.k_worst {K : PySem.W.Frag} {mg : Str → Option Value} (T : Txt K mg) : PySem.W.keepIn K (.ref T.f_worst) = true := T.F_worst.kp
theorem Txt.b_charge {K : PySem.W.Frag} {mg : Str → Option Value} (T : Txt K mg) : Binds K T.d_charge ["pages"] [] := T.F_charge.bindsN fun _ _ _ _ _ _ us hl => match us, hl with | [_], _ => rfl
theorem Txt.k_charge {K : PySem.W.Frag} {mg : Str → Option Value} (T : Txt K mg) : PySem.W.keepIn K (.ref T.f_charge) = true := T.F_charge.kp
theorem Txt.b_law_bag {K : PySem.W.Frag} {mg : Str → Option Value} (T : Txt K mg) : Binds K T.d_law_bag ["_law_script"] [] := T.F_law_bag.bindsN fun _ _ _ _ _ _ us hl => match us, hl with | [_], _ => rfl
theorem Txt.k_law_bag {K : PySem.W.Frag} {mg : Str → Option Value} (T : Txt K mg) : PySem.W.keepIn K (.ref T.f_law_bag) = true := T.F_law_bag.kp
theorem Txt.b_law_pull {K : PySem.W.Frag} {mg : Str → Option Value} (T : Txt K mg) : Binds K T.d_law_pull ["_law_bag_here", "_law_top"] [] := T.F_law_pull.bindsN fun _ _ _ _ _ _ us hl => match us, hl with | [_, _], _ => rfl
theorem Txt.k_law_pull {K : PySem.W.Frag} {mg : Str → Option Value} (T : Txt K mg) : PySem.W.keepIn K (.ref T.f_law_pull) = true := T.F_law_pull.kp
theorem Txt.b_law_int {K : PySem.W.Frag} {mg : Str → Option Value} (T : Txt K mg) : Binds K T.d_law_int ["_law_one"] [] := T.F_law_int.bindsN fun _ _ _ _ _ _ us hl => match us, hl with | [_], _ => rfl
theorem Txt.k_law_int {K : PySem.W.Frag} {mg : Str → Option Value} (T : Txt K mg) : PySem.W.keepIn K (.ref T.f_law_int) = true := T.F_law_int.kp
theorem Txt.b_law_worst {K : PySem.W.Frag} {mg : Str → Option Value} (T : Txt K mg) : Binds K T.d_law_worst ["_law_pages"] [] := T.F_law_worst.bindsN fun _ _ _ _ _ _ us hl => match us, hl with | [_], _ => rfl
theorem Txt.k_law_worst {K : PySem.W.Frag} {mg : Str → Option Value} (T : Txt K mg) : PySem.W.keepIn K (.ref T.f_law_worst) = true := T.F_law_worst.kp
theorem Txt.b_law_least {K : PySem.W.Frag} {mg : Str → Option Value} (T : Txt K mg) : Binds K T.d_law_least ["_law_told", "_law_pages", "_law_own", "_law_each"] [] := T.F_law_least.bindsN fun _ _ _ _ _ _ us hl => match us, hl with | [_, _, _, _], _ => rfl
theorem Txt.k_law_least {K : PySem.W.Frag} {mg : Str → Option Value} (T : Txt K mg) : PySem.W.keepIn K (.ref T.f_law_least) = true := T.F_law_least.kp
theorem Txt.b_law {K : PySem.W.Frag} {mg : Str → Option Value} (T : Txt K mg) : Binds K T.d_law ["_law_script"] [] := T.F_law.bindsN fun _ _ _ _ _ _ us hl => match us, hl with | [_], _ => rfl
theorem Txt.k_law {K : PySem.W.Frag} {mg : Str → Option Value} (T : Txt K mg) : PySem.W.keepIn K (.ref T.f_law) = true := T.F_law.kp
def sp_law (K : PySem.W.Frag) : Sp := fun vs H Q _ => ∃ (a : Addr) (ns : List Int), vs = [.ref a] ∧ SqL K H a (ns.map V.int) ∧ ns.length ≤ 63 ∧ ∀ H', Q (.bl true) H'
section
variable {P : Program} {w : World} {K : PySem.W.Frag} {mg : Str → Option Value} {base : Heap}
/-! the bag, a draw, is it a whole number -/
def sp_law_bag (K : PySem.W.Frag) : Sp := fun vs H Q _ => ∃ (a : Addr) (ns : List Int), vs = [.ref a] ∧ SqL K H a (ns.map V.int) ∧ ns.length ≤ 63 ∧ ∀ H' b l, Same H H' → H b = none → H l = none → Bag H' b l ns → Q (.ref b) H'
theorem cut63 (ns : List Int) (h : ns.length ≤ 63) : cutV (ns.map V.int) none (some 63) = ns.map V.int := by
  unfold cutV
  rw [HT.sIx_none, show HT.sIx (ns.map V.int).length (ns.map V.int).length (some 63) = min 63 (ns.map V.int).length from HT.sIx_nat _ _ 63, List.length_map, Nat.min_eq_right h]
  rw [List.drop_zero, Nat.sub_zero, show ns.length = (ns.map V.int).length from (List.length_map ..).symm, List.take_length]
theorem ok_law_bag (T : Txt K mg) : FnOk P w K mg base (L2.CX P w) 1 T.f_law_bag T.d_law_bag ["_law_script"] (sp_law_bag K) := by
  refine T.F_law_bag.ok sc_law_bag (fun vs H Q E h => ?_) (fun cdv A outer s H vs Q E hr h => ?_)
  · obtain ⟨a, ns, rfl, _⟩ := h
    rfl
  · obtain ⟨a, ns, rfl, hS, hl, q⟩ := h
    refine ⟨_, PSs.nox (pss_one (ps_ret (pe_lst (pa_cons (pe_callTy call_list_of (by rfl) T.z_list (by decide +kernel) (pa_cons (pe_slice sl_list (pv 0) po_none (po_some pe_int)) pa_nil)) (pa_cons pe_int (pa_cons pe_int (pa_cons pe_int pa_nil))))))), ?_⟩
    refine ⟨_, rfl, _, rfl, _, _, rfl, hS, fun c nc => ⟨c, _, rfl, .inl (SqL.of upd_same), fun l nl => ⟨(by show 4 ≤ sizeLine; decide), fun b nb => ?_⟩⟩⟩
    rw [cut63 ns hl] at nl nb ⊢
    have nlc : c ≠ l := ne_of_none upd_same nl
    have nbl : l ≠ b := ne_of_none upd_same nb
    have s1 := same_new (o := .lst (ns.map V.int)) nc
    have s2 := Same.new (o := .lst (ns.map V.int)) s1 nl
    refine q _ b l (Same.new s2 nb) (s2.free nb) (s1.free nl) ⟨0, 0, 7, by decide, upd_same, by rw [upd_ne nbl, upd_same], hl⟩
def sp_law_pull : Sp := fun vs H Q _ => ∃ (b l : Addr) (ns : List Int) (top : Int), vs = [.ref b, .int top] ∧ Bag H b l ns ∧ 0 < top ∧ top ≤ 1000000000000000000000000000000 ∧ ∀ H' v, 0 ≤ v → v < top → SameB b H H' → Bag H' b l ns → Q (.int v) H'
theorem ok_law_pull (T : Txt K mg) : FnOk P w K mg base (L2.CX P w) 1 T.f_law_pull T.d_law_pull ["_law_bag_here", "_law_top"] sp_law_pull := by
  refine T.F_law_pull.ok sc_law_pull (fun vs H Q E h => ?_) (fun cdv A outer s H vs Q E hr h => ?_)
  · obtain ⟨b, l, ns, top, rfl, _⟩ := h
    rfl
  · obtain ⟨b, l, ns, top, rfl, hB, h0, hT, q⟩ := h
    have hlb := hB.ne
    obtain ⟨i, r, z, hi, hb, hl, hn⟩ := hB
    refine ⟨_, PSs.nox (pss_cons (ps_if (pt_cmpR op_lt (pe_ix ix_list (pv 0) pe_int (fun _ _ => rfl)) pe_int (nomark _))
 (pss_cons (ps_set (i := 2) sc_law_pull.nd rfl (Or.inl rfl) pe_int)
 (pss_mid (ps_if (pt_cmpR op_lt (pe_ix ix_list (pv 0) pe_int (fun _ _ => rfl)) (pe_callB call_len_seq (by rfl) T.z_len (by decide +kernel) (pa_cons (pe_ix ix_list (pv 0) pe_int (fun _ _ => rfl)) pa_nil)) (nomark _))
 (pss_one (ps_set (i := 2) sc_law_pull.nd rfl (Or.inl rfl) (pe_ix ix_list (pe_ix ix_list (pv 0) pe_int (fun _ _ => rfl)) (pe_ix ix_list (pv 0) pe_int (fun _ _ => rfl)) (fun _ _ => rfl))))
 pss_nil)
 (pss_cons (ps_augL (pv 0) pe_int pe_int iop_add)
 (pss_cons (ps_if (pt_cmpR op_lt (pv 2) (pe_op op_pow pe_int pe_int) (nomark _))
 (pss_cons (ps_asg (pe_op op_mod (pe_op op_add (pe_op op_add (pe_op op_mul (pe_ix ix_list (pv 0) pe_int (fun _ _ => rfl)) pe_int) (pe_op op_mul (pv 2) pe_int)) pe_int) pe_int) (pg_sub (pv 0) pe_int set_list))
 (pss_one (ps_ret (pe_op op_mod (pe_op op_fdiv (pe_ix ix_list (pv 0) pe_int (fun _ _ => rfl)) pe_int) (pv 1)))))
 pss_nil)
 (pss_one (ps_asg (pe_op op_sub (pv 2) (pe_op op_pow pe_int pe_int)) (pg_sub (pv 0) pe_int set_list)))))))
 pss_nil)
 (pss_cons (ps_set (i := 3) sc_law_pull.nd rfl (Or.inl rfl) (pe_op op_mod (pe_ix ix_list (pv 0) pe_int (fun _ _ => rfl)) (pv 1)))
 (pss_cons (ps_asg (pe_op op_fdivW (pe_ix ix_list (pv 0) pe_int (fun _ _ => rfl)) (pv 1)) (pg_sub (pv 0) pe_int set_list))
 (pss_one (ps_ret (pv 3)))))), ?_⟩
    have hT' : CDivW r top := wide_div (b := 100) h0 (by omega) (by decide) (by decide)
    walk_at "go"
    refine k_iteD (fun hr1 => ?_) (fun hr1 => ?_)
    · walk_at "go"
      -- a cell is taken
      refine ⟨fun σ1 H1 => H1 = H ∧ ∃ c : Int, σ1 = [some (.ref b), some (.int top), some (.int c), none], ?_, ?_⟩
      · walk_at "go"
        refine k_iteD (fun h1 => ?_) (fun h1 => ?_)
        · obtain ⟨c, hc⟩ : ∃ c, ns[i.toNat]? = some c := by
            rw [List.length_map] at h1
            exact ⟨ns[i.toNat]'(by omega), List.getElem?_eq_getElem (by omega)⟩
          walk_at "go"
          refine k_ixL (v := .int c) (SqL.of hl) (at_of (j := i.toNat) (by omega) (by rw [List.getElem?_map, hc]; rfl)) ?_
          walk_at "go"
          exact ⟨rfl, c, rfl⟩
        · walk_at "go"
          exact ⟨rfl, 0, rfl⟩
      · rintro σ1 H1 ⟨rfl, c, rfl⟩
        walk_at "go"
        refine k_iteD (fun h2 => ?_) (fun h2 => ?_)
        · walk_at "go"
          have hne : l ≠ b := hlb
          refine q _ _ (Int.emod_nonneg _ (by omega)) (Int.emod_lt_of_pos _ h0) (SameB.upd (SameB.upd (SameB.refl b H1))) (Bag.mk (i := i + 1) (by omega) upd_same ?_ hn)
          rw [upd_ne hne, upd_ne hne]
          exact hl
        · walk_at "go"
          have hne : l ≠ b := hlb
          refine q _ _ (Int.emod_nonneg _ (by omega)) (Int.emod_lt_of_pos _ h0) (SameB.upd (SameB.upd (SameB.upd (SameB.refl b H1)))) (Bag.mk (i := i + 1) (by omega) upd_same ?_ hn)
          rw [upd_ne hne, upd_ne hne, upd_ne hne]
          exact hl
    · walk_at "go"
      refine q _ _ (Int.emod_nonneg _ (by omega)) (Int.emod_lt_of_pos _ h0) (SameB.upd (SameB.refl b H)) (Bag.mk hi upd_same ?_ hn)
      rw [upd_ne hlb]
      exact hl
theorem k_pull {b l : Addr} {ns : List Int} {top : Int} {H : Hp} {Q : VK} {E : XK} (hB : Bag H b l ns) (h0 : 0 < top) (h1 : top ≤ 1000000000000000000000000000000)
    (h : ∀ H' v, 0 ≤ v → v < top → SameB b H H' → Bag H' b l ns → Q (.int v) H') : sp_law_pull ([.ref b, .int top] ++ []) H Q E := ⟨b, l, ns, top, rfl, hB, h0, h1, h⟩
/-- [x, ..][pull(bag, n)]: ints between lo and hi -/
theorem k_menu {K : PySem.W.Frag} {b l : Addr} {ns : List Int} {i : Nat} {n : Int} {xs : List V} {σ : L2.St} {H : Hp} {Q : VK} {E : XK} (lo hi : Int) (hσ : σ[i]? = some (some (.ref b))) (hB : Bag H b l ns) (hn : n = (xs.length : Int)) (h0 : 0 < n) (hz : xs.length ≤ 1000)
    (hP : ∀ x ∈ xs, ∃ t, x = V.int t ∧ lo ≤ t ∧ t ≤ hi) (h : ∀ H' t, lo ≤ t → t ≤ hi → SameB b H H' → Bag H' b l ns → Q (.int t) H') :
    xs.length ≤ sizeLine ∧ ∀ p, H p = none → tCall sp_law_pull [] E (tCons (tVar i) (tCons (tC (.int n)) tNil)) σ (upd H p (.lst xs)) fun y H2 => rIxL K (.ref p) y H2 Q := by
  refine ⟨sz hz, fun p np => ⟨.ref b, hσ, ?_⟩⟩
  show sp_law_pull ([.ref b, .int n] ++ []) (upd H p (.lst xs)) (fun y H2 => rIxL K (.ref p) y H2 Q) E
  refine k_pull (hB.keep (same_new np)) h0 (by omega) fun H2 v v0 v1 b2 hB2 => ?_
  obtain ⟨t, e1, t0, t1⟩ := pull_pick lo hi v0 v1 hn hP
  have npb : p ≠ b := fun z => by
    obtain ⟨_, _, _, _, hb, _⟩ := hB
    rw [z, hb] at np
    cases np
  exact k_ixL (SqL.of (b2.get npb upd_same)) e1 (h _ t t0 t1 (fun c o nc hc => b2 c o nc (same_new np c o hc)) hB2)
theorem menu_in {xs : List V} {lo hi : Int} (h : xs.all (fun x => match x with | .int t => decide (lo ≤ t) && decide (t ≤ hi) | _ => false) = true) : ∀ x ∈ xs, ∃ t, x = V.int t ∧ lo ≤ t ∧ t ≤ hi := by
  intro x hx
  have q := List.all_eq_true.mp h x hx
  cases x with
  | int t =>
    simp only [Bool.and_eq_true, decide_eq_true_eq] at q
    exact ⟨t, rfl, q⟩
  | _ => cases q
def sp_law_int : Sp := fun vs H Q _ => ∃ (n : Int), vs = [.int n] ∧ Q (.bl true) H
theorem ok_law_int (T : Txt K mg) : FnOk P w K mg base (L2.CX P w) 1 T.f_law_int T.d_law_int ["_law_one"] sp_law_int := by
  refine T.F_law_int.ok sc_law_int (fun vs H Q E h => ?_) (fun cdv A outer s H vs Q E hr h => ?_)
  · obtain ⟨n, rfl, _⟩ := h
    rfl
  · obtain ⟨n, rfl, q⟩ := h
    refine ⟨_, PSs.nox (pss_one (ps_ret (pe_and (pe_callB call_isi (by rfl) T.z_isinstance (by decide +kernel) (pa_cons (pv 0) (pa_cons (pe_bltn (v := .ty "int") (by rfl) T.z_int (by decide +kernel) rfl) pa_nil))) (pe_one (pe_not (pe_callB call_isi (by rfl) T.z_isinstance (by decide +kernel) (pa_cons (pv 0) (pa_cons (pe_bltn (v := .ty "bool") (by rfl) T.z_bool (by decide +kernel) rfl) pa_nil)))))))), ?_⟩
    walk_at "go"
    exact q
/-- the sheets that so many rows need -/
def worstZ (p n s : Int) : Int := if p ≤ n then 0 else (p - n + s - 1) / s
def sp_worst : Sp := fun vs H Q _ => ∃ (p n s : Int), vs = [.int p, .int n, .int s] ∧ 0 < s ∧ s ≤ 1000000000000000000000000000000 ∧ Q (.int (worstZ p n s)) H
theorem ok_worst (T : Txt K mg) : FnOk P w K mg base (L2.CX P w) 1 T.f_worst T.d_worst ["pages", "node", "sheet"] sp_worst := by
  refine T.F_worst.ok sc_worst (fun vs H Q E h => ?_) (fun cdv A outer s H vs Q E hr h => ?_)
  · obtain ⟨p, n, z, rfl, _⟩ := h
    rfl
  · obtain ⟨p, n, z, rfl, h0, hz, q⟩ := h
    refine ⟨_, PSs.nox (pss_cons (ps_if (pt_cmpR op_le (pv 0) (pv 1) (nomark _))
 (pss_one (ps_ret pe_int))
 pss_nil)
 (pss_one (ps_ret (pe_op op_fdivW (pe_op op_sub (pe_op op_add (pe_op op_sub (pv 0) (pv 1)) (pv 2)) pe_int) (pv 2))))), ?_⟩
    have hw : ∀ i, CDivW i z := fun i => wide_div (b := 100) h0 (by omega) (by decide) (by decide)
    walk_at "go"
    refine k_iteD (fun h1 => ?_) (fun h1 => ?_)
    · walk_at "go"
      rw [worstZ, if_pos h1] at q
      exact q
    · walk_at "go"
      refine k_I (hw _) ?_
      rw [worstZ, if_neg h1] at q
      exact q
def sp_charge : Sp := fun vs H Q _ => ∃ (p : Int), vs = [.int p] ∧ Q (.int (p + worstZ p 3 6)) H
theorem ok_charge (T : Txt K mg) : FnOk P w K mg base (L2.CX P w) 2 T.f_charge T.d_charge ["pages"] sp_charge := by
  refine T.F_charge.ok sc_charge (fun vs H Q E h => ?_) (fun cdv A outer s H vs Q E hr h => ?_)
  · obtain ⟨p, rfl, _⟩ := h
    rfl
  · obtain ⟨p, rfl, q⟩ := h
    refine ⟨_, PSs.nox (pss_one (ps_ret (pe_op op_add (pv 0) (pe_call (ok_worst T) (hr.mono (by decide)) (by rfl) T.g_worst T.k_worst T.b1_worst.choose_spec.2 T.b1_worst.choose_spec.1 passL (pa_cons (pv 0) pa_nil))))), ?_⟩
    walk_at "go"
    refine ⟨p, 3, 6, rfl, by decide, by decide, ?_⟩
    walk_at "go"
    exact q
theorem k_worst {p n z : Int} {H : Hp} {Q : VK} {E : XK} (h0 : 0 < z) (h1 : z ≤ 1000000000000000000000000000000) (h : Q (.int (worstZ p n z)) H) : sp_worst [.int p, .int n, .int z] H Q E := ⟨p, n, z, rfl, h0, h1, h⟩
def sp_law_worst : Sp := fun vs H Q _ => ∃ (p : Int), vs = [.int p] ∧ Q (.int (if p ≤ 3 then 0 else (p + 2) / 6)) H
theorem ok_law_worst (T : Txt K mg) : FnOk P w K mg base (L2.CX P w) 1 T.f_law_worst T.d_law_worst ["_law_pages"] sp_law_worst := by
  refine T.F_law_worst.ok sc_law_worst (fun vs H Q E h => ?_) (fun cdv A outer s H vs Q E hr h => ?_)
  · obtain ⟨p, rfl, _⟩ := h
    rfl
  · obtain ⟨p, rfl, q⟩ := h
    refine ⟨_, PSs.nox (pss_cons (ps_if (pt_cmpR op_le (pv 0) pe_int (nomark _))
 (pss_one (ps_ret pe_int))
 pss_nil)
 (pss_one (ps_ret (pe_op op_fdiv (pe_op op_add (pv 0) pe_int) pe_int)))), ?_⟩
    walk_at "go"
    refine k_iteD (fun h1 => ?_) (fun h1 => ?_)
    · walk_at "go"
      rw [if_pos h1] at q
      exact q
    · walk_at "go"
      rw [if_neg h1] at q
      exact q
/-- the told sheets hold all, one fewer would not -/
def Least (t p o e : Int) : Prop := 0 ≤ t ∧ p ≤ o + t * e ∧ (t = 0 ∨ o + (t - 1) * e < p)
def sp_law_least : Sp := fun vs H Q _ => ∃ (t p o e : Int), vs = [.int t, .int p, .int o, .int e] ∧ -(2 ^ 64) < e ∧ e < 2 ^ 64 ∧ Least t p o e ∧ Q (.bl true) H
theorem ok_law_least (T : Txt K mg) : FnOk P w K mg base (L2.CX P w) 2 T.f_law_least T.d_law_least ["_law_told", "_law_pages", "_law_own", "_law_each"] sp_law_least := by
  refine T.F_law_least.ok sc_law_least (fun vs H Q E h => ?_) (fun cdv A outer s H vs Q E hr h => ?_)
  · obtain ⟨t, p, o, e, rfl, _⟩ := h
    rfl
  · obtain ⟨t, p, o, e, rfl, e1, e2, ⟨l1, l2, l3⟩, q⟩ := h
    refine ⟨_, PSs.nox (pss_cons (ps_if (PW.pt (pw_or (pt_not (pt_val (pe_call (ok_law_int T) (hr.mono (by decide)) (by rfl) T.g_law_int T.k_law_int T.b_law_int .nil passL (pa_cons (pv 0) pa_nil)))) (pw_or (pt_cmpR op_lt (pv 0) pe_int (nomark _)) (pw_or1 (pt_cmpR op_lt (pe_op op_add (pv 2) (pe_op op_mul (pv 0) (pv 3))) (pv 1) (nomark _))))))
 (pss_one (ps_ret pe_bl))
 pss_nil)
 (pss_one (ps_ret (pe_or (pe_cmpR op_eq (pv 0) pe_int (nomark _)) (pe_one (pe_cmpR op_lt (pe_op op_add (pv 2) (pe_op op_mul (pe_op op_sub (pv 0) pe_int) (pv 3))) (pv 1) (nomark _))))))), ?_⟩
    walk_at "go"
    refine ⟨t, rfl, ?_⟩
    walk_at "go"
    refine k_iteD (fun h1 => absurd h1 (by omega)) (fun h1 => ?_)
    walk_at "go"
    refine k_iteD (fun h2 => absurd h2 (by omega)) (fun h2 => ?_)
    walk_at "go"
    refine k_iteB (fun h3 => ?_) (fun h3 => ?_)
    · walk_at "go"
      exact q
    · walk_at "go"
      have h4 : o + (t - 1) * e < p := by
        rcases l3 with l3 | l3
        · subst l3
          exact absurd h3 (by decide)
        · exact l3
      rw [decide_eq_true h4]
      exact q
theorem k_least {t p o e : Int} {H : Hp} {Q : VK} {E : XK} (e1 : -(2 ^ 64) < e) (e2 : e < 2 ^ 64) (l : Least t p o e) (h : Q (.bl true) H) : sp_law_least [.int t, .int p, .int o, .int e] H Q E := ⟨t, p, o, e, rfl, e1, e2, l, h⟩
theorem worst_least (p n : Int) {z : Int} (h : 0 < z) : Least (worstZ p n z) p n z := by
  unfold worstZ
  split
  · rename_i h1
    exact ⟨by decide, by omega, .inl rfl⟩
  · rename_i h1
    have a1 := Int.ediv_mul_le (p - n + z - 1) (b := z) (by omega)
    have a2 := Int.lt_ediv_add_one_mul_self (p - n + z - 1) h
    have a3 : 0 ≤ (p - n + z - 1) / z := Int.ediv_nonneg (by omega) (by omega)
    generalize (p - n + z - 1) / z = t at a1 a2 a3
    rw [Int.add_mul, Int.one_mul] at a2
    refine ⟨a3, by omega, .inr ?_⟩
    rw [Int.sub_mul, Int.one_mul]
    omega
theorem ok_law (T : Txt K mg) : FnOk P w K mg base (L2.CX P w) 4 T.f_law T.d_law ["_law_script"] (sp_law K) := by
  refine T.F_law.ok sc_law (fun vs H Q E h => ?_) (fun cdv A outer s H vs Q E hr h => ?_)
  · obtain ⟨a, ns, rfl, _⟩ := h
    rfl
  · obtain ⟨a, ns, rfl, hS, hl, q⟩ := h
    refine ⟨_, PSs.nox (pss_cons (ps_set (i := 1) sc_law.nd rfl (Or.inl rfl) (pe_call (ok_law_bag T) (hr.mono (by decide)) (by rfl) T.g_law_bag T.k_law_bag T.b_law_bag .nil passL (pa_cons (pv 0) pa_nil)))
 (pss_cons (ps_set (i := 2) sc_law.nd rfl (Or.inl rfl) (pe_ix ix_list (pe_lst (pa_cons pe_int (pa_cons pe_int (pa_cons (pe_op op_pow pe_int pe_int) (pa_cons pe_int pa_nil))))) (pe_call (ok_law_pull T) (hr.mono (by decide)) (by rfl) T.g_law_pull T.k_law_pull T.b_law_pull .nil passL (pa_cons (pv 1) (pa_cons pe_int pa_nil))) (fun _ _ => rfl)))
 (pss_cons (ps_set (i := 3) sc_law.nd rfl (Or.inl rfl) (pe_call (ok_law_pull T) (hr.mono (by decide)) (by rfl) T.g_law_pull T.k_law_pull T.b_law_pull .nil passL (pa_cons (pv 1) (pa_cons (pv 2) pa_nil))))
 (pss_cons (ps_set (i := 4) sc_law.nd rfl (Or.inl rfl) (pe_call (ok_law_pull T) (hr.mono (by decide)) (by rfl) T.g_law_pull T.k_law_pull T.b_law_pull .nil passL (pa_cons (pv 1) (pa_cons (pe_ix ix_list (pe_lst (pa_cons pe_int (pa_cons pe_int (pa_cons (pe_op op_pow pe_int pe_int) pa_nil)))) (pe_call (ok_law_pull T) (hr.mono (by decide)) (by rfl) T.g_law_pull T.k_law_pull T.b_law_pull .nil passL (pa_cons (pv 1) (pa_cons pe_int pa_nil))) (fun _ _ => rfl)) pa_nil))))
 (pss_cons (ps_set (i := 5) sc_law.nd rfl (Or.inl rfl) (pe_op op_add pe_int (pe_call (ok_law_pull T) (hr.mono (by decide)) (by rfl) T.g_law_pull T.k_law_pull T.b_law_pull .nil passL (pa_cons (pv 1) (pa_cons (pe_ix ix_list (pe_lst (pa_cons pe_int (pa_cons pe_int (pa_cons (pe_op op_pow pe_int pe_int) pa_nil)))) (pe_call (ok_law_pull T) (hr.mono (by decide)) (by rfl) T.g_law_pull T.k_law_pull T.b_law_pull .nil passL (pa_cons (pv 1) (pa_cons pe_int pa_nil))) (fun _ _ => rfl)) pa_nil)))))
 (pss_cons (ps_if (PW.pt (pw_or (pt_not (pt_val (pe_call (ok_law_least T) (hr.mono (by decide)) (by rfl) T.g_law_least T.k_law_least T.b_law_least .nil passL (pa_cons (pe_call (ok_worst T) (hr.mono (by decide)) (by rfl) T.g_worst T.k_worst T.b1_worst.choose_spec.2 T.b1_worst.choose_spec.1 passL (pa_cons (pv 3) pa_nil)) (pa_cons (pv 3) (pa_cons pe_int (pa_cons pe_int pa_nil))))))) (pw_or (pt_cmpR op_ne (pe_gl (by rfl) T.c_NODE) pe_int (nomark _)) (pw_or1 (pt_cmpR op_ne (pe_gl (by rfl) T.c_SHEET) pe_int (nomark _))))))
 (pss_one (ps_ret pe_bl))
 pss_nil)
 (pss_cons (ps_if (pt_not (pt_val (pe_call (ok_law_least T) (hr.mono (by decide)) (by rfl) T.g_law_least T.k_law_least T.b_law_least .nil passL (pa_cons (pe_callN (ok_worst T) (hr.mono (by decide)) (by rfl) T.g_worst T.k_worst T.kb_worst_1_sheet_node.choose_spec passL (pa_cons (pv 3) pa_nil) (pk_cons (pv 5) (pk_cons (pv 4) pk_nil))) (pa_cons (pv 3) (pa_cons (pv 4) (pa_cons (pv 5) pa_nil)))))))
 (pss_one (ps_ret pe_bl))
 pss_nil)
 (pss_cons (ps_if (pt_not (pt_val (pe_call (ok_law_least T) (hr.mono (by decide)) (by rfl) T.g_law_least T.k_law_least T.b_law_least .nil passL (pa_cons (pe_callN (ok_worst T) (hr.mono (by decide)) (by rfl) T.g_worst T.k_worst T.kb_worst_1_node.choose_spec passL (pa_cons (pv 3) pa_nil) (pk_cons (pv 4) pk_nil)) (pa_cons (pv 3) (pa_cons (pv 4) (pa_cons pe_int pa_nil)))))))
 (pss_one (ps_ret pe_bl))
 pss_nil)
 (pss_cons (ps_if (pt_not (pt_val (pe_call (ok_law_least T) (hr.mono (by decide)) (by rfl) T.g_law_least T.k_law_least T.b_law_least .nil passL (pa_cons (pe_callN (ok_worst T) (hr.mono (by decide)) (by rfl) T.g_worst T.k_worst T.kb_worst_1_sheet.choose_spec passL (pa_cons (pv 3) pa_nil) (pk_cons (pv 5) pk_nil)) (pa_cons (pv 3) (pa_cons pe_int (pa_cons (pv 5) pa_nil)))))))
 (pss_one (ps_ret pe_bl))
 pss_nil)
 (pss_cons (ps_for PassesOwn.never rfl (pi_list (pe_lst (pa_cons (pv 4) (pa_cons (pe_op op_add (pv 4) pe_int) (pa_cons (pe_op op_add (pv 4) (pv 5)) (pa_cons (pe_op op_add (pe_op op_add (pv 4) (pv 5)) pe_int) (pa_cons (pe_op op_add (pv 4) (pe_op op_mul pe_int (pv 5))) pa_nil))))))) (pg_name (i := 6) sc_law.nd rfl (Or.inl rfl))
 (pss_one (ps_if (pt_not (pt_val (pe_call (ok_law_least T) (hr.mono (by decide)) (by rfl) T.g_law_least T.k_law_least T.b_law_least .nil passL (pa_cons (pe_callN (ok_worst T) (hr.mono (by decide)) (by rfl) T.g_worst T.k_worst T.kb_worst_1_node_sheet.choose_spec passL (pa_cons (pv 6) pa_nil) (pk_cons (pv 4) (pk_cons (pv 5) pk_nil))) (pa_cons (pv 6) (pa_cons (pv 4) (pa_cons (pv 5) pa_nil)))))))
 (pss_one (ps_ret pe_bl))
 pss_nil)))
 (pss_cons (ps_for PassesOwn.never rfl (pi_list (pe_lst (pa_cons pe_int (pa_cons pe_int (pa_cons pe_int (pa_cons pe_int (pa_cons pe_int (pa_cons pe_int (pa_cons pe_int (pa_cons pe_int (pa_cons pe_int (pa_cons pe_int (pa_cons pe_int pa_nil))))))))))))) (pg_name (i := 6) sc_law.nd rfl (Or.inl rfl))
 (pss_one (ps_if (PW.pt (pw_or (pt_cmpR op_ne (pe_call (ok_charge T) (hr.mono (by decide)) (by rfl) T.g_charge T.k_charge T.b_charge .nil passL (pa_cons (pv 6) pa_nil)) (pe_op op_add (pv 6) (pe_call (ok_worst T) (hr.mono (by decide)) (by rfl) T.g_worst T.k_worst T.b1_worst.choose_spec.2 T.b1_worst.choose_spec.1 passL (pa_cons (pv 6) pa_nil))) (nomark _)) (pw_or (pt_cmpR op_ne (pe_call (ok_worst T) (hr.mono (by decide)) (by rfl) T.g_worst T.k_worst T.b1_worst.choose_spec.2 T.b1_worst.choose_spec.1 passL (pa_cons (pv 6) pa_nil)) (pe_call (ok_law_worst T) (hr.mono (by decide)) (by rfl) T.g_law_worst T.k_law_worst T.b_law_worst .nil passL (pa_cons (pv 6) pa_nil)) (nomark _)) (pw_or1 (pt_not (pt_val (pe_call (ok_law_int T) (hr.mono (by decide)) (by rfl) T.g_law_int T.k_law_int T.b_law_int .nil passL (pa_cons (pe_call (ok_charge T) (hr.mono (by decide)) (by rfl) T.g_charge T.k_charge T.b_charge .nil passL (pa_cons (pv 6) pa_nil)) pa_nil))))))))
 (pss_one (ps_ret pe_bl))
 pss_nil)))
 (pss_one (ps_ret (pe_cmpR op_eq (pe_call (ok_charge T) (hr.mono (by decide)) (by rfl) T.g_charge T.k_charge T.b_charge .nil passL (pa_cons (pv 3) pa_nil)) (pe_op op_add (pv 3) (pe_call (ok_worst T) (hr.mono (by decide)) (by rfl) T.g_worst T.k_worst T.b1_worst.choose_spec.2 T.b1_worst.choose_spec.1 passL (pa_cons (pv 3) pa_nil))) (nomark _))))))))))))))), ?_⟩
    walk_at "go"
    refine ⟨a, ns, rfl, hS, hl, fun H1 b l s1 _ _ hB1 => ?_⟩
    walk_at "go"
    refine k_menu 80 1000000000000000000000000000000 rfl hB1 rfl (by decide) (by decide) (menu_in (by decide)) fun H2 top t0 t1 b2 hB2 => ?_
    walk_at "go"
    refine k_pull hB2 (by omega) (by omega) fun H3 pg p0 p1 b3 hB3 => ?_
    walk_at "go"
    refine k_menu 5 1000000000 rfl hB3 rfl (by decide) (by decide) (menu_in (by decide)) fun H4 to t0 t1 b4 hB4 => ?_
    walk_at "go"
    refine k_pull hB4 (by omega) (by omega) fun H5 own o0 o1 b5 hB5 => ?_
    walk_at "go"
    refine k_menu 1 1000000000 rfl hB5 rfl (by decide) (by decide) (menu_in (by decide)) fun H6 te t0 t1 b6 hB6 => ?_
    walk_at "go"
    refine k_pull hB6 (by omega) (by omega) fun H7 each e0 e1 b7 hB7 => ?_
    walk_at "go"
    have hz : ∀ H, Q (.bl true) H := q
    refine k_worst (by decide) (by decide) ?_
    walk_at "go"
    refine k_least (by decide) (by decide) (worst_least pg 3 (by decide)) ?_
    walk_at "go"
    refine k_worst (by omega) (by omega) ?_
    walk_at "go"
    refine k_least (by omega) (by omega) (worst_least pg own (by omega)) ?_
    walk_at "go"
    refine k_worst (by decide) (by decide) ?_
    walk_at "go"
    refine k_least (by decide) (by decide) (worst_least pg own (by decide)) ?_
    walk_at "go"
    refine k_worst (by omega) (by omega) ?_
    walk_at "go"
    refine k_least (by omega) (by omega) (worst_least pg 3 (by omega)) ?_
    walk_at "go"
    refine ⟨by walk_at "sz", fun p np => ?_⟩
    walk_at "go"
    refine k_inL (fun i σ H' => (∃ y, σ = [some (.ref a), some (.ref b), some (.int top), some (.int pg), some (.int own), some (.int (1 + each)), y]) ∧ H' p = some (.lst [V.int own, V.int (own + 1), V.int (own + (1 + each)), V.int (own + (1 + each) + 1), V.int (own + 2 * (1 + each))])) (SqL.of upd_same) ⟨⟨none, rfl⟩, upd_same⟩ (fun i σ H' _ h => SqL.of h.2) ?_ ?_
    · rintro i x σ H' hx ⟨⟨y, rfl⟩, hp⟩
      obtain ⟨m, rfl⟩ : ∃ m, x = V.int m := by
        have hm := List.mem_of_getElem? hx
        simp only [List.mem_cons, List.not_mem_nil, or_false] at hm
        rcases hm with rfl | rfl | rfl | rfl | rfl <;> exact ⟨_, rfl⟩
      walk_at "go"
      refine k_worst (by omega) (by omega) ?_
      walk_at "go"
      refine k_least (by omega) (by omega) (worst_least m own (by omega)) ?_
      walk_at "go"
      exact ⟨⟨_, rfl⟩, hp⟩
    · rintro σ H' ⟨⟨y, rfl⟩, hp⟩
      walk_at "go"
      refine ⟨by walk_at "sz", fun p2 np => ?_⟩
      walk_at "go"
      refine k_inL (fun i σ H' => (∃ y, σ = [some (.ref a), some (.ref b), some (.int top), some (.int pg), some (.int own), some (.int (1 + each)), y]) ∧ H' p2 = some (.lst [V.int 0, V.int 1, V.int 3, V.int 4, V.int 9, V.int 10, V.int 15, V.int 16, V.int 57, V.int 58, V.int 60])) (SqL.of upd_same) ⟨⟨_, rfl⟩, upd_same⟩ (fun i σ H' _ h => SqL.of h.2) ?_ ?_
      · rintro i x σ H' hx ⟨⟨y, rfl⟩, hp⟩
        obtain ⟨m, rfl, hm⟩ : ∃ m, x = V.int m ∧ worstZ m 3 6 = (if m ≤ 3 then 0 else (m + 2) / 6) := by
          have hm := List.mem_of_getElem? hx
          simp only [List.mem_cons, List.not_mem_nil, or_false] at hm
          rcases hm with rfl | rfl | rfl | rfl | rfl | rfl | rfl | rfl | rfl | rfl | rfl <;> exact ⟨_, rfl, by decide⟩
        walk_at "go"
        refine ⟨m, rfl, ?_⟩
        walk_at "go"
        refine k_worst (by decide) (by decide) ?_
        walk_at "go"
        refine k_worst (by decide) (by decide) ?_
        walk_at "go"
        refine ⟨m, rfl, ?_⟩
        rw [hm]
        walk_at "go"
        refine ⟨m, rfl, ?_⟩
        walk_at "go"
        refine ⟨_, rfl, ?_⟩
        walk_at "go"
        exact ⟨⟨_, rfl⟩, hp⟩
      · rintro σ H' ⟨⟨y, rfl⟩, hp⟩
        walk_at "go"
        refine ⟨pg, rfl, ?_⟩
        walk_at "go"
        refine k_worst (by decide) (by decide) ?_
        walk_at "go"
        rw [decide_eq_true rfl]
        exact q _
end
theorem all_mk {l : PySem.W.OpenLaw} {w : World} {K : PySem.W.Frag} {h : Heap} {mg : Str → Option Value} {fa : Addr} (X : K.In h) (G : h.Ns mainGlobals mg) (hfa : mg "law" = some (.ref fa))
  {f1 : Addr} {od1 an1 : Option Addr} {sl1 : Array (Option Value)} {oc1 dc1 pm1 cd1 ct1 : Value}
  {kD1 : Addr}
  {kt1_0 : Tok}
  {kt1_1 : Tok}
  {f2 : Addr} {od2 an2 : Option Addr} {sl2 : Array (Option Value)} {oc2 kV2 dc2 pm2 cd2 ct2 : Value}
  {f3 : Addr} {od3 an3 : Option Addr} {sl3 : Array (Option Value)} {oc3 kV3 dc3 pm3 cd3 ct3 : Value}
  {f4 : Addr} {od4 an4 : Option Addr} {sl4 : Array (Option Value)} {oc4 kV4 dc4 pm4 cd4 ct4 : Value}
  {f5 : Addr} {od5 an5 : Option Addr} {sl5 : Array (Option Value)} {oc5 kV5 dc5 pm5 cd5 ct5 : Value}
  {f6 : Addr} {od6 an6 : Option Addr} {sl6 : Array (Option Value)} {oc6 kV6 dc6 pm6 cd6 ct6 : Value}
  {f7 : Addr} {od7 an7 : Option Addr} {sl7 : Array (Option Value)} {oc7 kV7 dc7 pm7 cd7 ct7 : Value}
  {f8 : Addr} {od8 an8 : Option Addr} {sl8 : Array (Option Value)} {oc8 kV8 dc8 pm8 cd8 ct8 : Value}
  {ct_NODE : Tok}
  {ct_SHEET : Tok}
  (kw1_0 : PySem.W.nsIn K kD1 "node" = some (some (.int 3 kt1_0)))
  (kw1_1 : PySem.W.nsIn K kD1 "sheet" = some (some (.int 6 kt1_1)))
  (a1 : PySem.W.nsIn K mainGlobals "worst" = some (some (.ref f1)))
  (l1 : K.lookup f1 = some ⟨oc1, od1, .func (PySem.W.fnOf "worst" "worst" (defArgs s_worst) (defBody s_worst) (defScope s_worst) .none (.ref kD1) dc1 pm1 an1 cd1 ct1), sl1⟩)
  (c1 : PySem.W.codeIn K cd1 "worst" = true)
  (k1 : PySem.W.keepIn K (.ref f1) = true)
  (a2 : PySem.W.nsIn K mainGlobals "charge" = some (some (.ref f2)))
  (l2 : K.lookup f2 = some ⟨oc2, od2, .func (PySem.W.fnOf "charge" "charge" (defArgs s_charge) (defBody s_charge) (defScope s_charge) .none kV2 dc2 pm2 an2 cd2 ct2), sl2⟩)
  (c2 : PySem.W.codeIn K cd2 "charge" = true)
  (k2 : PySem.W.keepIn K (.ref f2) = true)
  (a3 : PySem.W.nsIn K mainGlobals "_law_bag" = some (some (.ref f3)))
  (l3 : K.lookup f3 = some ⟨oc3, od3, .func (PySem.W.fnOf "_law_bag" "_law_bag" (defArgs s_law_bag) (defBody s_law_bag) (defScope s_law_bag) .none kV3 dc3 pm3 an3 cd3 ct3), sl3⟩)
  (c3 : PySem.W.codeIn K cd3 "_law_bag" = true)
  (k3 : PySem.W.keepIn K (.ref f3) = true)
  (a4 : PySem.W.nsIn K mainGlobals "_law_pull" = some (some (.ref f4)))
  (l4 : K.lookup f4 = some ⟨oc4, od4, .func (PySem.W.fnOf "_law_pull" "_law_pull" (defArgs s_law_pull) (defBody s_law_pull) (defScope s_law_pull) .none kV4 dc4 pm4 an4 cd4 ct4), sl4⟩)
  (c4 : PySem.W.codeIn K cd4 "_law_pull" = true)
  (k4 : PySem.W.keepIn K (.ref f4) = true)
  (a5 : PySem.W.nsIn K mainGlobals "_law_int" = some (some (.ref f5)))
  (l5 : K.lookup f5 = some ⟨oc5, od5, .func (PySem.W.fnOf "_law_int" "_law_int" (defArgs s_law_int) (defBody s_law_int) (defScope s_law_int) .none kV5 dc5 pm5 an5 cd5 ct5), sl5⟩)
  (c5 : PySem.W.codeIn K cd5 "_law_int" = true)
  (k5 : PySem.W.keepIn K (.ref f5) = true)
  (a6 : PySem.W.nsIn K mainGlobals "_law_worst" = some (some (.ref f6)))
  (l6 : K.lookup f6 = some ⟨oc6, od6, .func (PySem.W.fnOf "_law_worst" "_law_worst" (defArgs s_law_worst) (defBody s_law_worst) (defScope s_law_worst) .none kV6 dc6 pm6 an6 cd6 ct6), sl6⟩)
  (c6 : PySem.W.codeIn K cd6 "_law_worst" = true)
  (k6 : PySem.W.keepIn K (.ref f6) = true)
  (a7 : PySem.W.nsIn K mainGlobals "_law_least" = some (some (.ref f7)))
  (l7 : K.lookup f7 = some ⟨oc7, od7, .func (PySem.W.fnOf "_law_least" "_law_least" (defArgs s_law_least) (defBody s_law_least) (defScope s_law_least) .none kV7 dc7 pm7 an7 cd7 ct7), sl7⟩)
  (c7 : PySem.W.codeIn K cd7 "_law_least" = true)
  (k7 : PySem.W.keepIn K (.ref f7) = true)
  (a8 : PySem.W.nsIn K mainGlobals "law" = some (some (.ref f8)))
  (l8 : K.lookup f8 = some ⟨oc8, od8, .func (PySem.W.fnOf "law" "law" (defArgs s_law) (defBody s_law) (defScope s_law) .none kV8 dc8 pm8 an8 cd8 ct8), sl8⟩)
  (c8 : PySem.W.codeIn K cd8 "law" = true)
  (k8 : PySem.W.keepIn K (.ref f8) = true)
  (aK_NODE : PySem.W.nsIn K mainGlobals "NODE" = some (some (.int 3 ct_NODE)))
  (aK_SHEET : PySem.W.nsIn K mainGlobals "SHEET" = some (some (.int 6 ct_SHEET)))
  (z_bool : PySem.W.nsIn K mainGlobals "bool" = some none)
  (z_int : PySem.W.nsIn K mainGlobals "int" = some none)
  (z_isinstance : PySem.W.nsIn K mainGlobals "isinstance" = some none)
  (z_len : PySem.W.nsIn K mainGlobals "len" = some none)
  (z_list : PySem.W.nsIn K mainGlobals "list" = some none) :
  ∃ fd : FuncData, (∀ (s : Shared) (v : Value), BindsTo s fd ⟨[v], []⟩ [("_law_script", v)]) ∧ ∀ base : Heap, K.In base → base.Ns mainGlobals mg → FnOk l.prog w K mg base (L2.CX l.prog w) 4 fa fd ["_law_script"] (sp_law K) := by
  have e : f8 = fa := (Value.ref.inj (Option.some.inj (hfa.symm.trans (PySem.W.mg_of X G a8)))).symm
  subst e
  let T : Txt K mg := {
  g_worst := PySem.W.mg_of X G a1,
  f_worst := f1,
  d_worst := PySem.W.fnOf "worst" "worst" (defArgs s_worst) (defBody s_worst) (defScope s_worst) .none (.ref kD1) dc1 pm1 an1 cd1 ct1,
  F_worst := ⟨⟨oc1, od1, .none, (.ref kD1), dc1, pm1, an1, cd1, ct1, sl1, rfl, l1, c1, .inl ⟨rfl, rfl⟩, .inr ⟨kD1, rfl, List.forall_mem_cons.mpr ⟨⟨_, kw1_0, ⟨_, rfl⟩⟩, List.forall_mem_cons.mpr ⟨⟨_, kw1_1, ⟨_, rfl⟩⟩, fun q hq => nomatch hq⟩⟩⟩⟩, k1⟩,
  g_charge := PySem.W.mg_of X G a2,
  f_charge := f2,
  d_charge := PySem.W.fnOf "charge" "charge" (defArgs s_charge) (defBody s_charge) (defScope s_charge) .none kV2 dc2 pm2 an2 cd2 ct2,
  F_charge := ⟨⟨oc2, od2, .none, kV2, dc2, pm2, an2, cd2, ct2, sl2, rfl, l2, c2, .inl ⟨rfl, rfl⟩, .inl rfl⟩, k2⟩,
  g_law_bag := PySem.W.mg_of X G a3,
  f_law_bag := f3,
  d_law_bag := PySem.W.fnOf "_law_bag" "_law_bag" (defArgs s_law_bag) (defBody s_law_bag) (defScope s_law_bag) .none kV3 dc3 pm3 an3 cd3 ct3,
  F_law_bag := ⟨⟨oc3, od3, .none, kV3, dc3, pm3, an3, cd3, ct3, sl3, rfl, l3, c3, .inl ⟨rfl, rfl⟩, .inl rfl⟩, k3⟩,
  g_law_pull := PySem.W.mg_of X G a4,
  f_law_pull := f4,
  d_law_pull := PySem.W.fnOf "_law_pull" "_law_pull" (defArgs s_law_pull) (defBody s_law_pull) (defScope s_law_pull) .none kV4 dc4 pm4 an4 cd4 ct4,
  F_law_pull := ⟨⟨oc4, od4, .none, kV4, dc4, pm4, an4, cd4, ct4, sl4, rfl, l4, c4, .inl ⟨rfl, rfl⟩, .inl rfl⟩, k4⟩,
  g_law_int := PySem.W.mg_of X G a5,
  f_law_int := f5,
  d_law_int := PySem.W.fnOf "_law_int" "_law_int" (defArgs s_law_int) (defBody s_law_int) (defScope s_law_int) .none kV5 dc5 pm5 an5 cd5 ct5,
  F_law_int := ⟨⟨oc5, od5, .none, kV5, dc5, pm5, an5, cd5, ct5, sl5, rfl, l5, c5, .inl ⟨rfl, rfl⟩, .inl rfl⟩, k5⟩,
  g_law_worst := PySem.W.mg_of X G a6,
  f_law_worst := f6,
  d_law_worst := PySem.W.fnOf "_law_worst" "_law_worst" (defArgs s_law_worst) (defBody s_law_worst) (defScope s_law_worst) .none kV6 dc6 pm6 an6 cd6 ct6,
  F_law_worst := ⟨⟨oc6, od6, .none, kV6, dc6, pm6, an6, cd6, ct6, sl6, rfl, l6, c6, .inl ⟨rfl, rfl⟩, .inl rfl⟩, k6⟩,
  g_law_least := PySem.W.mg_of X G a7,
  f_law_least := f7,
  d_law_least := PySem.W.fnOf "_law_least" "_law_least" (defArgs s_law_least) (defBody s_law_least) (defScope s_law_least) .none kV7 dc7 pm7 an7 cd7 ct7,
  F_law_least := ⟨⟨oc7, od7, .none, kV7, dc7, pm7, an7, cd7, ct7, sl7, rfl, l7, c7, .inl ⟨rfl, rfl⟩, .inl rfl⟩, k7⟩,
  g_law := PySem.W.mg_of X G a8,
  f_law := f8,
  d_law := PySem.W.fnOf "law" "law" (defArgs s_law) (defBody s_law) (defScope s_law) .none kV8 dc8 pm8 an8 cd8 ct8,
  F_law := ⟨⟨oc8, od8, .none, kV8, dc8, pm8, an8, cd8, ct8, sl8, rfl, l8, c8, .inl ⟨rfl, rfl⟩, .inl rfl⟩, k8⟩,
  c_NODE := ⟨_, PySem.W.mg_of X G aK_NODE, ⟨_, rfl⟩⟩,
  c_SHEET := ⟨_, PySem.W.mg_of X G aK_SHEET, ⟨_, rfl⟩⟩,
  z_bool := PySem.W.mg_none_of X G z_bool,
  z_int := PySem.W.mg_none_of X G z_int,
  z_isinstance := PySem.W.mg_none_of X G z_isinstance,
  z_len := PySem.W.mg_none_of X G z_len,
  z_list := PySem.W.mg_none_of X G z_list }
  exact ⟨T.d_law, fun s v => T.F_law.bindsA (ps := ["_law_script"]) (fun _ _ _ _ _ _ us hl => match us, hl with | [_], _ => rfl) s [v] rfl, fun base _ _ => ok_law T⟩
end K10
open PySem PySem.W PyProof.Rows
set_option maxRecDepth 100000 in
set_option maxHeartbeats 0 in
theorem PySem.Challenge.cw_latestow_k10_sheets_at_worst_holds : PySem.Challenge.rw_latestow_k10_sheets_at_worst.Holds := by
  w_on; o_law; k_head; (case hw => w_witness2)
  k_fill
  refine L2.walk_of (l := PySem.Challenge.rw_latestow_k10_sheets_at_worst) (n := 63) (k := 4) (x := "_law_script") (CX := fun w => L2.CX PySem.Challenge.rw_latestow_k10_sheets_at_worst.prog w) (sp := fun w => K10.sp_law _) rfl (by decide) rfl ⟨rfl, by decide, by decide⟩ (fun w h Y => PySem.W.kIn_of Y) ?F (fun _ _ a ns hl _ hS => ⟨a, ns, rfl, hS, hl, fun _ => rfl⟩) (fun w _ _ _ _ h => Lt.cx_no h)
  case F =>
    intro w mg fa h KX G hmg
    refine' K10.all_mk KX G hmg ?kw1_0 ?kw1_1 ?a1 ?l1 ?c1 ?k1 ?a2 ?l2 ?c2 ?k2 ?a3 ?l3 ?c3 ?k3 ?a4 ?l4 ?c4 ?k4 ?a5 ?l5 ?c5 ?k5 ?a6 ?l6 ?c6 ?k6 ?a7 ?l7 ?c7 ?k7 ?a8 ?l8 ?c8 ?k8 ?aK_NODE ?aK_SHEET ?z_bool ?z_int ?z_isinstance ?z_len ?z_list
    (case a1 => k_is)
    (case l1 => k_is)
    (case a2 => k_is)
    (case l2 => k_is)
    (case a3 => k_is)
    (case l3 => k_is)
    (case a4 => k_is)
    (case l4 => k_is)
    (case a5 => k_is)
    (case l5 => k_is)
    (case a6 => k_is)
    (case l6 => k_is)
    (case a7 => k_is)
    (case l7 => k_is)
    (case a8 => k_is)
    (case l8 => k_is)
    (case kw1_0 => k_is)
    (case kw1_1 => k_is)
    (case c1 => k_is)
    (case k1 => k_is)
    (case c2 => k_is)
    (case k2 => k_is)
    (case c3 => k_is)
    (case k3 => k_is)
    (case c4 => k_is)
    (case k4 => k_is)
    (case c5 => k_is)
    (case k5 => k_is)
    (case c6 => k_is)
    (case k6 => k_is)
    (case c7 => k_is)
    (case k7 => k_is)
    (case c8 => k_is)
    (case k8 => k_is)
    (case aK_NODE => k_is)
    (case aK_SHEET => k_is)
    (case z_bool => k_is)
    (case z_int => k_is)
    (case z_isinstance => k_is)
    (case z_len => k_is)
    (case z_list => k_is)
#print axioms PySem.Challenge.cw_latestow_k10_sheets_at_worst_holds
