import PyProof.Rows.All
import Wide.All
import OpenK.AllK
import Wide.FinOn
import HandS.ForMost
import HandS.Exc
import HandS.WordsExc
import HandS.Wide
import HandS.IsInst
import HandS.Defaults
import HandS.MakeKwOnly
import HandS.Flow
import HandS.SortInts
import HandS.Conv
import HandS.SetFor
import HandS.Strs
import PySem.Challenge.RW_latestow_k01_stretches
set_option Elab.async false
set_option linter.all false
set_option maxRecDepth 100000
set_option maxHeartbeats 4000000
/-! own rules over the hand layer -/
namespace Lt
open PySem PySem.Spec PyProof.Rows L2

theorem cx_no {P : Program} {w : World} {H : Hp} {s : Shared} {e : Value} {s' : Shared} (h : L2.CX P w [] H s (fun _ _ _ => False) e s') : False := by
  obtain ⟨_, _, _, _, _, _, _, _, _, _, _, _, z⟩ := h
  exact z

section
variable {X : Cx}
/-- a constant of the module -/
theorem pe_gl {x : Str} {v : V} {pos : Pos} (hg : Gl X x) (hm : ∃ u, X.mg x = some u ∧ RelV v u) (hd : (x == ("__debug__" : Str)) = false := by decide) : PE X (.Name x pos) (tC v) := by
  obtain ⟨u, h1, h2⟩ := hm
  exact pe_glob hg h1 h2 hd
/-- xs[k], 0 ≤ k, for xs[k] op= e -/
def rGetL (K : PySem.W.Frag) : V → V → Hp → VK → Prop := fun o i H Q => ∃ (p : Addr) (xs : List V) (k : Int) (v : V), o = .ref p ∧ i = .int k ∧ SqL K H p xs ∧ 0 ≤ k ∧ xs[k.toNat]? = some v ∧ Q v H
theorem gt_list : PGet X (rGetL X.K) := by
  intro pins s σ H o i ov iv Q I ro ri hw
  obtain ⟨p, xs, k, v, rfl, rfl, hx, h0, hv, hq⟩ := hw
  cases ro
  obtain ⟨tk, rfl⟩ := ri
  obtain ⟨its, rv, pl, hz⟩ := I.list hx
  obtain ⟨u, hu, ru⟩ := rv.get hv
  have hlt : k.toNat < xs.length := (List.getElem?_eq_some_iff.mp hv).1
  have hs : (sizeLine : Nat) < 2 ^ 63 := line63
  exact PySem.wpAny_getItem_list pl.isList h0 (by omega) (by simpa using hu) ⟨v, H, I, ru, hq⟩
theorem ip_of {op : Operator} {t : TIp} (h : OpR X (inplaceOp op) t) : PIp X op t := fun pins s σ H x y v u Q I rx ry q => h pins s σ H x y v u Q I rx ry q
theorem ps_augL {o i e : Expr} {to ti te : TE} {tip : TIp} {op : Operator} {tpos pos : Pos} (ho : PE X o to) (hi : PE X i ti) (he : PE X e te) (hp : OpR X (inplaceOp op) tip)
    (ha : ∀ ov iv new, augStore i ov iv new = (do holding [new, ov, iv] (setItem ov iv new); release [new, ov, iv] []; pure .next) := by intros; rfl) : PS X (.AugAssign (.Subscript o i tpos) op e pos) (tAugS to ti te (rGetL X.K) tip rSetL) :=
  ps_augS ho hi gt_list he (ip_of hp) set_list ha
/-- a statement, then a word of the state, then what follows from the word -/
def tMid (t u : TS) : TS := fun D σ H => ∃ M : L2.St → Hp → Prop, t { D with nx := M } σ H ∧ ∀ σ1 H1, M σ1 H1 → u D σ1 H1
theorem pss_mid {st : Stmt} {rest : List Stmt} {t u : TS} (hs : PS X st t) (hr : PSs X rest u) : PSs X (st :: rest) (tMid t u) := by
  refine ⟨fun pins s σ H D I hw => ?_⟩
  obtain ⟨M, h1, h2⟩ := hw
  exact wpAny_execs_cons (thn (hs.run pins s σ H { D with nx := M } I h1) fun f s1 hf => by
    cases f
    case next =>
      obtain ⟨σ1, H1, I1, m⟩ := hf
      exact hr.run pins s1 σ1 H1 D I1 (h2 σ1 H1 m)
    all_goals exact hf)
end

/-! ### heaps: all but b as it was -/
def SameB (b : Addr) (H H' : Hp) : Prop := ∀ a o, a ≠ b → H a = some o → H' a = some o
theorem SameB.refl (b : Addr) (H : Hp) : SameB b H H := fun _ _ _ h => h
theorem SameB.trans {b : Addr} {H H1 H2 : Hp} (x : SameB b H H1) (y : SameB b H1 H2) : SameB b H H2 := fun a o n h => y a o n (x a o n h)
theorem Same.toB {b : Addr} {H H' : Hp} (x : Same H H') : SameB b H H' := fun a o _ h => x a o h
theorem SameB.upd {b : Addr} {H H' : Hp} {o : HO} (x : SameB b H H') : SameB b H (upd H' b o) := fun a u n h => by rw [upd_ne n]; exact x a u n h
theorem SameB.new {b p : Addr} {H H' : Hp} {o : HO} (x : SameB b H H') (hp : H' p = none) : SameB b H (L2.upd H' p o) := fun a u n h => by
  have h1 := x a u n h
  rw [upd_ne (ne_of_none h1 hp)]
  exact h1
theorem same_new {H : Hp} {p : Addr} {o : HO} (h : H p = none) : Same H (upd H p o) := fun b x e => by
  rw [upd_ne (ne_of_none e h)]
  exact e
theorem Same.new {p : Addr} {H H' : Hp} {o : HO} (x : Same H H') (hp : H' p = none) : Same H (L2.upd H' p o) := fun a u h => by
  have h1 := x a u h
  rw [upd_ne (ne_of_none h1 hp)]
  exact h1
/-- an object that H does not know may be written -/
theorem Same.mut {p : Addr} {H H' : Hp} {o : HO} (x : Same H H') (hp : H p = none) : Same H (L2.upd H' p o) := fun a u h => by
  rw [upd_ne (ne_of_none h hp)]
  exact x a u h
theorem SameB.seq {K : PySem.W.Frag} {b a : Addr} {H H' : Hp} {xs : List V} (x : SameB b H H') (n : a ≠ b) (h : SqL K H a xs) : SqL K H' a xs := by
  rcases h with (h | ⟨o, h⟩) | h
  · exact .inl (.inl (x _ _ n h))
  · exact .inl (.inr ⟨o, x _ _ n h⟩)
  · exact .inr h

/-! ### the bag of draws -/
/-- the bag at b over the numbers at l -/
def Bag (H : Hp) (b l : Addr) (ns : List Int) : Prop := ∃ (i r z : Int), 0 ≤ i ∧ H b = some (.lst [.ref l, .int i, .int r, .int z]) ∧ H l = some (.lst (ns.map V.int)) ∧ ns.length ≤ 63
theorem Bag.ne {H : Hp} {b l : Addr} {ns : List Int} (h : Bag H b l ns) : l ≠ b := by
  obtain ⟨i, r, z, _, h1, h2, _⟩ := h
  intro e
  subst e
  rw [h1] at h2
  cases ns with
  | nil => cases h2
  | cons n ns => cases h2
theorem Bag.mk {H : Hp} {b l : Addr} {ns : List Int} {i r z : Int} (h0 : 0 ≤ i) (h1 : H b = some (.lst [.ref l, .int i, .int r, .int z])) (h2 : H l = some (.lst (ns.map V.int))) (h3 : ns.length ≤ 63) : Bag H b l ns := ⟨i, r, z, h0, h1, h2, h3⟩
theorem Bag.keep {H H' : Hp} {b l : Addr} {ns : List Int} (h : Bag H b l ns) (s : Same H H') : Bag H' b l ns := by
  obtain ⟨i, r, z, h0, h1, h2, h3⟩ := h
  exact ⟨i, r, z, h0, s _ _ h1, s _ _ h2, h3⟩
/-- another list may turn -/
theorem Bag.updL {H : Hp} {b l D : Addr} {ns : List Int} {xs ys : List V} (h : Bag H b l ns) (hD : H D = some (.lst xs)) (n : D ≠ b) (n2 : D ≠ l := by first | assumption | skip) : Bag (upd H D (.lst ys)) b l ns := by
  obtain ⟨i, r, z, h0, h1, h2, h3⟩ := h
  exact ⟨i, r, z, h0, by rw [upd_ne n.symm]; exact h1, by rw [upd_ne n2.symm]; exact h2, h3⟩
theorem Bag.fresh {H : Hp} {b l D : Addr} {ns : List Int} (h : Bag H b l ns) (nD : H D = none) : D ≠ b ∧ D ≠ l := by
  obtain ⟨i, r, z, h0, h1, h2, h3⟩ := h
  exact ⟨(ne_of_none h1 nD).symm, (ne_of_none h2 nD).symm⟩
theorem cut_none (xs : List V) (n : Nat) : cutV xs none (some (n : Int)) = xs.take n := by
  unfold cutV
  rw [HT.sIx_none, show HT.sIx xs.length xs.length (some (n : Int)) = min n xs.length from HT.sIx_nat _ _ n, List.drop_zero, Nat.sub_zero]
  by_cases h : n ≤ xs.length
  · rw [Nat.min_eq_left h]
  · rw [Nat.min_eq_right (by omega), List.take_length, List.take_of_length_le (by omega)]
theorem sz {n : Nat} (h : n ≤ 1000) : n ≤ sizeLine := Nat.le_trans h (by decide)
theorem pull_pick {xs : List V} {v n : Int} (lo hi : Int) (h0 : 0 ≤ v) (h1 : v < n) (hn : n = (xs.length : Int)) (hP : ∀ x ∈ xs, ∃ t, x = V.int t ∧ lo ≤ t ∧ t ≤ hi) : ∃ t, atI xs v = some (.int t) ∧ lo ≤ t ∧ t ≤ hi := by
  have hl : v.toNat < xs.length := by omega
  have e : (v.toNat : Int) = v := Int.toNat_of_nonneg h0
  obtain ⟨t, et, h2⟩ := hP _ (List.getElem_mem hl)
  refine ⟨t, ?_, h2⟩
  have q := atI_nat (xs := xs) (List.getElem?_eq_getElem hl)
  rw [e, et] at q
  exact q
theorem atI_pick {xs : List V} {v : Int} (P : V → Prop) (h0 : 0 ≤ v) (h1 : v < (xs.length : Int)) (hP : ∀ x ∈ xs, P x) : ∃ x, atI xs v = some x ∧ P x := by
  have hl : v.toNat < xs.length := by omega
  have e : (v.toNat : Int) = v := Int.toNat_of_nonneg h0
  refine ⟨xs[v.toNat], ?_, hP _ (List.getElem_mem hl)⟩
  have q := atI_nat (xs := xs) (List.getElem?_eq_getElem hl)
  rw [e] at q
  exact q
end Lt
namespace Lt
open PySem PySem.Spec PyProof.Rows L2
/-! the readings, one combinator a step -/
section
variable {K : PySem.W.Frag} {D : Ends} {σ : L2.St} {H : Hp} {Q : VK} {ta tb te tx : TE} {t u : TS} {c : TT} {i j : Int} {v x y : V} {p a : Addr} {xs : List V} {E : XK}
theorem k_seq (h : t { D with nx := u D } σ H) : tSeq t u D σ H := h
theorem k_next (h : D.nx σ H) : tNext D σ H := h
theorem k_ifS (h : c σ H fun b H1 => if b = true then t D σ H1 else u D σ H1) : tIfS c t u D σ H := h
theorem k_ret (h : te σ H D.rt) : tRet te D σ H := h
theorem k_drop (h : te σ H fun _ H1 => D.nx σ H1) : tDrop te D σ H := h
theorem k_asg {g : TG} (h : te σ H fun x H1 => g x σ H1 D.nx) : tAsg te g D σ H := h
theorem k_gName {n : Nat} {Qs : L2.St → Hp → Prop} (h : Qs (σ.set n (some v)) H) : gName n v σ H Qs := h
theorem k_gSub {to ti : TE} {tt : TSet} {Qs : L2.St → Hp → Prop} (h : to σ H fun o H1 => ti σ H1 fun i H2 => tt o i v H2 fun H3 => Qs σ H3) : gSub to ti tt v σ H Qs := h
theorem k_setL {xs : List V} {k : Int} {n : Nat} {Qh : Hp → Prop} (h1 : H p = some (.lst xs)) (h2 : ixN xs.length k = some n) (h : Qh (upd H p (.lst (xs.set n v)))) : rSetL (.ref p) (.int k) v H Qh := ⟨p, xs, k, n, rfl, rfl, h1, h2, h⟩
theorem k_var {n : Nat} (h1 : σ[n]? = some (some v)) (h : Q v H) : tVar n σ H Q := ⟨v, h1, h⟩
theorem k_c (h : Q v H) : tC v σ H Q := h
theorem k_op {r : R2} (h : ta σ H fun x H1 => tb σ H1 fun y H2 => r x y H2 Q) : tOp r ta tb σ H Q := h
theorem k_un {r : V → Hp → VK → Prop} (h : ta σ H fun x H1 => r x H1 Q) : tUn r ta σ H Q := h
theorem k_I0 {g : Int → Int → V} (h : Q (g i j) H) : rI0 g (.int i) (.int j) H Q := ⟨i, j, rfl, rfl, h⟩
theorem k_I {C : Int → Int → Prop} {g : Int → Int → V} (hc : C i j) (h : Q (g i j) H) : rI C g (.int i) (.int j) H Q := ⟨i, j, rfl, rfl, hc, h⟩
theorem k_U {g : Int → V} (h : Q (g i) H) : rU g (.int i) H Q := ⟨i, rfl, h⟩
theorem k_ixL (h1 : SqL K H p xs) (h2 : atI xs i = some v) (h : Q v H) : rIxL K (.ref p) (.int i) H Q := ⟨p, xs, i, v, rfl, rfl, h1, h2, h⟩
theorem k_ixT (h1 : SqT K H p xs) (h2 : atI xs i = some v) (h : Q v H) : rIxT K (.ref p) (.int i) H Q := ⟨p, xs, i, v, rfl, rfl, h1, h2, h⟩
theorem k_getL {k : Int} (h1 : SqL K H p xs) (h0 : 0 ≤ k) (h2 : xs[k.toNat]? = some v) (h : Q v H) : rGetL K (.ref p) (.int k) H Q := ⟨p, xs, k, v, rfl, rfl, h1, h0, h2, h⟩
theorem k_tst {Qb : Bool → Hp → Prop} (h : te σ H fun x H' => ∃ k, x = .bl k ∧ Qb k H') : tTest te σ H Qb := h
theorem k_tB {Qb : Bool → Hp → Prop} (h : te σ H fun x H' => ∃ k, x = .bl k ∧ Qb k H') : tB te σ H Qb := h
theorem k_bl {b : Bool} {Qb : Bool → Hp → Prop} (h : Qb b H) : ∃ k, V.bl b = .bl k ∧ Qb k H := ⟨b, rfl, h⟩
theorem k_cb {r : List V → Hp → VK → Prop} {ts : TA} (h : ts σ H fun vs H1 => r vs H1 Q) : tCB r ts σ H Q := h
theorem k_cons {ts : TA} {Ql : List V → Hp → Prop} (h : te σ H fun x H1 => ts σ H1 fun xs H2 => Ql (x :: xs) H2) : tCons te ts σ H Ql := h
theorem k_nil {Ql : List V → Hp → Prop} (h : Ql [] H) : tNil σ H Ql := h
theorem k_call {sp : Sp} {dvs : List V} {ts : TA} (h : ts σ H fun vs H1 => sp (vs ++ dvs) H1 Q E) : tCall sp dvs E ts σ H Q := h
theorem k_callN {n m : Nat} {sp : Sp} {gV : List V → List V → List V} {t1 t2 : TA} (h : t1 σ H fun vs H1 => t2 σ H1 fun zs H2 => vs.length = n ∧ zs.length = m ∧ sp (gV vs zs) H2 Q E) : tCallN n m sp gV E t1 t2 σ H Q := h
theorem k_isi {b : Bool} {n m : String} (ht : TyX K H x (.type m)) (hk : kitB m n = some b) (h : Q (.bl b) H) : rIsi K [x, .ty n] H Q := ⟨x, .ty n, _, _, b, rfl, .ty n, ht, kit_ty hk, h⟩
theorem isi_ii : kitB "int" "int" = some true := by decide +kernel
theorem isi_ib : kitB "int" "bool" = some false := by decide +kernel
theorem isi_bi : kitB "bool" "int" = some true := by decide +kernel
theorem isi_bb : kitB "bool" "bool" = some true := by decide +kernel
theorem isi_is : kitB "int" "str" = some false := by decide +kernel
theorem isi_si : kitB "str" "int" = some false := by decide +kernel
theorem isi_ss : kitB "str" "str" = some true := by decide +kernel
theorem isi_ll : kitB "list" "list" = some true := by decide +kernel
theorem isi_tt : kitB "tuple" "tuple" = some true := by decide +kernel
theorem isi_lt : kitB "list" "tuple" = some false := by decide +kernel
theorem isi_tl : kitB "tuple" "list" = some false := by decide +kernel
theorem isi_ni : kitB "NoneType" "int" = some false := by decide +kernel
theorem isi_dd : kitB "dict" "dict" = some true := by decide +kernel
theorem k_lst {ts : TA} (h : ts σ H fun xs H1 => xs.length ≤ sizeLine ∧ ∀ p, H1 p = none → Q (.ref p) (upd H1 p (.lst xs))) : tLst ts σ H Q := h
theorem k_tup {ts : TA} (h : ts σ H fun xs H1 => xs.length ≤ sizeLine ∧ ∀ p, H1 p = none → Q (.ref p) (upd H1 p (.tup xs))) : tTup ts σ H Q := h
theorem k_and {tt uu : TT} {Qb : Bool → Hp → Prop} (h : tt σ H fun c H1 => if c = true then uu σ H1 Qb else Qb false H1) : tAnd tt uu σ H Qb := h
theorem k_or {tt uu : TT} {Qb : Bool → Hp → Prop} (h : tt σ H fun c H1 => if c = true then Qb true H1 else uu σ H1 Qb) : tOr tt uu σ H Qb := h
theorem k_not {tt : TT} {Qb : Bool → Hp → Prop} (h : tt σ H fun c H1 => Qb (!c) H1) : tNot tt σ H Qb := h
theorem k_andV (h : ta σ H fun x H1 => ∃ c, x = .bl c ∧ if c = true then tb σ H1 Q else Q (.bl false) H1) : tAndV ta tb σ H Q := h
theorem k_orV (h : ta σ H fun x H1 => ∃ c, x = .bl c ∧ if c = true then Q (.bl true) H1 else tb σ H1 Q) : tOrV ta tb σ H Q := h
theorem k_notV (h : ta σ H fun x H1 => ∃ c, x = .bl c ∧ Q (.bl (!c)) H1) : tNotV ta σ H Q := h
theorem k_ifE {tt : TT} (h : tt σ H fun c H1 => if c = true then ta σ H1 Q else tb σ H1 Q) : tIf tt ta tb σ H Q := h
theorem k_eqV (hs : scal x y = true) (h : Q (.bl (decide (x = y))) H) : rEq x y H Q := ⟨hs, h⟩
theorem k_neV (hs : scal x y = true) (h : Q (.bl (!decide (x = y))) H) : rNe x y H Q := ⟨hs, h⟩
theorem k_augS {to ti te : TE} {tget : V → V → Hp → VK → Prop} {tip : TIp} {tset : TSet} (h : to σ H fun o H1 => ti σ H1 fun i H2 => tget o i H2 fun x H3 => te σ H3 fun y H4 => tip x y H4 fun z H5 => tset o i z H5 fun H6 => D.nx σ H6) : tAugS to ti te tget tip tset D σ H := h
theorem k_aug {n : Nat} {ti : TIp} (h1 : σ[n]? = some (some x)) (h : te σ H fun y H1 => ti x y H1 fun z H2 => D.nx (σ.set n (some z)) H2) : tAug n te ti D σ H := ⟨x, h1, h⟩
theorem k_ipI {f : Int → Int → Int} (h : Q (.int (f i j)) H) : ipI f (.int i) (.int j) H Q := ⟨i, j, rfl, rfl, h⟩
theorem k_sl {r : V → Option Int → Option Int → Hp → VK → Prop} {tl th : TO} (h : te σ H fun x H1 => tl σ H1 fun lo H2 => th σ H2 fun hi H3 => r x lo hi H3 Q) : tSl r te tl th σ H Q := h
theorem k_noPart {Qo : Option Int → Hp → Prop} (h : Qo none H) : tNoPart σ H Qo := h
theorem k_part {Qo : Option Int → Hp → Prop} (h : te σ H fun x H1 => ∃ i, x = .int i ∧ Qo (some i) H1) : tPart te σ H Qo := h
theorem k_int {Qi : Int → Hp → Prop} (h : Qi i H) : ∃ k, V.int i = .int k ∧ Qi k H := ⟨i, rfl, h⟩
theorem k_slL {lo hi : Option Int} (h1 : SqL K H p xs) (h : ∀ q, H q = none → Q (.ref q) (upd H q (.lst (cutV xs lo hi)))) : rSlL K (.ref p) lo hi H Q := ⟨p, xs, rfl, h1, h⟩
theorem k_iteD {q A B : Prop} [Decidable q] (h1 : q → A) (h2 : ¬ q → B) : if decide q = true then A else B := by
  by_cases h : q
  · rw [decide_eq_true h]
    exact h1 h
  · rw [decide_eq_false h]
    exact h2 h
theorem k_iteN {q A B : Prop} [Decidable q] (h1 : ¬ q → A) (h2 : q → B) : if (!decide q) = true then A else B := by
  by_cases h : q
  · rw [decide_eq_true h]
    exact h2 h
  · rw [decide_eq_false h]
    exact h1 h
theorem k_iteB {b : Bool} {A B : Prop} (h1 : b = true → A) (h2 : b = false → B) : if b = true then A else B := by
  cases b
  · exact h2 rfl
  · exact h1 rfl
theorem k_ite0 {A B : Prop} (h : B) : if false = true then A else B := h
theorem k_ite1 {A B : Prop} (h : A) : if true = true then A else B := h
theorem k_iteN1 {A B : Prop} (h : B) : if (!true) = true then A else B := h
theorem k_iteN0 {A B : Prop} (h : A) : if (!false) = true then A else B := h
theorem k_iteT {b : Bool} {A B : Prop} (e : b = true) (h : A) : if b = true then A else B := by
  rw [if_pos e]
  exact h
theorem k_iteF {b : Bool} {A B : Prop} (e : b = false) (h : B) : if b = true then A else B := by
  rw [e]
  exact h
theorem k_iteD1 {q A B : Prop} [Decidable q] (e : q) (h : A) : if decide q = true then A else B := k_iteT (decide_eq_true e) h
theorem k_iteD2 {q A B : Prop} [Decidable q] (e : ¬ q) (h : B) : if decide q = true then A else B := k_iteF (decide_eq_false e) h
theorem k_bm {T : String} {r : V → List V → Hp → VK → Prop} {ts : TA} (h : te σ H fun x H1 => tyV K T x H1 ∧ ts σ H1 fun xs H2 => r x xs H2 Q) : tBM K T r te ts σ H Q := h
theorem k_bm0 {T : String} {r : V → List V → Hp → VK → Prop} (h : te σ H fun x H1 => tyV K T x H1 ∧ r x [] H1 Q) : tBM0 K T r te σ H Q := h
theorem k_tyL {A : Prop} (h1 : H p = some (.lst xs)) (h : A) : tyV K "list" (.ref p) H ∧ A := ⟨.inl ⟨rfl, _, SqL.of h1⟩, h⟩
theorem k_app (h1 : H p = some (.lst xs)) (h2 : xs.length ≤ 1000) (h : Q .non (upd H p (.lst (xs ++ [v])))) : rAppend (.ref p) [v] H Q := ⟨p, xs, v, rfl, rfl, h1, small1000 h2, h⟩
theorem k_lstRg {tr : L2.St → Hp → (Int → Int → Hp → Prop) → Prop} (h : tr σ H fun a b H1 => RgOk a b ∧ ∀ q, H1 q = none → Q (.ref q) (upd H1 q (.lst (rgV a b)))) : tLstRg tr σ H Q := h
theorem k_rg1 {Qr : Int → Int → Hp → Prop} (h : ta σ H fun x H1 => ∃ n, x = .int n ∧ Qr 0 n H1) : tRg1 ta σ H Qr := h
theorem k_rg2 {Qr : Int → Int → Hp → Prop} (h : ta σ H fun x H1 => tb σ H1 fun y H2 => ∃ i j, x = .int i ∧ y = .int j ∧ Qr i j H2) : tRg2 ta tb σ H Qr := h
theorem k_cat {xs ys : List V} {q : Addr} (h1 : H p = some (.lst xs)) (h2 : H q = some (.lst ys)) (h3 : xs.length + ys.length ≤ 100000) (h : ∀ r, H r = none → Q (.ref r) (upd H r (.lst (xs ++ ys)))) : rCat (.ref p) (.ref q) H Q :=
  ⟨p, q, xs, ys, rfl, rfl, h1, h2, Nat.le_trans h3 (by decide), h⟩
theorem k_iteNN {q A B : Prop} [Decidable q] (e : ¬ q) (h : A) : if (!decide q) = true then A else B := k_iteT (by rw [decide_eq_false e]; rfl) h
theorem k_iteNY {q A B : Prop} [Decidable q] (e : q) (h : B) : if (!decide q) = true then A else B := k_iteF (by rw [decide_eq_true e]; rfl) h
theorem k_rfl {x : V} {A : Prop} (h : A) : x = x ∧ A := ⟨rfl, h⟩
theorem k_iteE {A B : Prop} {x : V} (h : A) : if decide (x = x) = true then A else B := k_iteT (decide_eq_true rfl) h
theorem k_iteNE {A B : Prop} {x : V} (h : B) : if (!decide (x = x)) = true then A else B := k_iteF (by rw [decide_eq_true rfl]; rfl) h
theorem k_for {wi : TI} {g : TG} {tb : TS} (h : wi σ H fun J H1 => ∃ W : Nat → Nat → L2.St → Hp → Prop, (∃ m, W 0 m σ H1) ∧ ∀ i m σ H, W i m σ H →
    (J.stop i H ∧ D.nx σ H) ∨ (J.go i H ∧ ∃ N : L2.St → Hp → Prop, (∀ σ' H', N σ' H' → ∃ m', m' < m ∧ W (i + 1) m' σ' H') ∧ ∀ x H', J.yld i H x H' → g x σ H' fun σ2 H2 => tb { D with nx := N, ct := N, bk := D.nx } σ2 H2)) : tFor wi g tb D σ H := h
theorem k_iL {R : It → Hp → Prop} (h : te σ H fun x H1 => ∃ a, x = .ref a ∧ (∃ xs, SqL K H1 a xs) ∧ R (Itl K a) H1) : iList K te σ H R := h
theorem k_iT {R : It → Hp → Prop} (h : te σ H fun x H1 => ∃ a, x = .ref a ∧ (∃ xs, SqT K H1 a xs) ∧ R (Itt K a) H1) : iTup K te σ H R := h
theorem k_iR1 {ts : TA} {R : It → Hp → Prop} (h : ts σ H fun vs H1 => ∃ j : Int, vs = [.int j] ∧ -(2 ^ 62) ≤ j ∧ j < 2 ^ 62 ∧ R (Itr 0 j.toNat) H1) : iRng1 ts σ H R := h
theorem k_iR2 {ts : TA} {R : It → Hp → Prop} (h : ts σ H fun vs H1 => ∃ i j : Int, vs = [.int i, .int j] ∧ (-(2 ^ 62) ≤ i ∧ i < 2 ^ 62 ∧ -(2 ^ 62) ≤ j ∧ j < 2 ^ 62) ∧ R (Itr i (j - i).toNat) H1) : iRng2 ts σ H R := h
/-- a for over a list: what is left behind the steps -/
theorem k_inL {g : TG} {tb : TS} {Nx : L2.St → Hp → Prop} {R : VK} (Pv : Nat → L2.St → Hp → Prop) (hq : SqL K H a xs) (h0 : Pv 0 σ H) (hl : ∀ i σ H, i ≤ xs.length → Pv i σ H → SqL K H a xs)
    (hs : ∀ i x σ H, xs[i]? = some x → Pv i σ H → g x σ H fun σ2 H2 => tb { nx := Pv (i + 1), rt := R, bk := Nx, ct := Pv (i + 1) } σ2 H2) (hd : ∀ σ H, Pv xs.length σ H → Nx σ H) :
    (∃ xs, SqL K H a xs) ∧ ∃ W : Nat → Nat → L2.St → Hp → Prop, (∃ m, W 0 m σ H) ∧ ∀ i m σ H, W i m σ H →
      ((Itl K a).stop i H ∧ Nx σ H) ∨ ((Itl K a).go i H ∧ ∃ N : L2.St → Hp → Prop, (∀ σ' H', N σ' H' → ∃ m', m' < m ∧ W (i + 1) m' σ' H') ∧ ∀ x H', (Itl K a).yld i H x H' → g x σ H' fun σ2 H2 => tb { nx := N, rt := R, bk := Nx, ct := N } σ2 H2) :=
  ⟨⟨xs, hq⟩, for_list (D := { nx := Nx, rt := R }) Pv h0 hl hs hd⟩
theorem k_inT {g : TG} {tb : TS} {Nx : L2.St → Hp → Prop} {R : VK} (Pv : Nat → L2.St → Hp → Prop) (hq : SqT K H a xs) (h0 : Pv 0 σ H) (hl : ∀ i σ H, i ≤ xs.length → Pv i σ H → SqT K H a xs)
    (hs : ∀ i x σ H, xs[i]? = some x → Pv i σ H → g x σ H fun σ2 H2 => tb { nx := Pv (i + 1), rt := R, bk := Nx, ct := Pv (i + 1) } σ2 H2) (hd : ∀ σ H, Pv xs.length σ H → Nx σ H) :
    (∃ xs, SqT K H a xs) ∧ ∃ W : Nat → Nat → L2.St → Hp → Prop, (∃ m, W 0 m σ H) ∧ ∀ i m σ H, W i m σ H →
      ((Itt K a).stop i H ∧ Nx σ H) ∨ ((Itt K a).go i H ∧ ∃ N : L2.St → Hp → Prop, (∀ σ' H', N σ' H' → ∃ m', m' < m ∧ W (i + 1) m' σ' H') ∧ ∀ x H', (Itt K a).yld i H x H' → g x σ H' fun σ2 H2 => tb { nx := N, rt := R, bk := Nx, ct := N } σ2 H2) :=
  ⟨⟨xs, hq⟩, for_tup (D := { nx := Nx, rt := R }) Pv h0 hl hs hd⟩
/-- range(n), range(lo, hi) -/
theorem k_inR {lo : Int} {n : Nat} {g : TG} {tb : TS} {Nx : L2.St → Hp → Prop} {R : VK} (Pv : Nat → L2.St → Hp → Prop) (h0 : Pv 0 σ H)
    (hs : ∀ i σ H, i < n → Pv i σ H → g (.int (lo + i)) σ H fun σ2 H2 => tb { nx := Pv (i + 1), rt := R, bk := Nx, ct := Pv (i + 1) } σ2 H2) (hd : ∀ σ H, Pv n σ H → Nx σ H) :
    ∃ W : Nat → Nat → L2.St → Hp → Prop, (∃ m, W 0 m σ H) ∧ ∀ i m σ H, W i m σ H →
      ((Itr lo n).stop i H ∧ Nx σ H) ∨ ((Itr lo n).go i H ∧ ∃ N : L2.St → Hp → Prop, (∀ σ' H', N σ' H' → ∃ m', m' < m ∧ W (i + 1) m' σ' H') ∧ ∀ x H', (Itr lo n).yld i H x H' → g x σ H' fun σ2 H2 => tb { nx := N, rt := R, bk := Nx, ct := N } σ2 H2) :=
  for_range (D := { nx := Nx, rt := R }) Pv h0 hs hd
theorem k_expr {sp : Sp} (h : sp [] H Q E) : sp [] H Q E := h
theorem k_tup1 {K : PySem.W.Frag} {n : Nat} {ts : TGs} {Qs : L2.St → Hp → Prop} (h1 : SqT K H a xs) (h2 : xs.length = n) (h : ts xs σ H Qs) : gTup K n ts (.ref a) σ H Qs := ⟨a, xs, rfl, h1, h2, h⟩
theorem k_gCons {g : TG} {gs : TGs} {r : List V} {Qs : L2.St → Hp → Prop} (h : g v σ H fun σ' H' => gs r σ' H' Qs) : gCons g gs (v :: r) σ H Qs := ⟨v, r, rfl, h⟩
theorem k_gNil {Qs : L2.St → Hp → Prop} (h : Qs σ H) : gNil [] σ H Qs := ⟨rfl, h⟩
theorem k_fld {C dx : Addr} {f : Str} {fs : List (Str × V)} (h : ta σ H fun x H1 => ∃ a C dx fs v, x = .ref a ∧ H1 a = some (.ins C dx fs) ∧ Cls K C ∧ NoAttr K C f ∧ fs.lookup f = some v ∧ Q v H1) : tFld K ta f σ H Q := h
theorem Same.get {H H' : Hp} {o : HO} (s : Same H H') (h : H a = some o) : H' a = some o := s _ _ h
theorem SameB.get {b : Addr} {H H' : Hp} {o : HO} (s : SameB b H H') (n : a ≠ b) (h : H a = some o) : H' a = some o := s _ _ n h
theorem ne_upd {b : Addr} {o u : HO} (h : a ≠ b) (e : H a = some u) : upd H b o a = some u := by
  rw [upd_ne h]
  exact e
end
end Lt
/-! list comprehensions -/
namespace Lt
open PySem PySem.Spec PyProof.Rows L2
/-- behind i turns the list at D holds acc -/
def LcP (Pv : Addr → Nat → List V → Hp → Prop) (D : Addr) (i : Nat) (H : Hp) : Prop := ∃ acc, H D = some (.lst acc) ∧ acc.length ≤ i ∧ Pv D i acc H
section
variable {K : PySem.W.Frag} {σ : L2.St} {H : Hp} {Q : VK} {te : TE} {tt : TT} {g : TG} {vs : List Nat} {a : Addr} {xs : List V} {wi : TI}
theorem lc_end {Pv : Addr → Nat → List V → Hp → Prop} {D : Addr} {i : Nat} {y : V} {acc : List V} (h1 : H D = some (.lst acc)) (h2 : acc.length ≤ i) (hi : i < 1000) (h3 : Pv D (i + 1) (acc ++ [y]) (upd H D (.lst (acc ++ [y])))) :
    ∃ acc, H D = some (.lst acc) ∧ acc.length < sizeLine ∧ LcP Pv D (i + 1) (upd H D (.lst (acc ++ [y]))) :=
  ⟨acc, h1, small1000 (by omega), acc ++ [y], upd_same, (by rw [List.length_append, List.length_singleton]; omega), h3⟩
theorem lc_skip {Pv : Addr → Nat → List V → Hp → Prop} {D : Addr} {i : Nat} {acc : List V} (h1 : H D = some (.lst acc)) (h2 : acc.length ≤ i) (h3 : Pv D (i + 1) acc H) : LcP Pv D (i + 1) H := ⟨acc, h1, by omega, h3⟩
theorem k_lc (h : wi σ H fun J H1 => ∀ D, H1 D = none → ∃ W : Nat → Nat → Hp → Prop, (∃ m, W 0 m (upd H1 D (.lst []))) ∧ ∀ i m H, W i m H →
    (J.stop i H ∧ Q (.ref D) H) ∨ (J.go i H ∧ ∃ Nx : Hp → Prop, (∀ H', Nx H' → ∃ m', m' < m ∧ W (i + 1) m' H') ∧ ∀ x H', J.yld i H x H' → g x (wipe σ vs) H' fun σ2 H2 => wipe σ2 vs = wipe σ vs ∧ tt σ2 H2 fun b H3 =>
      if b = true then te σ2 H3 fun y H4 => ∃ acc, H4 D = some (.lst acc) ∧ acc.length < sizeLine ∧ Nx (upd H4 D (.lst (acc ++ [y]))) else Nx H3)) : tLc wi g tt te vs σ H Q := h
theorem k_wipe {σ1 σ2 : L2.St} {ws : List Nat} {A : Prop} (e : wipe σ1 ws = wipe σ2 ws) (h : A) : wipe σ1 ws = wipe σ2 ws ∧ A := ⟨e, h⟩
theorem k_allT {n : Nat} (hx : H a = some (.lst (List.replicate n (V.bl true)))) (h : Q (.bl true) H) : rAll K [.ref a] H Q := by
  refine ⟨a, List.replicate n true, rfl, SqL.of (by rw [hx, List.map_replicate]), ?_⟩
  rw [show (List.replicate n true).all id = true by simp]
  exact h
theorem k_anyF {n : Nat} (hx : H a = some (.lst (List.replicate n (V.bl false)))) (h : Q (.bl false) H) : rAny K [.ref a] H Q := by
  refine ⟨a, List.replicate n false, rfl, SqL.of (by rw [hx, List.map_replicate]), ?_⟩
  rw [show (List.replicate n false).any id = false by simp]
  exact h
theorem int_at {ks : List Int} {i : Nat} {x : V} (h : (ks.map V.int)[i]? = some x) : ∃ k, x = V.int k ∧ ks[i]? = some k := by
  rw [List.getElem?_map] at h
  cases e : ks[i]? with
  | none =>
    rw [e] at h
    cases h
  | some k =>
    rw [e] at h
    exact ⟨k, (Option.some.inj h).symm, rfl⟩
theorem k_yes {Qb : Bool → Hp → Prop} (h : Qb true H) : tYes σ H Qb := h
theorem k_lcL {Qd : Addr → Hp → Prop} (Pv : Addr → Nat → List V → Hp → Prop) (hq : SqL K H a xs) (h0 : ∀ D, H D = none → Pv D 0 [] (upd H D (.lst []))) (hl : ∀ D i acc H', H D = none → H' D = some (.lst acc) → Pv D i acc H' → SqL K H' a xs)
    (hs : ∀ D i x acc H', H D = none → i < xs.length → xs[i]? = some x → H' D = some (.lst acc) → acc.length ≤ i → Pv D i acc H' → g x (wipe σ vs) H' fun σ2 H2 => wipe σ2 vs = wipe σ vs ∧ tt σ2 H2 fun b H3 =>
      if b = true then te σ2 H3 fun y H4 => ∃ acc, H4 D = some (.lst acc) ∧ acc.length < sizeLine ∧ LcP Pv D (i + 1) (upd H4 D (.lst (acc ++ [y]))) else LcP Pv D (i + 1) H3)
    (h : ∀ D acc H', H D = none → H' D = some (.lst acc) → acc.length ≤ xs.length → Pv D xs.length acc H' → Qd D H') :
    (∃ xs, SqL K H a xs) ∧ ∀ D, H D = none → ∃ W : Nat → Nat → Hp → Prop, (∃ m, W 0 m (upd H D (.lst []))) ∧ ∀ i m H, W i m H →
      ((Itl K a).stop i H ∧ Qd D H) ∨ ((Itl K a).go i H ∧ ∃ Nx : Hp → Prop, (∀ H', Nx H' → ∃ m', m' < m ∧ W (i + 1) m' H') ∧ ∀ x H', (Itl K a).yld i H x H' → g x (wipe σ vs) H' fun σ2 H2 => wipe σ2 vs = wipe σ vs ∧ tt σ2 H2 fun b H3 =>
        if b = true then te σ2 H3 fun y H4 => ∃ acc, H4 D = some (.lst acc) ∧ acc.length < sizeLine ∧ Nx (upd H4 D (.lst (acc ++ [y]))) else Nx H3) := by
  refine ⟨⟨xs, hq⟩, fun D nD => lc_list (xs := xs) (LcP Pv D) ⟨[], upd_same, Nat.le_refl _, h0 D nD⟩ (fun i H' _ hp => ?_) (fun i x H' hx hp => ?_) fun H' hp => ?_⟩
  · obtain ⟨acc, e1, _, e3⟩ := hp
    exact hl D i acc H' nD e1 e3
  · obtain ⟨acc, e1, e2, e3⟩ := hp
    exact hs D i x acc H' nD (List.getElem?_eq_some_iff.mp hx).1 hx e1 e2 e3
  · obtain ⟨acc, e1, e2, e3⟩ := hp
    exact h D acc H' nD e1 e2 e3
theorem k_lcT {Qd : Addr → Hp → Prop} (Pv : Addr → Nat → List V → Hp → Prop) (hq : SqT K H a xs) (h0 : ∀ D, H D = none → Pv D 0 [] (upd H D (.lst []))) (hl : ∀ D i acc H', H D = none → H' D = some (.lst acc) → Pv D i acc H' → SqT K H' a xs)
    (hs : ∀ D i x acc H', H D = none → i < xs.length → xs[i]? = some x → H' D = some (.lst acc) → acc.length ≤ i → Pv D i acc H' → g x (wipe σ vs) H' fun σ2 H2 => wipe σ2 vs = wipe σ vs ∧ tt σ2 H2 fun b H3 =>
      if b = true then te σ2 H3 fun y H4 => ∃ acc, H4 D = some (.lst acc) ∧ acc.length < sizeLine ∧ LcP Pv D (i + 1) (upd H4 D (.lst (acc ++ [y]))) else LcP Pv D (i + 1) H3)
    (h : ∀ D acc H', H D = none → H' D = some (.lst acc) → acc.length ≤ xs.length → Pv D xs.length acc H' → Qd D H') :
    (∃ xs, SqT K H a xs) ∧ ∀ D, H D = none → ∃ W : Nat → Nat → Hp → Prop, (∃ m, W 0 m (upd H D (.lst []))) ∧ ∀ i m H, W i m H →
      ((Itt K a).stop i H ∧ Qd D H) ∨ ((Itt K a).go i H ∧ ∃ Nx : Hp → Prop, (∀ H', Nx H' → ∃ m', m' < m ∧ W (i + 1) m' H') ∧ ∀ x H', (Itt K a).yld i H x H' → g x (wipe σ vs) H' fun σ2 H2 => wipe σ2 vs = wipe σ vs ∧ tt σ2 H2 fun b H3 =>
        if b = true then te σ2 H3 fun y H4 => ∃ acc, H4 D = some (.lst acc) ∧ acc.length < sizeLine ∧ Nx (upd H4 D (.lst (acc ++ [y]))) else Nx H3) := by
  refine ⟨⟨xs, hq⟩, fun D nD => lc_tup (xs := xs) (LcP Pv D) ⟨[], upd_same, Nat.le_refl _, h0 D nD⟩ (fun i H' _ hp => ?_) (fun i x H' hx hp => ?_) fun H' hp => ?_⟩
  · obtain ⟨acc, e1, _, e3⟩ := hp
    exact hl D i acc H' nD e1 e3
  · obtain ⟨acc, e1, e2, e3⟩ := hp
    exact hs D i x acc H' nD (List.getElem?_eq_some_iff.mp hx).1 hx e1 e2 e3
  · obtain ⟨acc, e1, e2, e3⟩ := hp
    exact h D acc H' nD e1 e2 e3
theorem k_lcR {Qd : Addr → Hp → Prop} {lo : Int} {n : Nat} (Pv : Addr → Nat → List V → Hp → Prop) (h0 : ∀ D, H D = none → Pv D 0 [] (upd H D (.lst [])))
    (hs : ∀ D i acc H', H D = none → i < n → H' D = some (.lst acc) → acc.length ≤ i → Pv D i acc H' → g (.int (lo + i)) (wipe σ vs) H' fun σ2 H2 => wipe σ2 vs = wipe σ vs ∧ tt σ2 H2 fun b H3 =>
      if b = true then te σ2 H3 fun y H4 => ∃ acc, H4 D = some (.lst acc) ∧ acc.length < sizeLine ∧ LcP Pv D (i + 1) (upd H4 D (.lst (acc ++ [y]))) else LcP Pv D (i + 1) H3)
    (h : ∀ D acc H', H D = none → H' D = some (.lst acc) → acc.length ≤ n → Pv D n acc H' → Qd D H') :
    ∀ D, H D = none → ∃ W : Nat → Nat → Hp → Prop, (∃ m, W 0 m (upd H D (.lst []))) ∧ ∀ i m H, W i m H →
      ((Itr lo n).stop i H ∧ Qd D H) ∨ ((Itr lo n).go i H ∧ ∃ Nx : Hp → Prop, (∀ H', Nx H' → ∃ m', m' < m ∧ W (i + 1) m' H') ∧ ∀ x H', (Itr lo n).yld i H x H' → g x (wipe σ vs) H' fun σ2 H2 => wipe σ2 vs = wipe σ vs ∧ tt σ2 H2 fun b H3 =>
        if b = true then te σ2 H3 fun y H4 => ∃ acc, H4 D = some (.lst acc) ∧ acc.length < sizeLine ∧ Nx (upd H4 D (.lst (acc ++ [y]))) else Nx H3) := by
  intro D nD
  refine lc_range (LcP Pv D) ⟨[], upd_same, Nat.le_refl _, h0 D nD⟩ (fun i H' hi hp => ?_) fun H' hp => ?_
  · obtain ⟨acc, e1, e2, e3⟩ := hp
    exact hs D i acc H' nD hi e1 e2 e3
  · obtain ⟨acc, e1, e2, e3⟩ := hp
    exact h D acc H' nD e1 e2 e3
end
end Lt
/-! set(xs) of a list of whole numbers, sorted(set(..)) -/
namespace Lt
open PySem PySem.Spec PyProof.Rows L2
/-- a new empty set's object -/
def setO0 (w : World) : Obj := { cls := .type "set", dict := none, data := .set #[] 0 (.fresh 0 0 (!w.params.followText "set-order")) }
section
variable {P : Program} {w : World} {A : Around} {E : Value → Shared → Prop} {s : Shared}
set_option maxRecDepth 100000 in
set_option maxHeartbeats 6400000 in
theorem set_of_list {p : Addr} {xs : Array Value} (ks : List Int) {Q : Value → Shared → Prop} (nh : A.handled = none) (ip : s.heap.IsList p xs) (ii : IntsAre xs.toList ks) (kb : ks.length + 1 < scanBound)
    (q : ∀ (g : Heap) (tk c : Nat), SetR w g s.heap.objs.size (fun j => decide (j ∈ ks)) c → c ≤ ks.length → (∀ b o, s.heap.get? b = some o → g.get? b = some o) → Q (.ref s.heap.objs.size) { s with heap := g, toks := tk }) :
    wpAny (model P w) A (call (.type "set") [.ref p]) Q E s := by
  have xsz : xs.size = ks.length := (Array.length_toList (xs := xs)).symm.trans (IntsAre.length ii)
  obtain ⟨c0, tl0, mro0⟩ := F.called_set.mro
  have made0 := F.called_set.made
  have sub0 := F.called_set.sub
  have new0 := F.typeCall_set_1 (.ref p)
  have nt0 := F.called_set.notType
  have cc0 := F.called_set.canCreate
  refine wpAny_call ?_
  refine codeAny_of_tree ?_
  show wpAny _ _ (callAny (.type "set") _) _ _ _
  refine wpAny_pure ⟨Code.quiet_builtin _ (by decide +kernel), ?_⟩
  refine codeAny_builtin F.entry_type_call ?_
  rw [Around.under_plain (weight_type_call_type "set" [.ref p] []) rfl]
  repeat (any_goals (first | wp_step | assumption))
  refine codeAny_mono (code_set_led1 (P := P) (.ref p) (E := E) (Q₁ := fun ob t => ob = .ref s.heap.objs.size ∧ t = { s with heap := s.heap.push (setO0 w) }) ⟨rfl, rfl⟩) fun r t hr => ?_
  cases r with
  | error e => exact hr
  | ok fl =>
    cases fl with
    | ret ob =>
      obtain ⟨rfl, rfl⟩ := hr
      have hN : (s.heap.push (setO0 w)).get? s.heap.objs.size = some (setO0 w) := Heap.get?_push_size _ rfl
      have hY : Shared.TypeIs { s with heap := s.heap.push (setO0 w) } (.ref s.heap.objs.size) "set" := ⟨_, hN, rfl⟩
      have il0 := F.called_set.init.lookup
      have ib0 := F.called_set.init.bind (.ref s.heap.objs.size)
      repeat (any_goals (first | wp_step | assumption))
      refine codeAny_mono (codeAny_call_builtin (R := wants (fun v t => v = .none ∧ ∃ g tk c, t = { s with heap := g, toks := tk } ∧ SetR w g s.heap.objs.size (fun j => decide (j ∈ ks)) c ∧ c ≤ ks.length ∧
          (∀ b o, s.heap.get? b = some o → g.get? b = some o)) E) F.called_set.init.plain F.entry_set_init (check_set_init_1 hY ?_)) fun r2 t2 hr2 => ?_
      · obtain ⟨ol, gl, tl, nl, al⟩ := ip
        obtain ⟨ocl, odi, oda, osl⟩ := ol
        simp only at tl al
        subst tl al
        have gl1 : (s.heap.push (setO0 w)).get? p = some { cls := .type "list", dict := odi, data := .seq xs nl, slots := osl } := Heap.get?_push_of_some _ gl
        have s1 := F.sub_list_set
        have s2 := F.sub_list_frozenset
        have ne1 : (Value.type "list" == Value.type "dict") = false := by decide
        have li1 : (s.heap.push (setO0 w)).IsList p xs := ⟨_, gl1, rfl, nl, rfl⟩
        unfold Builtin.«set.__init__» noKeywords Builtin.Frozenset.updateFrom
        generalize hIter : pyIter = IT
        wp_walk
        subst hIter
        refine wpAny_pyIter_list li1 ?_
        refine wpAny_bind ?_
        refine wpAny_runValue ?_
        have plt : p < s.heap.objs.size := Heap.lt_size gl
        have nh3 : A.in1.in1.in1.handled = none := by simp [nh]
        have szN : (s.heap.push (setO0 w)).objs.size = s.heap.objs.size + 1 := Heap.size_push ..
        have pI : p ≠ (s.heap.push (setO0 w)).objs.size := by
          rw [szN]
          exact Nat.ne_of_lt (Nat.lt_succ_of_lt plt)
        have notin : s.heap.objs.size ∉ [(s.heap.push (setO0 w)).objs.size, p] := by
          intro z
          rcases List.mem_cons.mp z with z | z
          · rw [szN] at z
            exact absurd z (Nat.ne_of_lt (Nat.lt_succ_self _))
          · exact absurd (List.mem_singleton.mp z) (Nat.ne_of_gt plt)
        have vals : ∀ (i : Nat) (v : Value), xs[i]? = some v → ∃ k t, ks[i]? = some k ∧ v = .int k t := by
          intro i v hv
          have il : i < ks.length := by
            rw [← xsz]
            exact (Array.getElem?_eq_some_iff.mp hv).1
          obtain ⟨t, e⟩ := PyProof.Rows.IntsAre.int_at ii i v (by rw [Array.getElem?_toList]; exact hv)
          refine ⟨ks[i], t, List.getElem?_eq_getElem il, ?_⟩
          rw [e, List.getD_eq_getElem?_getD, List.getElem?_eq_getElem il]
          all_goals rfl
        have hN2 : ((s.heap.push (setO0 w)).push { cls := .type "list_iterator", data := .fields #[.ref p, .int 0 0] }).get? s.heap.objs.size = some (setO0 w) := Heap.get?_push_of_some _ hN
        refine set_update_ints ((Walks.list nh3 _ p pI xs).toS) s.heap.objs.size notin ks xsz kb vals (xs.size - 0) 0 _ (by omega) (Nat.zero_le _)
          ⟨⟨_, Heap.get?_push_size _ rfl, rfl, rfl⟩, li1.push _⟩ ⟨0, Nat.le_refl 0, setR_new_at hN2⟩ ?_
        intro t3 c3 mv le3 R3
        obtain ⟨g3, gn3, dr3, tk3, os3⟩ := t3
        have e1 : gn3 = s.gens := mv.gens
        have e2 : dr3 = s.drawn := mv.drawn
        have e3 : os3 = s.os := mv.os
        subst e1 e2 e3
        show wpAny _ _ _ _ _ _
        refine wpAny_pure ?_
        show wpAny _ _ (ret Value.none) _ _ _
        rw [xsz] at le3
        refine wpAny_pure ⟨rfl, g3, tk3, c3, rfl, R3, le3, fun b o e => ?_⟩
        have bl : b < s.heap.objs.size := Heap.lt_size e
        refine mv.heap b o (fun z => ?_) (Heap.get?_push_of_some _ (Heap.get?_push_of_some _ e))
        rcases List.mem_cons.mp z with z | z
        · exact absurd z (Nat.ne_of_lt bl)
        · have z2 := List.mem_singleton.mp z
          rw [szN] at z2
          exact absurd z2 (Nat.ne_of_lt (Nat.lt_succ_of_lt bl))
      · cases r2 with
        | error e => exact hr2
        | ok fl2 =>
          cases fl2 with
          | ret r =>
            obtain ⟨rfl, g, tk, c, rfl, R4, le4, kp4⟩ := hr2
            repeat (any_goals (first | wp_step | assumption))
            exact q _ _ _ R4 le4 kp4
          | _ => exact hr2.elim
    | _ => exact hr.elim
end
section
variable {X : Cx}
/-- set(xs), whole numbers -/
def rMkSet (K : PySem.W.Frag) (w : World) : List V → Hp → VK → Prop := fun vs H Q => ∃ (a : Addr) (ks : List Int), vs = [V.ref a] ∧ SqL K H a (ks.map V.int) ∧ ks.length ≤ 1000 ∧
  ∀ p c, H p = none → c ≤ ks.length → Q (.ref p) (upd H p (SetO w p (fun j => decide (j ∈ ks)) c))
theorem cr_setL (hc : X.calm = true) : CallR X (.type "set") (rMkSet X.K X.w) := by
  intro pins s σ H vs us Q I r hw
  obtain ⟨a, ks, rfl, hx, hk, hq⟩ := hw
  obtain ⟨its, rv, pl, hz⟩ := I.list hx
  rw [Vals.ref1 r]
  refine set_of_list ks (I.ok.hd hc) pl.isList rv.ints (by unfold scanBound; omega) fun g tk c R le kp => ?_
  exact ⟨.ref _, upd H s.heap.objs.size (SetO X.w s.heap.objs.size (fun j => decide (j ∈ ks)) c), I.laid (t' := tk) kp (Nat.le_refl _) (setO_new R), rfl, hq _ c (I.hok.fresh (Nat.le_refl _)) le⟩
end
/-! ### the unlike numbers in order -/
def insU (k : Int) : List Int → List Int
  | [] => [k]
  | x :: r => if k < x then k :: x :: r else if k = x then x :: r else x :: insU k r
def ascOf : List Int → List Int
  | [] => []
  | k :: r => insU k (ascOf r)
theorem mem_insU {k j : Int} : ∀ {l : List Int}, j ∈ insU k l ↔ j = k ∨ j ∈ l
  | [] => by simp [insU]
  | x :: r => by
    unfold insU
    split
    · simp
    · split
      · rename_i h
        subst h
        simp
      · have ih := mem_insU (k := k) (j := j) (l := r)
        rw [List.mem_cons, ih, List.mem_cons]
        exact ⟨fun h => h.elim (fun a => .inr (.inl a)) fun h => h.elim .inl fun b => .inr (.inr b), fun h => h.elim (fun a => .inr (.inl a)) fun h => h.elim .inl fun b => .inr (.inr b)⟩
theorem asc_insU {k : Int} : ∀ {l : List Int}, l.Pairwise (· < ·) → (insU k l).Pairwise (· < ·)
  | [], _ => by simp [insU]
  | x :: r, h => by
    obtain ⟨h1, h2⟩ := List.pairwise_cons.mp h
    unfold insU
    split
    · rename_i h3
      refine List.pairwise_cons.mpr ⟨fun y hy => ?_, h⟩
      rcases List.mem_cons.mp hy with rfl | hy
      · exact h3
      · exact Int.lt_trans h3 (h1 y hy)
    · split
      · exact h
      · rename_i h3 h4
        refine List.pairwise_cons.mpr ⟨fun y hy => ?_, asc_insU h2⟩
        rcases mem_insU.mp hy with rfl | hy
        · omega
        · exact h1 y hy
theorem mem_asc {j : Int} : ∀ {l : List Int}, j ∈ ascOf l ↔ j ∈ l
  | [] => Iff.rfl
  | k :: r => by
    unfold ascOf
    rw [mem_insU, mem_asc, List.mem_cons]
theorem asc_asc : ∀ (l : List Int), (ascOf l).Pairwise (· < ·)
  | [] => List.Pairwise.nil
  | k :: r => asc_insU (asc_asc r)
/-- two ascending lists with the same members are one -/
theorem asc_one : ∀ {l m : List Int}, l.Pairwise (· < ·) → m.Pairwise (· < ·) → (∀ k, k ∈ l ↔ k ∈ m) → l = m
  | [], [], _, _, _ => rfl
  | [], y :: m, _, _, h => by
    have q := (h y).mpr List.mem_cons_self
    simp at q
  | x :: l, [], _, _, h => by
    have q := (h x).mp List.mem_cons_self
    simp at q
  | x :: l, y :: m, hl, hm, h => by
    obtain ⟨l1, l2⟩ := List.pairwise_cons.mp hl
    obtain ⟨m1, m2⟩ := List.pairwise_cons.mp hm
    have e : x = y := by
      have a := (h x).mp List.mem_cons_self
      have b := (h y).mpr List.mem_cons_self
      rcases List.mem_cons.mp a with a | a
      · exact a
      · rcases List.mem_cons.mp b with b | b
        · exact b.symm
        · have c1 := m1 x a
          have c2 := l1 y b
          omega
    subst e
    refine congrArg (x :: ·) (asc_one l2 m2 fun k => ?_)
    constructor
    · intro hk
      have c := l1 k hk
      rcases List.mem_cons.mp ((h k).mp (List.mem_cons_of_mem _ hk)) with z | z
      · omega
      · exact z
    · intro hk
      have c := m1 k hk
      rcases List.mem_cons.mp ((h k).mpr (List.mem_cons_of_mem _ hk)) with z | z
      · omega
      · exact z
theorem asc_eq {l ks : List Int} (h1 : l.Pairwise (· < ·)) (h2 : ∀ k, k ∈ l ↔ k ∈ ks) : l = ascOf ks := asc_one h1 (asc_asc ks) fun k => (h2 k).trans mem_asc.symm
theorem len_insU (k : Int) : ∀ l : List Int, (insU k l).length ≤ l.length + 1
  | [] => Nat.le_refl _
  | x :: r => by
    unfold insU
    split
    · simp
    · split
      · simp
      · have := len_insU k r
        simp only [List.length_cons]
        omega
theorem len_asc : ∀ l : List Int, (ascOf l).length ≤ l.length
  | [] => Nat.le_refl _
  | k :: r => by
    have a := len_insU k (ascOf r)
    have b := len_asc r
    show (insU k (ascOf r)).length ≤ r.length + 1
    omega
/-- sorted(set(xs)), fewer than 64 -/
theorem k_sortSet {K : PySem.W.Frag} {w : World} {σ : L2.St} {H : Hp} {Q : VK} {a : Addr} {ks : List Int} (hx : SqL K H a (ks.map V.int)) (h64 : ks.length < 64)
    (hq : ∀ H' p, Same H H' → H p = none → H' p = some (.lst ((ascOf ks).map V.int)) → Q (.ref p) H') : rMkSet K w [V.ref a] H fun x H1 => tNil σ H1 fun xs H2 => rSortedSet w (x :: xs) H2 Q := by
  refine ⟨a, ks, rfl, hx, by omega, fun p c np hc => ?_⟩
  show rSortedSet w [V.ref p] (upd H p _) Q
  refine ⟨p, _, c, rfl, upd_same, by omega, fun ns p2 h1 h2 h3 np2 => ?_⟩
  have e : ns = ascOf ks := asc_eq h1 fun k => (h2 k).trans (by simp)
  rw [e]
  have s1 := same_new (o := SetO w p (fun j => decide (j ∈ ks)) c) np
  exact hq _ p2 (Same.new s1 np2) (s1.free np2) upd_same
end Lt/-! lists of things that stand for data -/
namespace Lt
open PySem PySem.Spec PyProof.Rows L2
def AllR {α β : Type} (R : α → β → Prop) : List α → List β → Prop
  | [], [] => True
  | x :: xs, p :: ps => R x p ∧ AllR R xs ps
  | _, _ => False
section
variable {α β : Type} {R R' : α → β → Prop}
theorem AllR.nil : AllR R [] [] := True.intro
theorem AllR.cons {x : α} {p : β} {xs : List α} {ps : List β} (h : R x p) (t : AllR R xs ps) : AllR R (x :: xs) (p :: ps) := ⟨h, t⟩
theorem AllR.length : ∀ {xs : List α} {ps : List β}, AllR R xs ps → xs.length = ps.length
  | [], [], _ => rfl
  | [], _ :: _, h => h.elim
  | _ :: _, [], h => h.elim
  | _ :: xs, _ :: ps, h => congrArg Nat.succ (AllR.length (xs := xs) (ps := ps) h.2)
theorem AllR.mono (f : ∀ x p, R x p → R' x p) : ∀ {xs : List α} {ps : List β}, AllR R xs ps → AllR R' xs ps
  | [], [], _ => True.intro
  | [], _ :: _, h => h.elim
  | _ :: _, [], h => h.elim
  | x :: xs, p :: ps, h => ⟨f x p h.1, AllR.mono f (xs := xs) (ps := ps) h.2⟩
theorem AllR.append : ∀ {xs ys : List α} {ps qs : List β}, AllR R xs ps → AllR R ys qs → AllR R (xs ++ ys) (ps ++ qs)
  | [], _, [], _, _, h => h
  | [], _, _ :: _, _, h, _ => h.elim
  | _ :: _, _, [], _, h, _ => h.elim
  | _ :: xs, _, _ :: ps, _, h, t => ⟨h.1, AllR.append (xs := xs) (ps := ps) h.2 t⟩
theorem AllR.snoc {xs : List α} {ps : List β} {x : α} {p : β} (h : AllR R xs ps) (t : R x p) : AllR R (xs ++ [x]) (ps ++ [p]) := AllR.append h ⟨t, True.intro⟩
theorem AllR.get : ∀ {xs : List α} {ps : List β} {i : Nat} {x : α}, AllR R xs ps → xs[i]? = some x → ∃ p, ps[i]? = some p ∧ R x p
  | [], _, _, _, _, e => by simp at e
  | _ :: _, [], _, _, h, _ => h.elim
  | y :: xs, p :: ps, 0, x, h, e => by
    have e1 : y = x := Option.some.inj (by simpa using e)
    exact ⟨p, rfl, e1 ▸ h.1⟩
  | _ :: xs, _ :: ps, i + 1, x, h, e => by
    obtain ⟨q, h1, h2⟩ := AllR.get (xs := xs) (ps := ps) (i := i) (x := x) h.2 (by simpa using e)
    exact ⟨q, by simpa using h1, h2⟩
theorem AllR.get2 : ∀ {xs : List α} {ps : List β} {i : Nat} {p : β}, AllR R xs ps → ps[i]? = some p → ∃ x, xs[i]? = some x ∧ R x p
  | _, [], _, _, _, e => by simp at e
  | [], _ :: _, _, _, h, _ => h.elim
  | x :: xs, q :: ps, 0, p, h, e => by
    have e1 : q = p := Option.some.inj (by simpa using e)
    exact ⟨x, rfl, e1 ▸ h.1⟩
  | _ :: xs, _ :: ps, i + 1, p, h, e => by
    obtain ⟨y, h1, h2⟩ := AllR.get2 (xs := xs) (ps := ps) (i := i) (p := p) h.2 (by simpa using e)
    exact ⟨y, by simpa using h1, h2⟩
theorem AllR.mem {xs : List α} {ps : List β} {x : α} (h : AllR R xs ps) (m : x ∈ xs) : ∃ p, p ∈ ps ∧ R x p := by
  obtain ⟨i, e⟩ := List.getElem?_of_mem m
  obtain ⟨p, h1, h2⟩ := h.get e
  exact ⟨p, List.mem_of_getElem? h1, h2⟩
/-- the last ones of both -/
theorem AllR.split {xs : List α} {ps : List β} (h : AllR R xs ps) : (xs = [] ∧ ps = []) ∨ ∃ ys y qs q, xs = ys ++ [y] ∧ ps = qs ++ [q] ∧ AllR R ys qs ∧ R y q := by
  induction xs generalizing ps with
  | nil =>
    cases ps with
    | nil => exact .inl ⟨rfl, rfl⟩
    | cons p ps => exact (show False from h).elim
  | cons x xs ih =>
    cases ps with
    | nil => exact (show False from h).elim
    | cons p ps =>
      have h : R x p ∧ AllR R xs ps := h
      rcases ih h.2 with ⟨rfl, rfl⟩ | ⟨ys, y, qs, q, rfl, rfl, t, r⟩
      · exact .inr ⟨[], x, [], p, rfl, rfl, True.intro, h.1⟩
      · exact .inr ⟨x :: ys, y, p :: qs, q, rfl, rfl, ⟨h.1, t⟩, r⟩
end
/-- a tuple of whole numbers -/
def TupAt (H : Hp) (x : V) (p : List Int) : Prop := ∃ t, x = V.ref t ∧ H t = some (.tup (p.map V.int))
/-- a pair of whole numbers -/
def PairAt (H : Hp) (x : V) (p : Int × Int) : Prop := ∃ t, x = V.ref t ∧ H t = some (.tup [.int p.1, .int p.2])
theorem PairAt.keep {H H' : Hp} {x : V} {p : Int × Int} (s : Same H H') (h : PairAt H x p) : PairAt H' x p := by
  obtain ⟨t, e, h1⟩ := h
  exact ⟨t, e, s _ _ h1⟩
/-- a list at o may turn -/
theorem PairAt.updL {H : Hp} {x : V} {p : Int × Int} {o : Addr} {xs ys : List V} (ho : H o = some (.lst xs)) (h : PairAt H x p) : PairAt (upd H o (.lst ys)) x p := by
  obtain ⟨t, e, h1⟩ := h
  refine ⟨t, e, ?_⟩
  rw [upd_ne (ne_of h1 ho (fun z => by cases z))]
  exact h1
abbrev Pairs (H : Hp) : List V → List (Int × Int) → Prop := AllR (PairAt H)
theorem Pairs.keep {H H' : Hp} {xs : List V} {ps : List (Int × Int)} (s : Same H H') (h : Pairs H xs ps) : Pairs H' xs ps := h.mono fun _ _ => PairAt.keep s
theorem Pairs.updL {H : Hp} {xs : List V} {ps : List (Int × Int)} {o : Addr} {us ys : List V} (ho : H o = some (.lst us)) (h : Pairs H xs ps) : Pairs (upd H o (.lst ys)) xs ps := h.mono fun _ _ => PairAt.updL ho
theorem ixN_last {α : Type} (xs : List α) (v : α) : ixN (xs ++ [v]).length (-1) = some xs.length := by
  unfold ixN
  rw [if_neg (by decide), if_pos (by rw [List.length_append, List.length_singleton]; omega), List.length_append, List.length_singleton]
  congr 1
  omega
theorem set_last {α : Type} : ∀ (xs : List α) (v u : α), (xs ++ [v]).set xs.length u = xs ++ [u]
  | [], _, _ => rfl
  | x :: xs, v, u => congrArg (x :: ·) (set_last xs v u)
theorem take_snoc {α : Type} {l : List α} {i : Nat} {x : α} (h : l[i]? = some x) : l.take (i + 1) = l.take i ++ [x] := by
  rw [List.take_add_one, h]
  rfl
end Lt
/-! stretches: plain Lean -/
namespace Lt
/-- f, f + 1, .., many of them -/
def rgI (f : Int) (m : Int) : List Int := (List.range m.toNat).map fun (i : Nat) => f + (i : Int)
theorem rgI_len (f m : Int) : (rgI f m).length = m.toNat := by simp [rgI]
theorem rgI_succ {f m : Int} (h : 0 ≤ m) : rgI f (m + 1) = rgI f m ++ [f + m] := by
  unfold rgI
  have e : (m + 1).toNat = m.toNat + 1 := by omega
  rw [e, List.range_succ, List.map_append]
  simp
  omega
theorem rgI_one (f : Int) : rgI f 1 = [f] := by simp [rgI, List.range_succ]
theorem mem_rgI {f m k : Int} : k ∈ rgI f m ↔ f ≤ k ∧ k < f + m := by
  unfold rgI
  rw [List.mem_map]
  constructor
  · rintro ⟨i, hi, rfl⟩
    have := List.mem_range.mp hi
    omega
  · rintro ⟨h1, h2⟩
    exact ⟨(k - f).toNat, List.mem_range.mpr (by omega), by omega⟩
/-- one step of the stretches -/
def strStep (out : List (Int × Int)) (b : Int) : List (Int × Int) := match out.getLast? with
  | some (f, m) => if f + m = b then out.dropLast ++ [(f, m + 1)] else out ++ [(b, 1)]
  | none => out ++ [(b, 1)]
def strOf (ks : List Int) : List (Int × Int) := (ascOf ks).foldl strStep []
theorem strStep_snoc (qs : List (Int × Int)) (f m k : Int) : strStep (qs ++ [(f, m)]) k = if f + m = k then qs ++ [(f, m + 1)] else qs ++ [(f, m)] ++ [(k, 1)] := by
  unfold strStep
  rw [List.getLast?_concat]
  simp only [List.dropLast_concat]
theorem strStep_len : ∀ (l : List Int) (out : List (Int × Int)), (l.foldl strStep out).length ≤ out.length + l.length
  | [], _ => Nat.le_refl _
  | b :: l, out => by
    have ih := strStep_len l (strStep out b)
    have h1 : (strStep out b).length ≤ out.length + 1 := by
      unfold strStep
      split
      · split
        · simp only [List.length_append, List.length_dropLast, List.length_cons, List.length_nil]
          omega
        · simp
      · simp
    simp only [List.foldl_cons, List.length_cons]
    omega
/-- the blocks of some stretches -/
def catS (qs : List (Int × Int)) : List Int := qs.flatMap fun p => rgI p.1 p.2
theorem catS_snoc (qs : List (Int × Int)) (p : Int × Int) : catS (qs ++ [p]) = catS qs ++ rgI p.1 p.2 := by simp [catS]
/-- each begins beyond the end of the one ahead -/
def SepFrom : Option Int → List (Int × Int) → Prop
  | _, [] => True
  | o, (f, m) :: r => (∀ x, o = some x → x < f) ∧ SepFrom (some (f + m)) r
def endOf : Option Int → List (Int × Int) → Option Int
  | o, [] => o
  | _, (f, m) :: r => endOf (some (f + m)) r
theorem endOf_snoc : ∀ (o : Option Int) (qs : List (Int × Int)) (f m : Int), endOf o (qs ++ [(f, m)]) = some (f + m)
  | _, [], _, _ => rfl
  | _, (a, b) :: r, f, m => endOf_snoc (some (a + b)) r f m
theorem sep_snoc : ∀ (o : Option Int) (qs : List (Int × Int)) (f m : Int), SepFrom o (qs ++ [(f, m)]) ↔ SepFrom o qs ∧ ∀ x, endOf o qs = some x → x < f
  | o, [], f, m => by simp [SepFrom, endOf]
  | o, (a, b) :: r, f, m => by
    show ((∀ x, o = some x → x < a) ∧ SepFrom (some (a + b)) (r ++ [(f, m)])) ↔ ((∀ x, o = some x → x < a) ∧ SepFrom (some (a + b)) r) ∧ ∀ x, endOf (some (a + b)) r = some x → x < f
    rw [sep_snoc (some (a + b)) r f m, and_assoc]
/-- what stretches of l are -/
structure StrOk (l : List Int) (qs : List (Int × Int)) : Prop where
  cat : catS qs = l
  pos : ∀ p ∈ qs, 1 ≤ p.2
  sep : SepFrom none qs
theorem strOk_step {l : List Int} {qs : List (Int × Int)} {b : Int} (h : StrOk l qs) (hb : ∀ x ∈ l, x < b) : StrOk (l ++ [b]) (strStep qs b) := by
  rcases List.eq_nil_or_concat qs with rfl | ⟨rs, ⟨f, m⟩, rfl⟩
  · have e : l = [] := h.cat.symm
    subst e
    exact ⟨by simp [strStep, catS, rgI_one], by simp [strStep], by simp [strStep, SepFrom]⟩
  · rw [List.concat_eq_append] at h ⊢
    rw [strStep_snoc]
    have m1 : 1 ≤ m := h.pos (f, m) (by simp)
    have s1 := (sep_snoc none rs f m).mp h.sep
    have c1 := h.cat
    rw [catS_snoc] at c1
    split
    · rename_i e
      refine ⟨?_, fun p hp => ?_, (sep_snoc none rs f (m + 1)).mpr s1⟩
      · rw [catS_snoc]
        show catS rs ++ rgI f (m + 1) = l ++ [b]
        rw [rgI_succ (by omega), ← List.append_assoc, c1, e]
      · rcases List.mem_append.mp hp with hp | hp
        · exact h.pos p (List.mem_append_left _ hp)
        · rw [List.mem_singleton.mp hp]
          show 1 ≤ m + 1
          omega
    · rename_i e
      have hlt : f + m - 1 < b := hb _ (by
        rw [← c1]
        exact List.mem_append_right _ (mem_rgI.mpr ⟨by show f ≤ f + m - 1; omega, by show f + m - 1 < f + m; omega⟩))
      refine ⟨?_, fun p hp => ?_, (sep_snoc none _ b 1).mpr ⟨h.sep, fun x hx => ?_⟩⟩
      · rw [catS_snoc, h.cat]
        show l ++ rgI b 1 = l ++ [b]
        rw [rgI_one]
      · rcases List.mem_append.mp hp with hp | hp
        · exact h.pos p hp
        · rw [List.mem_singleton.mp hp]
          exact Int.le_refl 1
      · rw [endOf_snoc] at hx
        have hx := Option.some.inj hx
        omega
theorem strOk_fold : ∀ (r l : List Int) (qs : List (Int × Int)), StrOk l qs → (l ++ r).Pairwise (· < ·) → StrOk (l ++ r) (r.foldl strStep qs)
  | [], l, qs, h, _ => by simpa using h
  | b :: r, l, qs, h, p => by
    have e : l ++ b :: r = (l ++ [b]) ++ r := by simp
    rw [e] at p ⊢
    refine strOk_fold r (l ++ [b]) _ (strOk_step h fun x hx => ?_) p
    have q := (List.pairwise_append.mp (List.pairwise_append.mp p).1).2.2
    exact q x hx b (List.mem_singleton_self b)
theorem strOk (ks : List Int) : StrOk (ascOf ks) (strOf ks) := by
  have h := strOk_fold (ascOf ks) [] [] ⟨rfl, fun p hp => by simp at hp, True.intro⟩ (by simpa using asc_asc ks)
  rw [List.nil_append] at h
  exact h
theorem catS_len_mem {qs : List (Int × Int)} {p : Int × Int} (h : p ∈ qs) : p.2.toNat ≤ (catS qs).length := by
  induction qs with
  | nil => simp at h
  | cons q r ih =>
    have e : catS (q :: r) = rgI q.1 q.2 ++ catS r := by simp [catS]
    rw [e, List.length_append, rgI_len]
    rcases List.mem_cons.mp h with rfl | h
    · omega
    · have := ih h
      omega
end Lt
namespace Lt
theorem sep_take : ∀ {o : Option Int} {qs : List (Int × Int)} {i : Nat} {f m : Int}, SepFrom o qs → qs[i]? = some (f, m) → ∀ x, endOf o (qs.take i) = some x → x < f
  | _, [], _, _, _, _, e => by simp at e
  | o, (a, b) :: r, 0, f, m, h, e => by
    have e1 : (a, b) = (f, m) := Option.some.inj (by simpa using e)
    cases e1
    exact h.1
  | o, (a, b) :: r, i + 1, f, m, h, e => by
    have e1 : r[i]? = some (f, m) := by simpa using e
    exact sep_take (o := some (a + b)) h.2 e1
theorem catS_mem {qs : List (Int × Int)} {p : Int × Int} {k : Int} (h : p ∈ qs) (h1 : p.1 ≤ k) (h2 : k < p.1 + p.2) : k ∈ catS qs := by
  unfold catS
  exact List.mem_flatMap.mpr ⟨p, h, mem_rgI.mpr ⟨h1, h2⟩⟩
theorem catS_take_len (qs : List (Int × Int)) (i : Nat) : (catS (qs.take i)).length ≤ (catS qs).length := by
  have e : catS qs = catS (qs.take i) ++ catS (qs.drop i) := by
    unfold catS
    rw [← List.flatMap_append, List.take_append_drop]
  rw [e, List.length_append]
  omega
end Lt
/-! == of data: whole numbers, texts, None, lists and tuples of these (no truths within) -/
namespace Lt
open PySem PySem.Spec PyProof.Rows L2
mutual
/-- no truths, no dicts; texts that can stand -/
def tidy : PyData → Bool
  | .none => true
  | .int _ => true
  | .str x => PyData.canLay0 (.str x)
  | .list xs => tidyAll xs
  | .tuple xs => tidyAll xs
  | _ => false
def tidyAll : List PyData → Bool
  | [] => true
  | x :: xs => tidy x && tidyAll xs
end
mutual
theorem tidy_lay : ∀ d : PyData, tidy d = true → d.canLay0 = true
  | .none, _ => rfl
  | .int _, _ => rfl
  | .str _, h => by simpa [tidy] using h
  | .list xs, h => by
    rw [PyData.canLay0]
    exact tidy_layAll xs (by simpa [tidy] using h)
  | .tuple xs, h => by
    rw [PyData.canLay0]
    exact tidy_layAll xs (by simpa [tidy] using h)
  | .bool _, h => by simp [tidy] at h
  | .dict _, h => by simp [tidy] at h
theorem tidy_layAll : ∀ xs : List PyData, tidyAll xs = true → PyData.canLayAll0 xs = true
  | [], _ => rfl
  | x :: xs, h => by
    have h2 : tidy x = true ∧ tidyAll xs = true := by simpa [tidyAll] using h
    rw [PyData.canLayAll0, tidy_lay x h2.1, tidy_layAll xs h2.2]
    rfl
end
mutual
theorem eqv_of : ∀ d e : PyData, tidy d = true → PyData.eqv d e = true → tidy e = true → d = e
  | .none, .none, _, _, _ => rfl
  | .int i, .int j, _, h, _ => by
    simp only [PyData.eqv, beq_iff_eq] at h
    rw [h]
  | .str x, .str y, _, h, _ => by
    simp only [PyData.eqv, beq_iff_eq] at h
    rw [h]
  | .list xs, .list ys, h1, h, h2 => by
    rw [eqv_ofAll xs ys (by simpa [tidy] using h1) (by simpa [PyData.eqv] using h) (by simpa [tidy] using h2)]
  | .tuple xs, .tuple ys, h1, h, h2 => by
    rw [eqv_ofAll xs ys (by simpa [tidy] using h1) (by simpa [PyData.eqv] using h) (by simpa [tidy] using h2)]
  | .bool _, _, h, _, _ => by simp [tidy] at h
  | .dict _, _, h, _, _ => by simp [tidy] at h
  | .none, .int _, _, h, _ => by simp [PyData.eqv] at h
  | .none, .str _, _, h, _ => by simp [PyData.eqv] at h
  | .none, .list _, _, h, _ => by simp [PyData.eqv] at h
  | .none, .tuple _, _, h, _ => by simp [PyData.eqv] at h
  | .none, .bool _, _, _, h => by simp [tidy] at h
  | .none, .dict _, _, _, h => by simp [tidy] at h
  | .int _, .none, _, h, _ => by simp [PyData.eqv] at h
  | .int _, .str _, _, h, _ => by simp [PyData.eqv] at h
  | .int _, .list _, _, h, _ => by simp [PyData.eqv] at h
  | .int _, .tuple _, _, h, _ => by simp [PyData.eqv] at h
  | .int _, .bool _, _, _, h => by simp [tidy] at h
  | .int _, .dict _, _, _, h => by simp [tidy] at h
  | .str _, .none, _, h, _ => by simp [PyData.eqv] at h
  | .str _, .int _, _, h, _ => by simp [PyData.eqv] at h
  | .str _, .list _, _, h, _ => by simp [PyData.eqv] at h
  | .str _, .tuple _, _, h, _ => by simp [PyData.eqv] at h
  | .str _, .bool _, _, _, h => by simp [tidy] at h
  | .str _, .dict _, _, _, h => by simp [tidy] at h
  | .list _, .none, _, h, _ => by simp [PyData.eqv] at h
  | .list _, .int _, _, h, _ => by simp [PyData.eqv] at h
  | .list _, .str _, _, h, _ => by simp [PyData.eqv] at h
  | .list _, .tuple _, _, h, _ => by simp [PyData.eqv] at h
  | .list _, .bool _, _, _, h => by simp [tidy] at h
  | .list _, .dict _, _, _, h => by simp [tidy] at h
  | .tuple _, .none, _, h, _ => by simp [PyData.eqv] at h
  | .tuple _, .int _, _, h, _ => by simp [PyData.eqv] at h
  | .tuple _, .str _, _, h, _ => by simp [PyData.eqv] at h
  | .tuple _, .list _, _, h, _ => by simp [PyData.eqv] at h
  | .tuple _, .bool _, _, _, h => by simp [tidy] at h
  | .tuple _, .dict _, _, _, h => by simp [tidy] at h
theorem eqv_ofAll : ∀ xs ys : List PyData, tidyAll xs = true → PyData.eqvAll xs ys = true → tidyAll ys = true → xs = ys
  | [], [], _, _, _ => rfl
  | x :: xs, y :: ys, h1, h, h2 => by
    have a : tidy x = true ∧ tidyAll xs = true := by simpa [tidyAll] using h1
    have b : PyData.eqv x y = true ∧ PyData.eqvAll xs ys = true := by simpa [PyData.eqvAll] using h
    have c : tidy y = true ∧ tidyAll ys = true := by simpa [tidyAll] using h2
    rw [eqv_of x y a.1 b.1 c.1, eqv_ofAll xs ys a.2 b.2 c.2]
  | [], _ :: _, _, h, _ => by simp [PyData.eqvAll] at h
  | _ :: _, [], _, h, _ => by simp [PyData.eqvAll] at h
end
theorem eqv_true {d : PyData} (h : tidy d = true) : PyData.eqv d d = true := SeqAt.eqv_refl d (tidy_lay d h)
theorem eqv_false {d e : PyData} (h1 : tidy d = true) (h2 : tidy e = true) (n : d ≠ e) : PyData.eqv d e = false := by
  cases h : PyData.eqv d e with
  | false => rfl
  | true => exact absurd (eqv_of d e h1 h h2) n
theorem shaped_of {d : PyData} (h1 : tidy d = true) (h2 : d.depth ≤ 64) : SeqAt.shaped d = true := by
  unfold SeqAt.shaped
  rw [tidy_lay d h1, decide_eq_true h2]
  rfl
/-! the shapes one meets -/
theorem tidy_ints : ∀ ks : List Int, tidyAll (ks.map PyData.int) = true
  | [] => rfl
  | _ :: r => by simp [tidyAll, tidy, tidy_ints r]
theorem depth_map {α : Type} {f : α → PyData} {n : Nat} (h : ∀ a, (f a).depth ≤ n) : ∀ ks : List α, PyData.depthAll (ks.map f) ≤ n
  | [] => Nat.zero_le _
  | a :: r => by
    have h1 := h a
    have h2 := depth_map h r
    simp only [List.map_cons, PyData.depthAll]
    omega
theorem tidy_map {α : Type} {f : α → PyData} (h : ∀ a, tidy (f a) = true) : ∀ ks : List α, tidyAll (ks.map f) = true
  | [] => rfl
  | a :: r => by simp [tidyAll, h a, tidy_map h r]
theorem map_inj {α β : Type} {f : α → β} (h : ∀ a b, f a = f b → a = b) : ∀ {xs ys : List α}, xs.map f = ys.map f → xs = ys
  | [], [], _ => rfl
  | [], _ :: _, e => by simp at e
  | _ :: _, [], e => by simp at e
  | a :: r, b :: t, e => by
    simp only [List.map_cons, List.cons.injEq] at e
    rw [h a b e.1, map_inj h e.2]
/-- a shape: how data of α look -/
structure Shp (α : Type) (f : α → PyData) (n : Nat) : Prop where
  ti : ∀ a, tidy (f a) = true
  dp : ∀ a, (f a).depth ≤ n
  inj : ∀ a b, f a = f b → a = b
theorem shp_int : Shp Int PyData.int 0 := ⟨fun _ => rfl, fun _ => by simp [PyData.depth], fun _ _ e => by injection e⟩
theorem shp_list {α : Type} {f : α → PyData} {n : Nat} (S : Shp α f n) : Shp (List α) (fun xs => .list (xs.map f)) (n + 1) :=
  ⟨fun xs => by simpa [tidy] using tidy_map S.ti xs, fun xs => by
    have := depth_map S.dp xs
    simp only [PyData.depth]
    omega, fun xs ys e => map_inj S.inj (by injection e)⟩
def dPair (p : Int × Int) : PyData := .tuple [.int p.1, .int p.2]
theorem shp_pair : Shp (Int × Int) dPair 1 := ⟨fun _ => rfl, fun _ => by simp [dPair, PyData.depth, PyData.depthAll], fun a b e => by
  unfold dPair at e
  injection e with e
  injection e with e1 e
  injection e with e2 _
  injection e1 with e1
  injection e2 with e2
  exact Prod.ext e1 e2⟩
theorem shp_tup {α : Type} {f : α → PyData} {n : Nat} (S : Shp α f n) : Shp (List α) (fun xs => .tuple (xs.map f)) (n + 1) :=
  ⟨fun xs => by simpa [tidy] using tidy_map S.ti xs, fun xs => by
    have := depth_map S.dp xs
    simp only [PyData.depth]
    omega, fun xs ys e => map_inj S.inj (by injection e)⟩
section
variable {K : PySem.W.Frag} {H : Hp} {Q : VK} {a b : Addr} {x y : V}
theorem dp_all {α : Type} {f : α → PyData} {R : V → α → Prop} (h : ∀ x p, R x p → Dp K H x (f p)) : ∀ {xs : List V} {ps : List α}, AllR R xs ps → DpAll K H xs (ps.map f)
  | [], [], _ => .nil
  | [], _ :: _, z => z.elim
  | _ :: _, [], z => z.elim
  | x :: xs, p :: ps, z => .cons (h x p z.1) (dp_all h z.2)
theorem dp_intsA : ∀ ks : List Int, DpAll K H (ks.map V.int) (ks.map PyData.int)
  | [] => .nil
  | k :: r => .cons (.int k) (dp_intsA r)
theorem dp_ints {ks : List Int} (h : SqL K H a (ks.map V.int)) : Dp K H (.ref a) (.list (ks.map PyData.int)) := .lst h (dp_intsA ks)
theorem dp_pair (x : V) (p : Int × Int) (h : PairAt H x p) : Dp K H x (dPair p) := by
  obtain ⟨t, rfl, ht⟩ := h
  exact .tup (SqT.of ht) (.cons (.int _) (.cons (.int _) .nil))
theorem dp_pairs {xs : List V} {ps : List (Int × Int)} (h1 : H a = some (.lst xs)) (h2 : Pairs H xs ps) : Dp K H (.ref a) (.list (ps.map dPair)) := .lst (SqL.of h1) (dp_all dp_pair h2)
/-- == of two things of one shape -/
theorem k_eqD {α : Type} {f : α → PyData} {n : Nat} (S : Shp α f n) (hn : n ≤ 64) {p q : α} [Decidable (p = q)] (h1 : Dp K H x (f p)) (h2 : Dp K H y (f q)) (h : Q (.bl (decide (p = q))) H) : rEqD K x y H Q := by
  refine ⟨f p, f q, h1, h2, shaped_of (S.ti p) (Nat.le_trans (S.dp p) hn), shaped_of (S.ti q) (Nat.le_trans (S.dp q) hn), ?_⟩
  by_cases e : p = q
  · rw [decide_eq_true e] at h
    rw [e, eqv_true (S.ti q)]
    exact h
  · rw [decide_eq_false e] at h
    rw [eqv_false (S.ti p) (S.ti q) fun z => e (S.inj _ _ z)]
    exact h
theorem k_neD {α : Type} {f : α → PyData} {n : Nat} (S : Shp α f n) (hn : n ≤ 64) {p q : α} [Decidable (p = q)] (h1 : Dp K H x (f p)) (h2 : Dp K H y (f q)) (h : Q (.bl (!decide (p = q))) H) : rNeD K x y H Q := by
  refine ⟨f p, f q, h1, h2, shaped_of (S.ti p) (Nat.le_trans (S.dp p) hn), shaped_of (S.ti q) (Nat.le_trans (S.dp q) hn), ?_⟩
  by_cases e : p = q
  · rw [decide_eq_true e] at h
    rw [e, eqv_true (S.ti q)]
    exact h
  · rw [decide_eq_false e] at h
    rw [eqv_false (S.ti p) (S.ti q) fun z => e (S.inj _ _ z)]
    exact h
theorem k_eqI {ks js : List Int} (h1 : SqL K H a (ks.map V.int)) (h2 : SqL K H b (js.map V.int)) (h : Q (.bl (decide (ks = js))) H) : rEqD K (.ref a) (.ref b) H Q :=
  k_eqD (shp_list shp_int) (by decide) (dp_ints h1) (dp_ints h2) h
theorem k_neI {ks js : List Int} (h1 : SqL K H a (ks.map V.int)) (h2 : SqL K H b (js.map V.int)) (h : Q (.bl (!decide (ks = js))) H) : rNeD K (.ref a) (.ref b) H Q :=
  k_neD (shp_list shp_int) (by decide) (dp_ints h1) (dp_ints h2) h
theorem k_eqP {xs ys : List V} {ps qs : List (Int × Int)} (h1 : H a = some (.lst xs)) (h3 : Pairs H xs ps) (h2 : H b = some (.lst ys)) (h4 : Pairs H ys qs) (h : Q (.bl (decide (ps = qs))) H) : rEqD K (.ref a) (.ref b) H Q :=
  k_eqD (shp_list shp_pair) (by decide) (dp_pairs h1 h3) (dp_pairs h2 h4) h
theorem k_neP {xs ys : List V} {ps qs : List (Int × Int)} (h1 : H a = some (.lst xs)) (h3 : Pairs H xs ps) (h2 : H b = some (.lst ys)) (h4 : Pairs H ys qs) (h : Q (.bl (!decide (ps = qs))) H) : rNeD K (.ref a) (.ref b) H Q :=
  k_neD (shp_list shp_pair) (by decide) (dp_pairs h1 h3) (dp_pairs h2 h4) h
theorem rgV_eq (a b : Int) : rgV a b = (rgI a (b - a)).map V.int := by
  unfold rgV rgI
  rw [List.map_map]
  rfl
end
end Lt
/-! tactics: rd a step, go steps, hp an object of the heap -/
local macro_rules | `(tactic| walk_at "ne") => `(tactic| first
  | assumption
  | (apply Ne.symm; assumption)
  | exact L2.ne_of_none (by assumption) (by assumption)
  | exact Ne.symm (L2.ne_of_none (by assumption) (by assumption)))
local macro_rules | `(tactic| walk_at "hp") => `(tactic| first
  | assumption
  | exact L2.upd_same
  | exact L2.SqL.of L2.upd_same
  | exact L2.SqT.of L2.upd_same
  | exact L2.SqL.of (by assumption)
  | exact L2.SqT.of (by assumption)
  | exact Lt.ne_upd (by walk_at "ne") (by assumption)
  | exact Lt.ne_upd (by walk_at "ne") L2.upd_same)
local macro_rules | `(tactic| walk_at "ic") => `(tactic| first
  | assumption
  | exact ⟨by decide, by decide, by decide⟩
  | exact ⟨by decide, by decide⟩
  | exact Or.inl ⟨by decide, by decide⟩
  | exact Or.inr ⟨by decide, by decide⟩
  | exact Or.inl ⟨by omega, by omega⟩
  | exact Or.inr ⟨by omega, by omega⟩
  | (show (0 : Int) < _; first | decide | omega)
  | exact ⟨by omega, by omega⟩)
local macro_rules | `(tactic| walk_at "sz") => `(tactic| exact Lt.sz (by first | decide | (simp only [List.length_cons, List.length_nil]; decide)))
local macro_rules | `(tactic| walk_at "ty") => `(tactic| first
  | exact L2.TyX.base (L2.TyOf.int _)
  | exact L2.TyX.base (L2.TyOf.bl _)
  | exact L2.TyX.base (L2.TyOf.str _)
  | exact L2.TyX.base L2.TyOf.non
  | exact L2.TyX.base (L2.TyOf.lst (by walk_at "hp"))
  | exact L2.TyX.base (L2.TyOf.tup (by walk_at "hp"))
  | exact L2.TyX.base (L2.TyOf.dK (by walk_at "hp"))
  | exact L2.TyX.base (L2.TyOf.dT (by walk_at "hp")))
local macro_rules | `(tactic| walk_at "isi") => `(tactic| first
  | exact Lt.isi_ii | exact Lt.isi_ib | exact Lt.isi_bi | exact Lt.isi_bb | exact Lt.isi_is | exact Lt.isi_si | exact Lt.isi_ss | exact Lt.isi_ll | exact Lt.isi_tt | exact Lt.isi_lt | exact Lt.isi_tl | exact Lt.isi_ni | exact Lt.isi_dd)
local macro_rules | `(tactic| walk_at "om") => `(tactic| first
  | omega
  | (simp only [List.length_append, List.length_cons, List.length_nil, List.length_map, List.length_replicate] at *; omega))
local macro_rules | `(tactic| walk_at "rd") => `(tactic| first
  | (with_reducible refine Lt.k_seq ?_)
  | (with_reducible refine Lt.k_next ?_)
  | (with_reducible refine Lt.k_c ?_)
  | (with_reducible refine Lt.k_op ?_)
  | (with_reducible refine Lt.k_I0 ?_)
  | (with_reducible refine Lt.k_ifS ?_)
  | (with_reducible refine Lt.k_tst ?_)
  | (with_reducible refine Lt.k_tB ?_)
  | (with_reducible refine Lt.k_asg ?_)
  | (with_reducible refine Lt.k_gName ?_)
  | (with_reducible refine Lt.k_gSub ?_)
  | (with_reducible refine Lt.k_cb ?_)
  | (with_reducible refine Lt.k_cons ?_)
  | (with_reducible refine Lt.k_nil ?_)
  | (with_reducible refine Lt.k_call ?_)
  | (with_reducible refine Lt.k_ret ?_)
  | (with_reducible refine Lt.k_drop ?_)
  | (with_reducible refine Lt.k_lst ?_)
  | (with_reducible refine Lt.k_tup ?_)
  | (with_reducible refine Lt.k_and ?_)
  | (with_reducible refine Lt.k_or ?_)
  | (with_reducible refine Lt.k_not ?_)
  | (with_reducible refine Lt.k_andV ?_)
  | (with_reducible refine Lt.k_orV ?_)
  | (with_reducible refine Lt.k_notV ?_)
  | (with_reducible refine Lt.k_ifE ?_)
  | (with_reducible refine Lt.k_augS ?_)
  | (with_reducible refine Lt.k_ipI ?_)
  | (with_reducible refine Lt.k_un ?_)
  | (with_reducible refine Lt.k_U ?_)
  | (with_reducible refine Lt.k_sl ?_)
  | (with_reducible refine Lt.k_noPart ?_)
  | (with_reducible refine Lt.k_part ?_)
  | (with_reducible refine Lt.k_for ?_)
  | (with_reducible refine Lt.k_iL ?_)
  | (with_reducible refine Lt.k_iT ?_)
  | (with_reducible refine Lt.k_iR1 ?_)
  | (with_reducible refine Lt.k_iR2 ?_)
  | (with_reducible refine Lt.k_lc ?_)
  | (with_reducible refine Lt.k_yes ?_)
  | (with_reducible refine Lt.k_bm ?_)
  | (with_reducible refine Lt.k_bm0 ?_)
  | ((with_reducible refine' Lt.k_tyL ?h1 ?_); (case h1 => walk_at "hp"))
  | ((with_reducible refine' Lt.k_app ?h1 ?h2 ?_); (case h1 => walk_at "hp"); (case h2 => walk_at "om"))
  | (with_reducible refine Lt.k_lstRg ?_)
  | (with_reducible refine Lt.k_rg1 ?_)
  | (with_reducible refine Lt.k_rg2 ?_)
  | ((with_reducible refine' Lt.k_tup1 ?h1 ?h2 ?_); (case h1 => walk_at "hp"); (case h2 => exact rfl))
  | (with_reducible refine Lt.k_rfl ?_)
  | (with_reducible refine Lt.k_ite0 ?_)
  | (with_reducible refine Lt.k_ite1 ?_)
  | (with_reducible refine Lt.k_iteN1 ?_)
  | (with_reducible refine Lt.k_iteN0 ?_)
  | (with_reducible refine Lt.k_gCons ?_)
  | (with_reducible refine Lt.k_gNil ?_)
  | ((with_reducible refine' Lt.k_var ?h1 ?_); (case h1 => exact rfl))
  | ((with_reducible refine' Lt.k_I ?hc ?_); (case hc => walk_at "ic"))
  | ((with_reducible refine' Lt.k_isi ?ht ?hk ?_); (case ht => walk_at "ty"); (case hk => walk_at "isi"))
  | (with_reducible refine Lt.k_callN ?_)
  | ((with_reducible refine' Lt.k_aug ?h1 ?_); (case h1 => exact rfl))
  | ((with_reducible refine' Lt.k_eqV ?h1 ?_); (case h1 => exact rfl))
  | ((with_reducible refine' Lt.k_neV ?h1 ?_); (case h1 => exact rfl))
  | ((with_reducible refine' Lt.k_ixL ?h1 ?h2 ?_); (case h1 => walk_at "hp"); (case h2 => first | exact rfl | exact L2.atI_last _ _))
  | ((with_reducible refine' Lt.k_ixT ?h1 ?h2 ?_); (case h1 => walk_at "hp"); (case h2 => exact rfl))
  | ((with_reducible refine' Lt.k_getL ?h1 ?h0 ?h2 ?_); (case h1 => walk_at "hp"); (case h0 => decide); (case h2 => exact rfl))
  | ((with_reducible refine' Lt.k_setL ?h1 ?h2 ?_); (case h1 => walk_at "hp"); (case h2 => first | exact rfl | exact Lt.ixN_last _ _))
  | ((with_reducible refine' Lt.k_wipe ?h1 ?_); (case h1 => exact rfl))
  | ((with_reducible refine' ⟨_, _, rfl, Or.inl ?h1, ?_⟩); (case h1 => walk_at "hp"))
  | ((with_reducible refine' ⟨_, _, rfl, Or.inr ?h1, ?_⟩); (case h1 => walk_at "hp"))
  | (with_reducible refine ⟨_, rfl, ?_⟩)
  | (with_reducible refine ⟨_, _, rfl, rfl, ?_⟩)
  | (with_reducible refine Lt.k_iteE ?_)
  | (with_reducible refine Lt.k_iteNE ?_)
  | ((with_reducible refine' Lt.k_iteT ?h1 ?_); (case h1 => first | decide | (simp; done)))
  | ((with_reducible refine' Lt.k_iteF ?h1 ?_); (case h1 => first | decide | (simp; done)))
  | ((with_reducible refine' Lt.k_iteD1 ?h1 ?_); (case h1 => walk_at "om"))
  | ((with_reducible refine' Lt.k_iteD2 ?h1 ?_); (case h1 => walk_at "om"))
  | ((with_reducible refine' Lt.k_iteNN ?h1 ?_); (case h1 => (intro z; cases z)))
  | ((with_reducible refine' Lt.k_iteD2 ?h1 ?_); (case h1 => (intro z; cases z)))
  | refine ⟨rfl, rfl, ?_⟩)
local macro_rules | `(tactic| walk_at "go") => `(tactic| ((repeat walk_at "rd"); try dsimp only))
namespace K01
open PySem PySem.Spec PyProof.Rows L2 Lt
def topS (i : Nat) : Stmt := PySem.Challenge.pw_latestow_k01_stretches.main.body.getD i (.Pass ⟨0, 0, 0, 0⟩)
abbrev s_stretches : Stmt := topS 1
abbrev N_stretches : List Str := ["blocks", "out", "block"]
theorem sc_stretches : FnScope N_stretches ["blocks"] (defScope s_stretches) := ⟨rfl, rfl, rfl, by decide +kernel, rfl, by decide +kernel, by decide +kernel⟩
abbrev s_law_bag : Stmt := topS 3
abbrev N_law_bag : List Str := ["_law_script"]
theorem sc_law_bag : FnScope N_law_bag ["_law_script"] (defScope s_law_bag) := ⟨rfl, rfl, rfl, by decide +kernel, rfl, by decide +kernel, by decide +kernel⟩
abbrev s_law_pull : Stmt := topS 4
abbrev N_law_pull : List Str := ["_law_bag_here", "_law_top", "_law_cell", "_law_got"]
theorem sc_law_pull : FnScope N_law_pull ["_law_bag_here", "_law_top"] (defScope s_law_pull) := ⟨rfl, rfl, rfl, by decide +kernel, rfl, by decide +kernel, by decide +kernel⟩
abbrev s_law_int : Stmt := topS 5
abbrev N_law_int : List Str := ["_law_one"]
theorem sc_law_int : FnScope N_law_int ["_law_one"] (defScope s_law_int) := ⟨rfl, rfl, rfl, by decide +kernel, rfl, by decide +kernel, by decide +kernel⟩
abbrev s_law_rows : Stmt := topS 6
abbrev N_law_rows : List Str := ["_law_told", "_law_size", "_law_row", "_law_one"]
theorem sc_law_rows : FnScope N_law_rows ["_law_told", "_law_size"] (defScope s_law_rows) := ⟨rfl, rfl, rfl, by decide +kernel, rfl, by decide +kernel, by decide +kernel⟩
abbrev s_law_holds : Stmt := topS 7
abbrev N_law_holds : List Str := ["_law_told", "_law_blocks", "_law_due", "_law_out", "_law_last", "_law_first", "_law_many"]
theorem sc_law_holds : FnScope N_law_holds ["_law_told", "_law_blocks"] (defScope s_law_holds) := ⟨rfl, rfl, rfl, by decide +kernel, rfl, by decide +kernel, by decide +kernel⟩
abbrev s_law : Stmt := topS 8
abbrev N_law : List Str := ["_law_script", "_law_bag_here", "_law_most", "_law_blocks", "_law_first", "_law_kept", "_law_told", "_law_k"]
theorem sc_law : FnScope N_law ["_law_script"] (defScope s_law) := ⟨rfl, rfl, rfl, by decide +kernel, rfl, by decide +kernel, by decide +kernel⟩
structure Txt (K : PySem.W.Frag) (mg : Str → Option Value) where
  f_stretches : Addr
  d_stretches : FuncData
  F_stretches : FunD K "stretches" "stretches" (defArgs s_stretches) (defBody s_stretches) (defScope s_stretches) [] [] f_stretches d_stretches
  g_stretches : mg "stretches" = some (.ref f_stretches)
  f_law_bag : Addr
  d_law_bag : FuncData
  F_law_bag : FunD K "_law_bag" "_law_bag" (defArgs s_law_bag) (defBody s_law_bag) (defScope s_law_bag) [] [] f_law_bag d_law_bag
  g_law_bag : mg "_law_bag" = some (.ref f_law_bag)
  f_law_pull : Addr
  d_law_pull : FuncData
  F_law_pull : FunD K "_law_pull" "_law_pull" (defArgs s_law_pull) (defBody s_law_pull) (defScope s_law_pull) [] [] f_law_pull d_law_pull
  g_law_pull : mg "_law_pull" = some (.ref f_law_pull)
  f_law_int : Addr
  d_law_int : FuncData
  F_law_int : FunD K "_law_int" "_law_int" (defArgs s_law_int) (defBody s_law_int) (defScope s_law_int) [] [] f_law_int d_law_int
  g_law_int : mg "_law_int" = some (.ref f_law_int)
  f_law_rows : Addr
  d_law_rows : FuncData
  F_law_rows : FunD K "_law_rows" "_law_rows" (defArgs s_law_rows) (defBody s_law_rows) (defScope s_law_rows) [] [] f_law_rows d_law_rows
  g_law_rows : mg "_law_rows" = some (.ref f_law_rows)
  f_law_holds : Addr
  d_law_holds : FuncData
  F_law_holds : FunD K "_law_holds" "_law_holds" (defArgs s_law_holds) (defBody s_law_holds) (defScope s_law_holds) [] [] f_law_holds d_law_holds
  g_law_holds : mg "_law_holds" = some (.ref f_law_holds)
  f_law : Addr
  d_law : FuncData
  F_law : FunD K "law" "law" (defArgs s_law) (defBody s_law) (defScope s_law) [] [] f_law d_law
  g_law : mg "law" = some (.ref f_law)
  z_all : mg "all" = none
  z_bool : mg "bool" = none
  z_int : mg "int" = none
  z_isinstance : mg "isinstance" = none
  z_len : mg "len" = none
  z_list : mg "list" = none
  z_range : mg "range" = none
  z_set : mg "set" = none
  z_sorted : mg "sorted" = none
  z_tuple : mg "tuple" = none
theorem Txt.b_stretches {K : PySem.W.Frag} {mg : Str → Option Value} (T : Txt K mg) : Binds K T.d_stretches ["blocks"] [] := T.F_stretches.bindsN fun _ _ _ _ _ _ us hl => match us, hl with | [_], _ => rfl
theorem Txt.k_stretches {K : PySem.W.Frag} {mg : Str → Option Value} (T : Txt K mg) : PySem.W.keepIn K (.ref T.f_stretches) = true := T.F_stretches.kp
theorem Txt.b_law_bag {K : PySem.W.Frag} {mg : Str → Option Value} (T : Txt K mg) : Binds K T.d_law_bag ["_law_script"] [] := T.F_law_bag.bindsN fun _ _ _ _ _ _ us hl => match us, hl with | [_], _ => rfl
theorem Txt.k_law_bag {K : PySem.W.Frag} {mg : Str → Option Value} (T : Txt K mg) : PySem.W.keepIn K (.ref T.f_law_bag) = true := T.F_law_bag.kp
theorem Txt.b_law_pull {K : PySem.W.Frag} {mg : Str → Option Value} (T : Txt K mg) : Binds K T.d_law_pull ["_law_bag_here", "_law_top"] [] := T.F_law_pull.bindsN fun _ _ _ _ _ _ us hl => match us, hl with | [_, _], _ => rfl
theorem Txt.k_law_pull {K : PySem.W.Frag} {mg : Str → Option Value} (T : Txt K mg) : PySem.W.keepIn K (.ref T.f_law_pull) = true := T.F_law_pull.kp
theorem Txt.b_law_int {K : PySem.W.Frag} {mg : Str → Option Value} (T : Txt K mg) : Binds K T.d_law_int ["_law_one"] [] := T.F_law_int.bindsN fun _ _ _ _ _ _ us hl => match us, hl with | [_], _ => rfl
theorem Txt.k_law_int {K : PySem.W.Frag} {mg : Str → Option Value} (T : Txt K mg) : PySem.W.keepIn K (.ref T.f_law_int) = true := T.F_law_int.kp
theorem Txt.b_law_rows {K : PySem.W.Frag} {mg : Str → Option Value} (T : Txt K mg) : Binds K T.d_law_rows ["_law_told", "_law_size"] [] := T.F_law_rows.bindsN fun _ _ _ _ _ _ us hl => match us, hl with | [_, _], _ => rfl
theorem Txt.k_law_rows {K : PySem.W.Frag} {mg : Str → Option Value} (T : Txt K mg) : PySem.W.keepIn K (.ref T.f_law_rows) = true := T.F_law_rows.kp
theorem Txt.b_law_holds {K : PySem.W.Frag} {mg : Str → Option Value} (T : Txt K mg) : Binds K T.d_law_holds ["_law_told", "_law_blocks"] [] := T.F_law_holds.bindsN fun _ _ _ _ _ _ us hl => match us, hl with | [_, _], _ => rfl
theorem Txt.k_law_holds {K : PySem.W.Frag} {mg : Str → Option Value} (T : Txt K mg) : PySem.W.keepIn K (.ref T.f_law_holds) = true := T.F_law_holds.kp
theorem Txt.b_law {K : PySem.W.Frag} {mg : Str → Option Value} (T : Txt K mg) : Binds K T.d_law ["_law_script"] [] := T.F_law.bindsN fun _ _ _ _ _ _ us hl => match us, hl with | [_], _ => rfl
theorem Txt.k_law {K : PySem.W.Frag} {mg : Str → Option Value} (T : Txt K mg) : PySem.W.keepIn K (.ref T.f_law) = true := T.F_law.kp
def sp_law (K : PySem.W.Frag) : Sp := fun vs H Q _ => ∃ (a : Addr) (ns : List Int), vs = [.ref a] ∧ SqL K H a (ns.map V.int) ∧ ns.length ≤ 63 ∧ ∀ H', Q (.bl true) H'
section
variable {P : Program} {w : World} {K : PySem.W.Frag} {mg : Str → Option Value} {base : Heap}
/-! the bag, a draw, is it a whole number -/
def sp_law_bag (K : PySem.W.Frag) : Sp := fun vs H Q _ => ∃ (a : Addr) (ns : List Int), vs = [.ref a] ∧ SqL K H a (ns.map V.int) ∧ ns.length ≤ 63 ∧ ∀ H' b l, Same H H' → H b = none → H l = none → Bag H' b l ns → Q (.ref b) H'
theorem cut63 (ns : List Int) (h : ns.length ≤ 63) : cutV (ns.map V.int) none (some 63) = ns.map V.int := by
  unfold cutV
  rw [HT.sIx_none, show HT.sIx (ns.map V.int).length (ns.map V.int).length (some 63) = min 63 (ns.map V.int).length from HT.sIx_nat _ _ 63, List.length_map, Nat.min_eq_right h]
  rw [List.drop_zero, Nat.sub_zero, show ns.length = (ns.map V.int).length from (List.length_map ..).symm, List.take_length]
theorem ok_law_bag (T : Txt K mg) : FnOk P w K mg base (L2.CX P w) 1 T.f_law_bag T.d_law_bag ["_law_script"] (sp_law_bag K) := by
  refine T.F_law_bag.ok sc_law_bag (fun vs H Q E h => ?_) (fun cdv A outer s H vs Q E hr h => ?_)
  · obtain ⟨a, ns, rfl, _⟩ := h
    rfl
  · obtain ⟨a, ns, rfl, hS, hl, q⟩ := h
    refine ⟨_, PSs.nox (pss_one (ps_ret (pe_lst (pa_cons (pe_callTy call_list_of (by rfl) T.z_list (by decide +kernel) (pa_cons (pe_slice sl_list (pv 0) po_none (po_some pe_int)) pa_nil)) (pa_cons pe_int (pa_cons pe_int (pa_cons pe_int pa_nil))))))), ?_⟩
    refine ⟨_, rfl, _, rfl, _, _, rfl, hS, fun c nc => ⟨c, _, rfl, .inl (SqL.of upd_same), fun l nl => ⟨(by show 4 ≤ sizeLine; decide), fun b nb => ?_⟩⟩⟩
    rw [cut63 ns hl] at nl nb ⊢
    have nlc : c ≠ l := ne_of_none upd_same nl
    have nbl : l ≠ b := ne_of_none upd_same nb
    have s1 := same_new (o := .lst (ns.map V.int)) nc
    have s2 := Same.new (o := .lst (ns.map V.int)) s1 nl
    refine q _ b l (Same.new s2 nb) (s2.free nb) (s1.free nl) ⟨0, 0, 7, by decide, upd_same, by rw [upd_ne nbl, upd_same], hl⟩
def sp_law_pull : Sp := fun vs H Q _ => ∃ (b l : Addr) (ns : List Int) (top : Int), vs = [.ref b, .int top] ∧ Bag H b l ns ∧ 0 < top ∧ top ≤ 1000000000000000000000000000000 ∧ ∀ H' v, 0 ≤ v → v < top → SameB b H H' → Bag H' b l ns → Q (.int v) H'
theorem ok_law_pull (T : Txt K mg) : FnOk P w K mg base (L2.CX P w) 1 T.f_law_pull T.d_law_pull ["_law_bag_here", "_law_top"] sp_law_pull := by
  refine T.F_law_pull.ok sc_law_pull (fun vs H Q E h => ?_) (fun cdv A outer s H vs Q E hr h => ?_)
  · obtain ⟨b, l, ns, top, rfl, _⟩ := h
    rfl
  · obtain ⟨b, l, ns, top, rfl, hB, h0, hT, q⟩ := h
    have hlb := hB.ne
    obtain ⟨i, r, z, hi, hb, hl, hn⟩ := hB
    refine ⟨_, PSs.nox (pss_cons (ps_if (pt_cmpR op_lt (pe_ix ix_list (pv 0) pe_int (fun _ _ => rfl)) pe_int (nomark _))
 (pss_cons (ps_set (i := 2) sc_law_pull.nd rfl (Or.inl rfl) pe_int)
 (pss_mid (ps_if (pt_cmpR op_lt (pe_ix ix_list (pv 0) pe_int (fun _ _ => rfl)) (pe_callB call_len_seq (by rfl) T.z_len (by decide +kernel) (pa_cons (pe_ix ix_list (pv 0) pe_int (fun _ _ => rfl)) pa_nil)) (nomark _))
 (pss_one (ps_set (i := 2) sc_law_pull.nd rfl (Or.inl rfl) (pe_ix ix_list (pe_ix ix_list (pv 0) pe_int (fun _ _ => rfl)) (pe_ix ix_list (pv 0) pe_int (fun _ _ => rfl)) (fun _ _ => rfl))))
 pss_nil)
 (pss_cons (ps_augL (pv 0) pe_int pe_int iop_add)
 (pss_cons (ps_if (pt_cmpR op_lt (pv 2) (pe_op op_pow pe_int pe_int) (nomark _))
 (pss_cons (ps_asg (pe_op op_mod (pe_op op_add (pe_op op_add (pe_op op_mul (pe_ix ix_list (pv 0) pe_int (fun _ _ => rfl)) pe_int) (pe_op op_mul (pv 2) pe_int)) pe_int) pe_int) (pg_sub (pv 0) pe_int set_list))
 (pss_one (ps_ret (pe_op op_mod (pe_op op_fdiv (pe_ix ix_list (pv 0) pe_int (fun _ _ => rfl)) pe_int) (pv 1)))))
 pss_nil)
 (pss_one (ps_asg (pe_op op_sub (pv 2) (pe_op op_pow pe_int pe_int)) (pg_sub (pv 0) pe_int set_list)))))))
 pss_nil)
 (pss_cons (ps_set (i := 3) sc_law_pull.nd rfl (Or.inl rfl) (pe_op op_mod (pe_ix ix_list (pv 0) pe_int (fun _ _ => rfl)) (pv 1)))
 (pss_cons (ps_asg (pe_op op_fdivW (pe_ix ix_list (pv 0) pe_int (fun _ _ => rfl)) (pv 1)) (pg_sub (pv 0) pe_int set_list))
 (pss_one (ps_ret (pv 3)))))), ?_⟩
    have hT' : CDivW r top := wide_div (b := 100) h0 (by omega) (by decide) (by decide)
    walk_at "go"
    refine k_iteD (fun hr1 => ?_) (fun hr1 => ?_)
    · walk_at "go"
      -- a cell is taken
      refine ⟨fun σ1 H1 => H1 = H ∧ ∃ c : Int, σ1 = [some (.ref b), some (.int top), some (.int c), none], ?_, ?_⟩
      · walk_at "go"
        refine k_iteD (fun h1 => ?_) (fun h1 => ?_)
        · obtain ⟨c, hc⟩ : ∃ c, ns[i.toNat]? = some c := by
            rw [List.length_map] at h1
            exact ⟨ns[i.toNat]'(by omega), List.getElem?_eq_getElem (by omega)⟩
          walk_at "go"
          refine k_ixL (v := .int c) (SqL.of hl) (at_of (j := i.toNat) (by omega) (by rw [List.getElem?_map, hc]; rfl)) ?_
          walk_at "go"
          exact ⟨rfl, c, rfl⟩
        · walk_at "go"
          exact ⟨rfl, 0, rfl⟩
      · rintro σ1 H1 ⟨rfl, c, rfl⟩
        walk_at "go"
        refine k_iteD (fun h2 => ?_) (fun h2 => ?_)
        · walk_at "go"
          have hne : l ≠ b := hlb
          refine q _ _ (Int.emod_nonneg _ (by omega)) (Int.emod_lt_of_pos _ h0) (SameB.upd (SameB.upd (SameB.refl b H1))) (Bag.mk (i := i + 1) (by omega) upd_same ?_ hn)
          rw [upd_ne hne, upd_ne hne]
          exact hl
        · walk_at "go"
          have hne : l ≠ b := hlb
          refine q _ _ (Int.emod_nonneg _ (by omega)) (Int.emod_lt_of_pos _ h0) (SameB.upd (SameB.upd (SameB.upd (SameB.refl b H1)))) (Bag.mk (i := i + 1) (by omega) upd_same ?_ hn)
          rw [upd_ne hne, upd_ne hne, upd_ne hne]
          exact hl
    · walk_at "go"
      refine q _ _ (Int.emod_nonneg _ (by omega)) (Int.emod_lt_of_pos _ h0) (SameB.upd (SameB.refl b H)) (Bag.mk hi upd_same ?_ hn)
      rw [upd_ne hlb]
      exact hl
theorem k_pull {b l : Addr} {ns : List Int} {top : Int} {H : Hp} {Q : VK} {E : XK} (hB : Bag H b l ns) (h0 : 0 < top) (h1 : top ≤ 1000000000000000000000000000000)
    (h : ∀ H' v, 0 ≤ v → v < top → SameB b H H' → Bag H' b l ns → Q (.int v) H') : sp_law_pull ([.ref b, .int top] ++ []) H Q E := ⟨b, l, ns, top, rfl, hB, h0, h1, h⟩
/-- [x, ..][pull(bag, n)]: ints between lo and hi -/
theorem k_menu {K : PySem.W.Frag} {b l : Addr} {ns : List Int} {i : Nat} {n : Int} {xs : List V} {σ : L2.St} {H : Hp} {Q : VK} {E : XK} (lo hi : Int) (hσ : σ[i]? = some (some (.ref b))) (hB : Bag H b l ns) (hn : n = (xs.length : Int)) (h0 : 0 < n) (hz : xs.length ≤ 1000)
    (hP : ∀ x ∈ xs, ∃ t, x = V.int t ∧ lo ≤ t ∧ t ≤ hi) (h : ∀ H' t, lo ≤ t → t ≤ hi → SameB b H H' → Bag H' b l ns → Q (.int t) H') :
    xs.length ≤ sizeLine ∧ ∀ p, H p = none → tCall sp_law_pull [] E (tCons (tVar i) (tCons (tC (.int n)) tNil)) σ (upd H p (.lst xs)) fun y H2 => rIxL K (.ref p) y H2 Q := by
  refine ⟨sz hz, fun p np => ⟨.ref b, hσ, ?_⟩⟩
  show sp_law_pull ([.ref b, .int n] ++ []) (upd H p (.lst xs)) (fun y H2 => rIxL K (.ref p) y H2 Q) E
  refine k_pull (hB.keep (same_new np)) h0 (by omega) fun H2 v v0 v1 b2 hB2 => ?_
  obtain ⟨t, e1, t0, t1⟩ := pull_pick lo hi v0 v1 hn hP
  have npb : p ≠ b := fun z => by
    obtain ⟨_, _, _, _, hb, _⟩ := hB
    rw [z, hb] at np
    cases np
  exact k_ixL (SqL.of (b2.get npb upd_same)) e1 (h _ t t0 t1 (fun c o nc hc => b2 c o nc (same_new np c o hc)) hB2)
theorem menu_in {xs : List V} {lo hi : Int} (h : xs.all (fun x => match x with | .int t => decide (lo ≤ t) && decide (t ≤ hi) | _ => false) = true) : ∀ x ∈ xs, ∃ t, x = V.int t ∧ lo ≤ t ∧ t ≤ hi := by
  intro x hx
  have q := List.all_eq_true.mp h x hx
  cases x with
  | int t =>
    simp only [Bool.and_eq_true, decide_eq_true_eq] at q
    exact ⟨t, rfl, q⟩
  | _ => cases q
def sp_law_int : Sp := fun vs H Q _ => ∃ (n : Int), vs = [.int n] ∧ Q (.bl true) H
theorem ok_law_int (T : Txt K mg) : FnOk P w K mg base (L2.CX P w) 1 T.f_law_int T.d_law_int ["_law_one"] sp_law_int := by
  refine T.F_law_int.ok sc_law_int (fun vs H Q E h => ?_) (fun cdv A outer s H vs Q E hr h => ?_)
  · obtain ⟨n, rfl, _⟩ := h
    rfl
  · obtain ⟨n, rfl, q⟩ := h
    refine ⟨_, PSs.nox (pss_one (ps_ret (pe_and (pe_callB call_isi (by rfl) T.z_isinstance (by decide +kernel) (pa_cons (pv 0) (pa_cons (pe_bltn (v := .ty "int") (by rfl) T.z_int (by decide +kernel) rfl) pa_nil))) (pe_one (pe_not (pe_callB call_isi (by rfl) T.z_isinstance (by decide +kernel) (pa_cons (pv 0) (pa_cons (pe_bltn (v := .ty "bool") (by rfl) T.z_bool (by decide +kernel) rfl) pa_nil)))))))), ?_⟩
    walk_at "go"
    exact q
/-- a list of tuples of so many whole numbers -/
def IsRows (H : Hp) (xs : List V) (n : Nat) : Prop := ∀ x ∈ xs, ∃ t ks, x = V.ref t ∧ H t = some (.tup (ks.map V.int)) ∧ (ks : List Int).length = n
def sp_law_rows : Sp := fun vs H Q _ => ∃ (a : Addr) (xs : List V) (n : Nat), vs = [.ref a, .int n] ∧ H a = some (.lst xs) ∧ IsRows H xs n ∧ n ≤ 500 ∧ ∀ H', Same H H' → Q (.bl true) H'
theorem ok_law_rows (T : Txt K mg) : FnOk P w K mg base (L2.CX P w) 2 T.f_law_rows T.d_law_rows ["_law_told", "_law_size"] sp_law_rows := by
  refine T.F_law_rows.ok sc_law_rows (fun vs H Q E h => ?_) (fun cdv A outer s H vs Q E hr h => ?_)
  · obtain ⟨a, xs, n, rfl, _⟩ := h
    rfl
  · obtain ⟨a, xs, n, rfl, ha, hR, hn, q⟩ := h
    refine ⟨_, PSs.nox (pss_cons (ps_if (pt_not (pt_val (pe_callB call_isi (by rfl) T.z_isinstance (by decide +kernel) (pa_cons (pv 0) (pa_cons (pe_bltn (v := .ty "list") (by rfl) T.z_list (by decide +kernel) rfl) pa_nil)))))
 (pss_one (ps_ret pe_bl))
 pss_nil)
 (pss_cons (ps_for PassesOwn.never rfl (pi_list (pv 0)) (pg_name (i := 2) sc_law_rows.nd rfl (Or.inl rfl))
 (pss_one (ps_if (PW.pt (pw_or (pt_not (pt_val (pe_callB call_isi (by rfl) T.z_isinstance (by decide +kernel) (pa_cons (pv 2) (pa_cons (pe_bltn (v := .ty "tuple") (by rfl) T.z_tuple (by decide +kernel) rfl) pa_nil))))) (pw_or (pt_cmpR op_ne (pe_callB call_len_seq (by rfl) T.z_len (by decide +kernel) (pa_cons (pv 2) pa_nil)) (pv 1) (nomark _)) (pw_or1 (pt_not (pt_val (pe_callB (cr_all rfl) (by rfl) T.z_all (by decide +kernel) (pa_cons (pe_lc (own := [("_law_one", 3)]) (g := gName 3) (tt := tYes) (by rfl) sc_law_rows.nd (pi_tup (pv 2)) (blkOk_by (own := [("_law_one", 3)]) (N := N_law_rows) (sc := defScope s_law_rows) (by decide +kernel)) (fun _ _ _ _ _ => (pg_name (i := 3) sc_law_rows.nd rfl (Or.inl rfl))) (fun _ _ _ _ _ => pts_nil) (fun _ _ _ _ _ => (pe_call (ok_law_int T) (hr.mono (by decide)) (by rfl) T.g_law_int T.k_law_int T.b_law_int .nil passL (pa_cons (pv 3) pa_nil)))) pa_nil))))))))
 (pss_one (ps_ret pe_bl))
 pss_nil)))
 (pss_one (ps_ret pe_bl)))), ?_⟩
    walk_at "go"
    refine k_inL (fun i σ H' => (∃ y z, σ = [some (.ref a), some (.int n), y, z]) ∧ Same H H') (SqL.of ha) ⟨⟨_, _, rfl⟩, Same.refl H⟩ (fun i σ H' _ h => SqL.of (h.2 _ _ ha)) ?_ ?_
    · rintro i x σ H' hx ⟨⟨y, z, rfl⟩, s1⟩
      obtain ⟨t, ks, rfl, ht, hk⟩ := hR x (List.mem_of_getElem? hx)
      have ht' := s1 _ _ ht
      walk_at "go"
      rw [List.length_map, hk, decide_eq_true rfl]
      walk_at "go"
      refine k_lcT (xs := ks.map V.int) (fun D i acc H1 => Same H' H1 ∧ acc = List.replicate i (V.bl true)) (SqT.of ht') (fun D nD => ⟨same_new nD, rfl⟩) (fun D i acc H1 _ _ h => SqT.of (h.1 _ _ ht')) ?_ ?_
      · rintro D i x acc H1 nD hi hx hD ha ⟨s2, rfl⟩
        obtain ⟨k, rfl, _⟩ := int_at hx
        walk_at "go"
        refine ⟨k, rfl, ?_⟩
        walk_at "go"
        refine lc_end hD ha (by rw [List.length_map] at hi; omega) ⟨Same.mut s2 nD, ?_⟩
        rw [List.replicate_succ']
      · rintro D acc H1 nD hD hl ⟨s2, rfl⟩
        walk_at "go"
        refine k_allT hD ?_
        walk_at "go"
        exact ⟨⟨_, _, rfl⟩, s1.trans s2⟩
    · rintro σ H' ⟨⟨y, z, rfl⟩, s1⟩
      walk_at "go"
      exact q _ s1
def sp_stretches (K : PySem.W.Frag) : Sp := fun vs H Q _ => ∃ (a : Addr) (ks : List Int), vs = [.ref a] ∧ SqL K H a (ks.map V.int) ∧ ks.length < 64 ∧ ∀ H' p xs, Same H H' → H p = none → H' p = some (.lst xs) → Pairs H' xs (strOf ks) → Q (.ref p) H'
theorem ok_stretches (T : Txt K mg) : FnOk P w K mg base (L2.CX P w) 1 T.f_stretches T.d_stretches ["blocks"] (sp_stretches K) := by
  refine T.F_stretches.ok sc_stretches (fun vs H Q E h => ?_) (fun cdv A outer s H vs Q E hr h => ?_)
  · obtain ⟨a, ks, rfl, _⟩ := h
    rfl
  · obtain ⟨a, ks, rfl, hS, h64, q⟩ := h
    refine ⟨_, PSs.nox (pss_cons (ps_set (i := 1) sc_stretches.nd rfl (Or.inl rfl) (pe_lst pa_nil))
 (pss_cons (ps_for PassesOwn.never rfl (pi_list (pe_callB (cr_sortedSet rfl) (by rfl) T.z_sorted (by decide +kernel) (pa_cons (pe_callTy (cr_setL rfl) (by rfl) T.z_set (by decide +kernel) (pa_cons (pv 0) pa_nil)) pa_nil))) (pg_name (i := 2) sc_stretches.nd rfl (Or.inl rfl))
 (pss_one (ps_if (PW.pt (pw_and (pt_cmpR op_gt (pe_callB call_len_seq (by rfl) T.z_len (by decide +kernel) (pa_cons (pv 1) pa_nil)) pe_int (nomark _)) (pw_and1 (pt_cmpR op_eq (pe_op op_add (pe_ix ix_tup (pe_ix ix_list (pv 1) (pe_un un_neg pe_int) (fun _ _ => rfl)) pe_int (fun _ _ => rfl)) (pe_ix ix_tup (pe_ix ix_list (pv 1) (pe_un un_neg pe_int) (fun _ _ => rfl)) pe_int (fun _ _ => rfl))) (pv 2) (nomark _)))))
 (pss_one (ps_asg (pe_tup (pa_cons (pe_ix ix_tup (pe_ix ix_list (pv 1) (pe_un un_neg pe_int) (fun _ _ => rfl)) pe_int (fun _ _ => rfl)) (pa_cons (pe_op op_add (pe_ix ix_tup (pe_ix ix_list (pv 1) (pe_un un_neg pe_int) (fun _ _ => rfl)) pe_int (fun _ _ => rfl)) pe_int) pa_nil))) (pg_sub (pv 1) (pe_un un_neg pe_int) set_list)))
 (pss_one (ps_expr (pe_bm PySem.F.plainAttrs_list PySem.F.slot_list_append PySem.F.type_list_append mt_append (pv 1) (pa_cons (pe_tup (pa_cons (pv 2) (pa_cons pe_int pa_nil))) pa_nil)))))))
 (pss_one (ps_ret (pv 1))))), ?_⟩
    walk_at "go"
    refine ⟨by walk_at "sz", fun o no => ?_⟩
    walk_at "go"
    have s0 := same_new (o := .lst []) no
    refine k_sortSet (Same.seq s0 hS) h64 fun H1 p s1 np hp => ?_
    have ho1 : H1 o = some (.lst []) := s1 _ _ upd_same
    have npo : p ≠ o := fun z => by
      rw [z, upd_same] at np
      cases np
    walk_at "go"
    refine k_inL (fun i σ H' => (∃ y, σ = [some (.ref a), some (.ref o), y]) ∧ Same H H' ∧ H' p = some (.lst ((ascOf ks).map V.int)) ∧ ∃ xs, H' o = some (.lst xs) ∧ Pairs H' xs (((ascOf ks).take i).foldl strStep [])) (SqL.of hp)
      ⟨⟨_, rfl⟩, s0.trans s1, hp, [], ho1, True.intro⟩ (fun i σ H' _ h => SqL.of h.2.2.1) ?_ ?_
    · rintro i x σ H' hx ⟨⟨y, rfl⟩, s2, hp', xs, ho, hxs⟩
      obtain ⟨k, rfl, hk⟩ := int_at hx
      rw [take_snoc hk, List.foldl_append]
      generalize hL : ((ascOf ks).take i).foldl strStep [] = L at hxs ⊢
      have hlen : xs.length ≤ 1000 := by
        have a1 := hxs.length
        have a2 := strStep_len ((ascOf ks).take i) []
        have a3 := len_asc ks
        have a4 : ((ascOf ks).take i).length ≤ (ascOf ks).length := by
          rw [List.length_take]
          omega
        rw [hL] at a2
        simp only [List.length_nil] at a2
        omega
      rcases hxs.split with ⟨rfl, rfl⟩ | ⟨ys, y1, qs, ⟨f, m⟩, rfl, rfl, hys, t, rfl, ht⟩
      · walk_at "go"
        refine ⟨by walk_at "sz", fun t nt => ?_⟩
        have ho2 := same_new (o := .tup [V.int k, V.int 1]) nt o _ ho
        walk_at "go"
        refine ⟨⟨_, rfl⟩, Same.mut (Same.new s2 nt) no, ?_, [.ref t], upd_same, ⟨t, rfl, ?_⟩, True.intro⟩
        · rw [upd_ne npo]
          exact same_new nt p _ hp'
        · rw [upd_ne (ne_of_none ho nt).symm, upd_same]
      · walk_at "go"
        refine k_iteD (fun h1 => ?_) (fun h1 => ?_)
        · walk_at "go"
          refine ⟨by walk_at "sz", fun t2 nt => ?_⟩
          have ho2 := same_new (o := .tup [V.int f, V.int (m + 1)]) nt o _ ho
          walk_at "go"
          rw [set_last]
          rw [List.foldl_cons, List.foldl_nil, strStep_snoc, if_pos (V.int.inj h1)]
          refine ⟨⟨_, rfl⟩, Same.mut (Same.new s2 nt) no, ?_, ys ++ [.ref t2], upd_same, AllR.snoc (Pairs.updL ho2 (Pairs.keep (same_new nt) hys)) ⟨t2, rfl, ?_⟩⟩
          · rw [upd_ne npo]
            exact same_new nt p _ hp'
          · rw [upd_ne (ne_of_none ho nt).symm, upd_same]
        · walk_at "go"
          refine ⟨by walk_at "sz", fun t2 nt => ?_⟩
          have ho2 := same_new (o := .tup [V.int k, V.int 1]) nt o _ ho
          walk_at "go"
          rw [List.foldl_cons, List.foldl_nil, strStep_snoc, if_neg (fun z => h1 (by rw [z]))]
          refine ⟨⟨_, rfl⟩, Same.mut (Same.new s2 nt) no, ?_, ys ++ [.ref t] ++ [.ref t2], upd_same, AllR.snoc (Pairs.updL ho2 (Pairs.keep (same_new nt) hxs)) ⟨t2, rfl, ?_⟩⟩
          · rw [upd_ne npo]
            exact same_new nt p _ hp'
          · rw [upd_ne (ne_of_none ho nt).symm, upd_same]
    · rintro σ H' ⟨⟨y, rfl⟩, s2, hp', xs, ho, hxs⟩
      rw [List.length_map, List.take_length] at hxs
      walk_at "go"
      exact q _ o xs s2 no ho hxs
def lastV : Option Int → V
  | none => .non
  | some x => .int x
def sp_law_holds : Sp := fun vs H Q _ => ∃ (a b : Addr) (xs : List V) (ks : List Int), vs = [.ref a, .ref b] ∧ H a = some (.lst xs) ∧ Lt.Pairs H xs (strOf ks) ∧ H b = some (.lst (ks.map V.int)) ∧ ks.length < 64 ∧ (∀ k ∈ ks, 0 ≤ k ∧ k < 4000000000000) ∧ ∀ H', Same H H' → Q (.bl true) H'
theorem ok_law_holds (T : Txt K mg) : FnOk P w K mg base (L2.CX P w) 3 T.f_law_holds T.d_law_holds ["_law_told", "_law_blocks"] sp_law_holds := by
  refine T.F_law_holds.ok sc_law_holds (fun vs H Q E h => ?_) (fun cdv A outer s H vs Q E hr h => ?_)
  · obtain ⟨a, b, xs, ks, rfl, _⟩ := h
    rfl
  · obtain ⟨a, b, xs, ks, rfl, ha, hxs, hb, h64, hk, q⟩ := h
    refine ⟨_, PSs.nox (pss_cons (ps_set (i := 2) sc_law_holds.nd rfl (Or.inl rfl) (pe_callB (cr_sortedSet rfl) (by rfl) T.z_sorted (by decide +kernel) (pa_cons (pe_callTy (cr_setL rfl) (by rfl) T.z_set (by decide +kernel) (pa_cons (pv 1) pa_nil)) pa_nil)))
 (pss_cons (ps_if (pt_not (pt_val (pe_call (ok_law_rows T) (hr.mono (by decide)) (by rfl) T.g_law_rows T.k_law_rows T.b_law_rows .nil passL (pa_cons (pv 0) (pa_cons pe_int pa_nil)))))
 (pss_one (ps_ret pe_bl))
 pss_nil)
 (pss_cons (ps_set (i := 3) sc_law_holds.nd rfl (Or.inl rfl) (pe_lst pa_nil))
 (pss_cons (ps_set (i := 4) sc_law_holds.nd rfl (Or.inl rfl) pe_non)
 (pss_cons (ps_for PassesOwn.never rfl (pi_list (pv 0)) (pg_tup rfl (pgs_cons (pg_name (i := 5) sc_law_holds.nd rfl (Or.inl rfl)) (pgs_cons (pg_name (i := 6) sc_law_holds.nd rfl (Or.inl rfl)) pgs_nil)))
 (pss_cons (ps_if (PW.pt (pw_or (pt_cmpR op_lt (pv 6) pe_int (nomark _)) (pw_or (pt_cmpR op_gt (pv 6) (pe_callB call_len_seq (by rfl) T.z_len (by decide +kernel) (pa_cons (pv 2) pa_nil)) (nomark _)) (pw_or1 (PW.pt (pw_and (pt_cmpR op_notN (pv 4) pe_non (nomark _)) (pw_and1 (pt_cmpR op_le (pv 5) (pv 4) (nomark _)))))))))
 (pss_one (ps_ret pe_bl))
 pss_nil)
 (pss_cons (ps_set (i := 3) sc_law_holds.nd rfl (Or.inl rfl) (pe_op op_cat (pv 3) (pe_listRg rfl (by rfl) T.z_list (prg_2 (by rfl) T.z_range (pv 5) (pe_op op_add (pv 5) (pv 6))))))
 (pss_one (ps_set (i := 4) sc_law_holds.nd rfl (Or.inl rfl) (pe_op op_add (pv 5) (pv 6)))))))
 (pss_one (ps_ret (pe_cmpR (op_eqD hr.units) (pv 3) (pv 2) (nomark _))))))))), ?_⟩
    walk_at "go"
    refine k_sortSet (SqL.of hb) h64 fun H1 p s1 np hp => ?_
    walk_at "go"
    refine ⟨a, xs, 2, rfl, s1 _ _ ha, fun x hx => ?_, by decide, fun H2 s2 => ?_⟩
    · obtain ⟨pp, _, t, rfl, ht⟩ := hxs.mem hx
      exact ⟨t, [pp.1, pp.2], rfl, s1 _ _ ht, rfl⟩
    walk_at "go"
    refine ⟨by walk_at "sz", fun o no => ?_⟩
    walk_at "go"
    have hp2 := s2 _ _ hp
    have ha2 := (s1.trans s2) _ _ ha
    have hxs2 := hxs.keep (s1.trans s2)
    have s3 := same_new (o := .lst []) no
    have O := strOk ks
    refine k_inL (fun i σ H' => ∃ (o' : Addr) (y5 y6 : Option V), σ = [some (.ref a), some (.ref b), some (.ref p), some (.ref o'), some (lastV (endOf none ((strOf ks).take i))), y5, y6] ∧ Same H2 H' ∧ H2 o' = none ∧ H' o' = some (.lst ((catS ((strOf ks).take i)).map V.int)))
      (SqL.of (s3 _ _ ha2)) ⟨o, none, none, rfl, s3, no, upd_same⟩ (fun i σ H' _ h => ?_) ?_ ?_
    · obtain ⟨_, _, _, _, s4, _⟩ := h
      exact SqL.of (s4 _ _ ha2)
    · rintro i x σ H' hx ⟨o', y5, y6, rfl, s4, no', ho'⟩
      obtain ⟨⟨f, m⟩, hi, t, rfl, ht⟩ := (hxs2.keep s4).get hx
      have hm := List.mem_of_getElem? hi
      have m1 : 1 ≤ m := O.pos _ hm
      have m2 := catS_len_mem hm
      rw [O.cat] at m2
      have m3 := len_asc ks
      have hp4 := s4 _ _ hp2
      have hf : 0 ≤ f ∧ f < 4000000000000 := hk f (mem_asc.mp (by
        rw [← O.cat]
        exact catS_mem hm (Int.le_refl _) (by show f < f + m; omega)))
      have hs := sep_take O.sep hi
      have m2 : m.toNat ≤ (ascOf ks).length := m2
      have hcl : (catS ((strOf ks).take i)).length ≤ 100 := by
        have c1 := catS_take_len (strOf ks) i
        rw [O.cat] at c1
        omega
      rw [take_snoc hi, catS_snoc, endOf_snoc]
      generalize endOf none ((strOf ks).take i) = en at hs ⊢
      walk_at "go"
      cases en with
      | none =>
        refine k_iteF (by decide) ?_
        walk_at "go"
        refine ⟨⟨by omega, by omega, by omega, by omega, by omega⟩, fun r nr => ?_⟩
        rw [rgV_eq, show f + m - f = m by omega]
        have ho2 := same_new (o := .lst ((rgI f m).map V.int)) nr _ _ ho'
        refine k_cat ho2 upd_same (by rw [List.length_map, List.length_map, rgI_len]; omega) fun r2 nr2 => ?_
        walk_at "go"
        have s5 := Same.new (o := .lst ((rgI f m).map V.int)) s4 nr
        exact ⟨r2, _, _, rfl, Same.new s5 nr2, s5.free nr2, by rw [upd_same, List.map_append]⟩
      | some e =>
        have he := hs e rfl
        refine k_iteT (by simp [lastV]) ?_
        walk_at "go"
        refine k_I0 (i := f) (j := e) ?_
        walk_at "go"
        refine ⟨⟨by omega, by omega, by omega, by omega, by omega⟩, fun r nr => ?_⟩
        rw [rgV_eq, show f + m - f = m by omega]
        have ho2 := same_new (o := .lst ((rgI f m).map V.int)) nr _ _ ho'
        refine k_cat ho2 upd_same (by rw [List.length_map, List.length_map, rgI_len]; omega) fun r2 nr2 => ?_
        walk_at "go"
        have s5 := Same.new (o := .lst ((rgI f m).map V.int)) s4 nr
        exact ⟨r2, _, _, rfl, Same.new s5 nr2, s5.free nr2, by rw [upd_same, List.map_append]⟩
    · rintro σ H' ⟨o', y5, y6, rfl, s4, no', ho'⟩
      rw [hxs.length, List.take_length, O.cat] at ho'
      have hp4 := s4 _ _ hp2
      walk_at "go"
      refine k_eqI (SqL.of ho') (SqL.of hp4) ?_
      rw [decide_eq_true rfl]
      exact q _ ((s1.trans s2).trans s4)
theorem ok_law (T : Txt K mg) : FnOk P w K mg base (L2.CX P w) 4 T.f_law T.d_law ["_law_script"] (sp_law K) := by
  refine T.F_law.ok sc_law (fun vs H Q E h => ?_) (fun cdv A outer s H vs Q E hr h => ?_)
  · obtain ⟨a, ns, rfl, _⟩ := h
    rfl
  · obtain ⟨a, ns, rfl, hS, hl, q⟩ := h
    refine ⟨_, PSs.nox (pss_cons (ps_set (i := 1) sc_law.nd rfl (Or.inr rfl) (pe_call (ok_law_bag T) (hr.mono (by decide)) (by rfl) T.g_law_bag T.k_law_bag T.b_law_bag .nil passL (pa_cons (pv 0) pa_nil)))
 (pss_cons (ps_set (i := 2) sc_law.nd rfl (Or.inr rfl) (pe_ix ix_list (pe_lst (pa_cons pe_int (pa_cons pe_int (pa_cons (pe_op op_pow pe_int pe_int) pa_nil)))) (pe_call (ok_law_pull T) (hr.mono (by decide)) (by rfl) T.g_law_pull T.k_law_pull T.b_law_pull .nil passL (pa_cons (pv 1) (pa_cons pe_int pa_nil))) (fun _ _ => rfl)))
 (pss_cons (ps_setLc (i := 3) (own := [("_law_k", 7)]) (g := gName 7) (tt := tYes) (by rfl) sc_law.nd rfl rfl (sw_true rfl rfl rfl (by decide +kernel)) (pi_range1 (by rfl) T.z_range (pa_cons (pe_call (ok_law_pull T) (hr.mono (by decide)) (by rfl) T.g_law_pull T.k_law_pull T.b_law_pull .nil passL (pa_cons (pv 1) (pa_cons pe_int pa_nil))) pa_nil)) (blkOk_by (own := [("_law_k", 7)]) (N := N_law) (sc := defScope s_law) (by decide +kernel)) (fun _ _ _ _ _ => (pg_name (i := 7) sc_law.nd rfl (Or.inl rfl))) (fun _ _ _ _ _ => pts_nil) (fun _ _ _ _ _ => (pe_call (ok_law_pull T) (hr.mono (by decide)) (by rfl) T.g_law_pull T.k_law_pull T.b_law_pull .nil passL (pa_cons (pv 1) (pa_cons (pv 2) pa_nil)))))
 (pss_mid (ps_if (pt_cmpR op_eq (pe_call (ok_law_pull T) (hr.mono (by decide)) (by rfl) T.g_law_pull T.k_law_pull T.b_law_pull .nil passL (pa_cons (pv 1) (pa_cons pe_int pa_nil))) pe_int (nomark _))
 (pss_cons (ps_set (i := 4) sc_law.nd rfl (Or.inl rfl) (pe_call (ok_law_pull T) (hr.mono (by decide)) (by rfl) T.g_law_pull T.k_law_pull T.b_law_pull .nil passL (pa_cons (pv 1) (pa_cons (pv 2) pa_nil))))
 (pss_one (ps_set (i := 3) sc_law.nd rfl (Or.inl rfl) (pe_op op_cat (pe_op op_cat (pv 3) (pe_listRg rfl (by rfl) T.z_list (prg_2 (by rfl) T.z_range (pv 4) (pe_op op_add (pv 4) (pe_call (ok_law_pull T) (hr.mono (by decide)) (by rfl) T.g_law_pull T.k_law_pull T.b_law_pull .nil passL (pa_cons (pv 1) (pa_cons pe_int pa_nil))))))) (pe_slice sl_list (pv 3) po_none (po_some pe_int))))))
 pss_nil)
 (pss_cons (ps_set (i := 5) sc_law.nd rfl (Or.inl rfl) (pe_callTy call_list_of (by rfl) T.z_list (by decide +kernel) (pa_cons (pv 3) pa_nil)))
 (pss_cons (ps_set (i := 6) sc_law.nd rfl (Or.inl rfl) (pe_call (ok_stretches T) (hr.mono (by decide)) (by rfl) T.g_stretches T.k_stretches T.b_stretches .nil passL (pa_cons (pv 3) pa_nil)))
 (pss_cons (ps_if (PW.pt (pw_or (pt_cmpR (op_neD hr.units) (pv 3) (pv 5) (nomark _)) (pw_or1 (pt_not (pt_val (pe_call (ok_law_holds T) (hr.mono (by decide)) (by rfl) T.g_law_holds T.k_law_holds T.b_law_holds .nil passL (pa_cons (pv 6) (pa_cons (pv 5) pa_nil))))))))
 (pss_one (ps_ret pe_bl))
 pss_nil)
 (pss_cons (ps_expr (pe_bm PySem.F.plainAttrs_list PySem.F.slot_list_append PySem.F.type_list_append mt_append (pv 6) (pa_cons (pe_tup (pa_cons pe_int (pa_cons pe_int pa_nil))) pa_nil)))
 (pss_one (ps_ret (pe_call (ok_law_holds T) (hr.mono (by decide)) (by rfl) T.g_law_holds T.k_law_holds T.b_law_holds .nil passL (pa_cons (pe_call (ok_stretches T) (hr.mono (by decide)) (by rfl) T.g_stretches T.k_stretches T.b_stretches .nil passL (pa_cons (pv 3) pa_nil)) (pa_cons (pv 5) pa_nil))))))))))))), ?_⟩
    walk_at "go"
    refine ⟨a, ns, rfl, hS, hl, fun H1 b l s1 _ _ hB1 => ?_⟩
    walk_at "go"
    refine k_menu 9 1000000000000 rfl hB1 rfl (by decide) (by decide) (menu_in (by decide)) fun H2 top t0 t1 b2 hB2 => ?_
    walk_at "go"
    refine k_pull hB2 (by decide) (by decide) fun H3 n n0 n1 b3 hB3 => ?_
    walk_at "go"
    refine ⟨by omega, by omega, ?_⟩
    refine k_lcR (fun D i acc H' => (D ≠ b ∧ D ≠ l) ∧ Bag H' b l ns ∧ ∃ ks : List Int, acc = ks.map V.int ∧ ∀ k ∈ ks, 0 ≤ k ∧ k < top) (fun D nD => ⟨hB3.fresh nD, hB3.keep (same_new nD), [], rfl, by simp⟩) ?_ ?_
    · rintro D i acc H' nD hi hD ha ⟨nDb, hB, ks, rfl, hk⟩
      walk_at "go"
      refine k_pull hB (by omega) (by omega) fun H4 k k0 k1 b4 hB4 => ?_
      walk_at "go"
      refine lc_end (b4.get nDb.1 hD) ha (by omega) ⟨nDb, hB4.updL (b4.get nDb.1 hD) nDb.1 nDb.2, ks ++ [k], by simp, fun j hj => ?_⟩
      rcases List.mem_append.mp hj with hj | hj
      · exact hk j hj
      · rw [List.mem_singleton.mp hj]
        exact ⟨k0, k1⟩
    rintro D acc H4 nD hD hal ⟨nDb, hB4, ks, rfl, hk⟩
    walk_at "go"
    have hD5 : ks.length ≤ 14 := by
      rw [List.length_map] at hal
      omega
    refine ⟨fun σ H' => ∃ (p : Addr) (js : List Int) (y4 : Option V), σ = [some (.ref a), some (.ref b), some (.int top), some (.ref p), y4, none, none, none] ∧ H' p = some (.lst (js.map V.int)) ∧ js.length < 64 ∧ ∀ k ∈ js, 0 ≤ k ∧ k < 4000000000000, ?_, ?_⟩
    · walk_at "go"
      refine k_pull hB4 (by decide) (by decide) fun H5 c c0 c1 b5 hB5 => ?_
      have d5 := b5.get nDb.1 hD
      walk_at "go"
      refine k_iteD (fun h1 => ?_) (fun h1 => ?_)
      · walk_at "go"
        refine k_pull hB5 (by omega) (by omega) fun H6 f f0 f1 b6 hB6 => ?_
        have d6 := b6.get nDb.1 d5
        walk_at "go"
        refine k_pull hB6 (by omega) (by omega) fun H7 m m0 m1 b7 hB7 => ?_
        have d7 := b7.get nDb.1 d6
        walk_at "go"
        refine ⟨⟨by omega, by omega, by omega, by omega, by omega⟩, fun r nr => ?_⟩
        rw [rgV_eq, show f + m - f = m by omega]
        have d8 := same_new (o := .lst ((rgI f m).map V.int)) nr _ _ d7
        refine k_cat d8 upd_same (by rw [List.length_map, List.length_map, rgI_len]; omega) fun r2 nr2 => ?_
        have d9 := same_new (o := .lst (ks.map V.int ++ (rgI f m).map V.int)) nr2 _ _ d8
        walk_at "go"
        refine k_slL (SqL.of d9) fun r3 nr3 => ?_
        rw [show (3 : Int) = ((3 : Nat) : Int) from rfl, cut_none]
        have e9 := same_new (o := .lst ((ks.map V.int).take 3)) nr3 _ _ (upd_same (H := upd H7 r (.lst ((rgI f m).map V.int))) (a := r2) (o := .lst (ks.map V.int ++ (rgI f m).map V.int)))
        refine k_cat e9 upd_same (by rw [List.length_append, List.length_map, List.length_map, rgI_len, List.length_take]; omega) fun r4 nr4 => ?_
        walk_at "go"
        refine ⟨r4, ks ++ rgI f m ++ ks.take 3, _, rfl, by rw [upd_same]; simp, ?_, fun k hk1 => ?_⟩
        · rw [List.length_append, List.length_append, rgI_len, List.length_take]
          omega
        · rcases List.mem_append.mp hk1 with hk1 | hk1
          · rcases List.mem_append.mp hk1 with hk1 | hk1
            · have := hk k hk1
              omega
            · have := mem_rgI.mp hk1
              omega
          · have := hk k (List.mem_of_mem_take hk1)
            omega
      · walk_at "go"
        refine ⟨D, ks, _, rfl, d5, by omega, fun k hk1 => ?_⟩
        have := hk k hk1
        omega
    rintro σ H5 ⟨p, js, y4, rfl, hp, h64, hj⟩
    walk_at "go"
    intro kp nkp
    have p6 := same_new (o := .lst (js.map V.int)) nkp _ _ hp
    walk_at "go"
    refine ⟨p, js, rfl, SqL.of p6, h64, fun H6 t xs s6 nt ht hxs => ?_⟩
    have p7 := s6 _ _ p6
    have k7 := s6 _ _ (upd_same (H := H5) (a := kp) (o := .lst (js.map V.int)))
    walk_at "go"
    refine k_neI (SqL.of p7) (SqL.of k7) ?_
    walk_at "go"
    refine ⟨t, kp, xs, js, rfl, ht, hxs, k7, h64, hj, fun H7 s7 => ?_⟩
    have t7 := s7 _ _ ht
    walk_at "go"
    refine ⟨by walk_at "sz", fun t2 nt2 => ?_⟩
    have t8 := same_new (o := .tup [V.int 0, V.int 1]) nt2 _ _ t7
    have hlx : xs.length ≤ 1000 := by
      rw [hxs.length]
      have l1 := strStep_len (ascOf js) []
      have l2 := len_asc js
      simp only [List.length_nil] at l1
      unfold Lt.strOf
      omega
    walk_at "go"
    have npt : p ≠ t := (ne_of_none p6 nt)
    have nkt : kp ≠ t := (ne_of_none upd_same nt)
    have p8 : upd (upd H7 t2 (.tup [V.int 0, V.int 1])) t (.lst (xs ++ [V.ref t2])) p = some (.lst (js.map V.int)) := by
      rw [upd_ne npt]
      exact same_new nt2 _ _ (s7 _ _ p7)
    have k8 : upd (upd H7 t2 (.tup [V.int 0, V.int 1])) t (.lst (xs ++ [V.ref t2])) kp = some (.lst (js.map V.int)) := by
      rw [upd_ne nkt]
      exact same_new nt2 _ _ (s7 _ _ k7)
    refine ⟨p, js, rfl, SqL.of p8, h64, fun H9 t9 xs9 s9 nt9 ht9 hxs9 => ?_⟩
    walk_at "go"
    exact ⟨t9, kp, xs9, js, rfl, ht9, hxs9, s9 _ _ k8, h64, hj, fun H10 _ => q H10⟩
end
theorem all_mk {l : PySem.W.OpenLaw} {w : World} {K : PySem.W.Frag} {h : Heap} {mg : Str → Option Value} {fa : Addr} (X : K.In h) (G : h.Ns mainGlobals mg) (hfa : mg "law" = some (.ref fa))
  {f1 : Addr} {od1 an1 : Option Addr} {sl1 : Array (Option Value)} {oc1 kV1 dc1 pm1 cd1 ct1 : Value}
  {f2 : Addr} {od2 an2 : Option Addr} {sl2 : Array (Option Value)} {oc2 kV2 dc2 pm2 cd2 ct2 : Value}
  {f3 : Addr} {od3 an3 : Option Addr} {sl3 : Array (Option Value)} {oc3 kV3 dc3 pm3 cd3 ct3 : Value}
  {f4 : Addr} {od4 an4 : Option Addr} {sl4 : Array (Option Value)} {oc4 kV4 dc4 pm4 cd4 ct4 : Value}
  {f5 : Addr} {od5 an5 : Option Addr} {sl5 : Array (Option Value)} {oc5 kV5 dc5 pm5 cd5 ct5 : Value}
  {f6 : Addr} {od6 an6 : Option Addr} {sl6 : Array (Option Value)} {oc6 kV6 dc6 pm6 cd6 ct6 : Value}
  {f7 : Addr} {od7 an7 : Option Addr} {sl7 : Array (Option Value)} {oc7 kV7 dc7 pm7 cd7 ct7 : Value}
  (a1 : PySem.W.nsIn K mainGlobals "stretches" = some (some (.ref f1)))
  (l1 : K.lookup f1 = some ⟨oc1, od1, .func (PySem.W.fnOf "stretches" "stretches" (defArgs s_stretches) (defBody s_stretches) (defScope s_stretches) .none kV1 dc1 pm1 an1 cd1 ct1), sl1⟩)
  (c1 : PySem.W.codeIn K cd1 "stretches" = true)
  (k1 : PySem.W.keepIn K (.ref f1) = true)
  (a2 : PySem.W.nsIn K mainGlobals "_law_bag" = some (some (.ref f2)))
  (l2 : K.lookup f2 = some ⟨oc2, od2, .func (PySem.W.fnOf "_law_bag" "_law_bag" (defArgs s_law_bag) (defBody s_law_bag) (defScope s_law_bag) .none kV2 dc2 pm2 an2 cd2 ct2), sl2⟩)
  (c2 : PySem.W.codeIn K cd2 "_law_bag" = true)
  (k2 : PySem.W.keepIn K (.ref f2) = true)
  (a3 : PySem.W.nsIn K mainGlobals "_law_pull" = some (some (.ref f3)))
  (l3 : K.lookup f3 = some ⟨oc3, od3, .func (PySem.W.fnOf "_law_pull" "_law_pull" (defArgs s_law_pull) (defBody s_law_pull) (defScope s_law_pull) .none kV3 dc3 pm3 an3 cd3 ct3), sl3⟩)
  (c3 : PySem.W.codeIn K cd3 "_law_pull" = true)
  (k3 : PySem.W.keepIn K (.ref f3) = true)
  (a4 : PySem.W.nsIn K mainGlobals "_law_int" = some (some (.ref f4)))
  (l4 : K.lookup f4 = some ⟨oc4, od4, .func (PySem.W.fnOf "_law_int" "_law_int" (defArgs s_law_int) (defBody s_law_int) (defScope s_law_int) .none kV4 dc4 pm4 an4 cd4 ct4), sl4⟩)
  (c4 : PySem.W.codeIn K cd4 "_law_int" = true)
  (k4 : PySem.W.keepIn K (.ref f4) = true)
  (a5 : PySem.W.nsIn K mainGlobals "_law_rows" = some (some (.ref f5)))
  (l5 : K.lookup f5 = some ⟨oc5, od5, .func (PySem.W.fnOf "_law_rows" "_law_rows" (defArgs s_law_rows) (defBody s_law_rows) (defScope s_law_rows) .none kV5 dc5 pm5 an5 cd5 ct5), sl5⟩)
  (c5 : PySem.W.codeIn K cd5 "_law_rows" = true)
  (k5 : PySem.W.keepIn K (.ref f5) = true)
  (a6 : PySem.W.nsIn K mainGlobals "_law_holds" = some (some (.ref f6)))
  (l6 : K.lookup f6 = some ⟨oc6, od6, .func (PySem.W.fnOf "_law_holds" "_law_holds" (defArgs s_law_holds) (defBody s_law_holds) (defScope s_law_holds) .none kV6 dc6 pm6 an6 cd6 ct6), sl6⟩)
  (c6 : PySem.W.codeIn K cd6 "_law_holds" = true)
  (k6 : PySem.W.keepIn K (.ref f6) = true)
  (a7 : PySem.W.nsIn K mainGlobals "law" = some (some (.ref f7)))
  (l7 : K.lookup f7 = some ⟨oc7, od7, .func (PySem.W.fnOf "law" "law" (defArgs s_law) (defBody s_law) (defScope s_law) .none kV7 dc7 pm7 an7 cd7 ct7), sl7⟩)
  (c7 : PySem.W.codeIn K cd7 "law" = true)
  (k7 : PySem.W.keepIn K (.ref f7) = true)
  (z_all : PySem.W.nsIn K mainGlobals "all" = some none)
  (z_bool : PySem.W.nsIn K mainGlobals "bool" = some none)
  (z_int : PySem.W.nsIn K mainGlobals "int" = some none)
  (z_isinstance : PySem.W.nsIn K mainGlobals "isinstance" = some none)
  (z_len : PySem.W.nsIn K mainGlobals "len" = some none)
  (z_list : PySem.W.nsIn K mainGlobals "list" = some none)
  (z_range : PySem.W.nsIn K mainGlobals "range" = some none)
  (z_set : PySem.W.nsIn K mainGlobals "set" = some none)
  (z_sorted : PySem.W.nsIn K mainGlobals "sorted" = some none)
  (z_tuple : PySem.W.nsIn K mainGlobals "tuple" = some none) :
  ∃ fd : FuncData, (∀ (s : Shared) (v : Value), BindsTo s fd ⟨[v], []⟩ [("_law_script", v)]) ∧ ∀ base : Heap, K.In base → base.Ns mainGlobals mg → FnOk l.prog w K mg base (L2.CX l.prog w) 4 fa fd ["_law_script"] (sp_law K) := by
  have e : f7 = fa := (Value.ref.inj (Option.some.inj (hfa.symm.trans (PySem.W.mg_of X G a7)))).symm
  subst e
  let T : Txt K mg := {
  g_stretches := PySem.W.mg_of X G a1,
  f_stretches := f1,
  d_stretches := PySem.W.fnOf "stretches" "stretches" (defArgs s_stretches) (defBody s_stretches) (defScope s_stretches) .none kV1 dc1 pm1 an1 cd1 ct1,
  F_stretches := ⟨⟨oc1, od1, .none, kV1, dc1, pm1, an1, cd1, ct1, sl1, rfl, l1, c1, .inl ⟨rfl, rfl⟩, .inl rfl⟩, k1⟩,
  g_law_bag := PySem.W.mg_of X G a2,
  f_law_bag := f2,
  d_law_bag := PySem.W.fnOf "_law_bag" "_law_bag" (defArgs s_law_bag) (defBody s_law_bag) (defScope s_law_bag) .none kV2 dc2 pm2 an2 cd2 ct2,
  F_law_bag := ⟨⟨oc2, od2, .none, kV2, dc2, pm2, an2, cd2, ct2, sl2, rfl, l2, c2, .inl ⟨rfl, rfl⟩, .inl rfl⟩, k2⟩,
  g_law_pull := PySem.W.mg_of X G a3,
  f_law_pull := f3,
  d_law_pull := PySem.W.fnOf "_law_pull" "_law_pull" (defArgs s_law_pull) (defBody s_law_pull) (defScope s_law_pull) .none kV3 dc3 pm3 an3 cd3 ct3,
  F_law_pull := ⟨⟨oc3, od3, .none, kV3, dc3, pm3, an3, cd3, ct3, sl3, rfl, l3, c3, .inl ⟨rfl, rfl⟩, .inl rfl⟩, k3⟩,
  g_law_int := PySem.W.mg_of X G a4,
  f_law_int := f4,
  d_law_int := PySem.W.fnOf "_law_int" "_law_int" (defArgs s_law_int) (defBody s_law_int) (defScope s_law_int) .none kV4 dc4 pm4 an4 cd4 ct4,
  F_law_int := ⟨⟨oc4, od4, .none, kV4, dc4, pm4, an4, cd4, ct4, sl4, rfl, l4, c4, .inl ⟨rfl, rfl⟩, .inl rfl⟩, k4⟩,
  g_law_rows := PySem.W.mg_of X G a5,
  f_law_rows := f5,
  d_law_rows := PySem.W.fnOf "_law_rows" "_law_rows" (defArgs s_law_rows) (defBody s_law_rows) (defScope s_law_rows) .none kV5 dc5 pm5 an5 cd5 ct5,
  F_law_rows := ⟨⟨oc5, od5, .none, kV5, dc5, pm5, an5, cd5, ct5, sl5, rfl, l5, c5, .inl ⟨rfl, rfl⟩, .inl rfl⟩, k5⟩,
  g_law_holds := PySem.W.mg_of X G a6,
  f_law_holds := f6,
  d_law_holds := PySem.W.fnOf "_law_holds" "_law_holds" (defArgs s_law_holds) (defBody s_law_holds) (defScope s_law_holds) .none kV6 dc6 pm6 an6 cd6 ct6,
  F_law_holds := ⟨⟨oc6, od6, .none, kV6, dc6, pm6, an6, cd6, ct6, sl6, rfl, l6, c6, .inl ⟨rfl, rfl⟩, .inl rfl⟩, k6⟩,
  g_law := PySem.W.mg_of X G a7,
  f_law := f7,
  d_law := PySem.W.fnOf "law" "law" (defArgs s_law) (defBody s_law) (defScope s_law) .none kV7 dc7 pm7 an7 cd7 ct7,
  F_law := ⟨⟨oc7, od7, .none, kV7, dc7, pm7, an7, cd7, ct7, sl7, rfl, l7, c7, .inl ⟨rfl, rfl⟩, .inl rfl⟩, k7⟩,
  z_all := PySem.W.mg_none_of X G z_all,
  z_bool := PySem.W.mg_none_of X G z_bool,
  z_int := PySem.W.mg_none_of X G z_int,
  z_isinstance := PySem.W.mg_none_of X G z_isinstance,
  z_len := PySem.W.mg_none_of X G z_len,
  z_list := PySem.W.mg_none_of X G z_list,
  z_range := PySem.W.mg_none_of X G z_range,
  z_set := PySem.W.mg_none_of X G z_set,
  z_sorted := PySem.W.mg_none_of X G z_sorted,
  z_tuple := PySem.W.mg_none_of X G z_tuple }
  exact ⟨T.d_law, fun s v => T.F_law.bindsA (ps := ["_law_script"]) (fun _ _ _ _ _ _ us hl => match us, hl with | [_], _ => rfl) s [v] rfl, fun base _ _ => ok_law T⟩
end K01
open PySem PySem.W PyProof.Rows
set_option maxRecDepth 100000 in
set_option maxHeartbeats 0 in
theorem PySem.Challenge.cw_latestow_k01_stretches_holds : PySem.Challenge.rw_latestow_k01_stretches.Holds := by
  w_on; o_law; k_head; (case hw => w_witness2)
  k_fill
  refine L2.walk_of (l := PySem.Challenge.rw_latestow_k01_stretches) (n := 63) (k := 4) (x := "_law_script") (CX := fun w => L2.CX PySem.Challenge.rw_latestow_k01_stretches.prog w) (sp := fun w => K01.sp_law _) rfl (by decide) rfl ⟨rfl, by decide, by decide⟩ (fun w h Y => PySem.W.kIn_of Y) ?F (fun _ _ a ns hl _ hS => ⟨a, ns, rfl, hS, hl, fun _ => rfl⟩) (fun w _ _ _ _ h => Lt.cx_no h)
  case F =>
    intro w mg fa h KX G hmg
    refine' K01.all_mk KX G hmg ?a1 ?l1 ?c1 ?k1 ?a2 ?l2 ?c2 ?k2 ?a3 ?l3 ?c3 ?k3 ?a4 ?l4 ?c4 ?k4 ?a5 ?l5 ?c5 ?k5 ?a6 ?l6 ?c6 ?k6 ?a7 ?l7 ?c7 ?k7 ?z_all ?z_bool ?z_int ?z_isinstance ?z_len ?z_list ?z_range ?z_set ?z_sorted ?z_tuple
    (case a1 => k_is)
    (case l1 => k_is)
    (case a2 => k_is)
    (case l2 => k_is)
    (case a3 => k_is)
    (case l3 => k_is)
    (case a4 => k_is)
    (case l4 => k_is)
    (case a5 => k_is)
    (case l5 => k_is)
    (case a6 => k_is)
    (case l6 => k_is)
    (case a7 => k_is)
    (case l7 => k_is)
    (case c1 => k_is)
    (case k1 => k_is)
    (case c2 => k_is)
    (case k2 => k_is)
    (case c3 => k_is)
    (case k3 => k_is)
    (case c4 => k_is)
    (case k4 => k_is)
    (case c5 => k_is)
    (case k5 => k_is)
    (case c6 => k_is)
    (case k6 => k_is)
    (case c7 => k_is)
    (case k7 => k_is)
    (case z_all => k_is)
    (case z_bool => k_is)
    (case z_int => k_is)
    (case z_isinstance => k_is)
    (case z_len => k_is)
    (case z_list => k_is)
    (case z_range => k_is)
    (case z_set => k_is)
    (case z_sorted => k_is)
    (case z_tuple => k_is)
#print axioms PySem.Challenge.cw_latestow_k01_stretches_holds
