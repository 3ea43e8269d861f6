import PyProof.Rows.All
import Wide.All
import OpenK.AllK
import Wide.FinOn
import HandS.ForMost
import HandS.Exc
import HandS.WordsExc
import HandS.Wide
import HandS.IsInst
import HandS.Defaults
import HandS.MakeKwOnly
import HandS.Flow
import HandS.SortInts
import HandS.Conv
import HandS.Codes
import HandS.Walk
import HandS.AnyAll
import PySem.Challenge.RW_latestow_k14_paths
set_option Elab.async false
set_option linter.all false
set_option maxRecDepth 100000
set_option maxHeartbeats 4000000
/-! own rules over the hand layer -/
namespace Lt
open PySem PySem.Spec PyProof.Rows L2

theorem cx_no {P : Program} {w : World} {H : Hp} {s : Shared} {e : Value} {s' : Shared} (h : L2.CX P w [] H s (fun _ _ _ => False) e s') : False := by
  obtain ⟨_, _, _, _, _, _, _, _, _, _, _, _, z⟩ := h
  exact z

section
variable {X : Cx}
/-- a constant of the module -/
theorem pe_gl {x : Str} {v : V} {pos : Pos} (hg : Gl X x) (hm : ∃ u, X.mg x = some u ∧ RelV v u) (hd : (x == ("__debug__" : Str)) = false := by decide) : PE X (.Name x pos) (tC v) := by
  obtain ⟨u, h1, h2⟩ := hm
  exact pe_glob hg h1 h2 hd
/-- xs[k], 0 ≤ k, for xs[k] op= e -/
def rGetL (K : PySem.W.Frag) : V → V → Hp → VK → Prop := fun o i H Q => ∃ (p : Addr) (xs : List V) (k : Int) (v : V), o = .ref p ∧ i = .int k ∧ SqL K H p xs ∧ 0 ≤ k ∧ xs[k.toNat]? = some v ∧ Q v H
theorem gt_list : PGet X (rGetL X.K) := by
  intro pins s σ H o i ov iv Q I ro ri hw
  obtain ⟨p, xs, k, v, rfl, rfl, hx, h0, hv, hq⟩ := hw
  cases ro
  obtain ⟨tk, rfl⟩ := ri
  obtain ⟨its, rv, pl, hz⟩ := I.list hx
  obtain ⟨u, hu, ru⟩ := rv.get hv
  have hlt : k.toNat < xs.length := (List.getElem?_eq_some_iff.mp hv).1
  have hs : (sizeLine : Nat) < 2 ^ 63 := line63
  exact PySem.wpAny_getItem_list pl.isList h0 (by omega) (by simpa using hu) ⟨v, H, I, ru, hq⟩
theorem ip_of {op : Operator} {t : TIp} (h : OpR X (inplaceOp op) t) : PIp X op t := fun pins s σ H x y v u Q I rx ry q => h pins s σ H x y v u Q I rx ry q
theorem ps_augL {o i e : Expr} {to ti te : TE} {tip : TIp} {op : Operator} {tpos pos : Pos} (ho : PE X o to) (hi : PE X i ti) (he : PE X e te) (hp : OpR X (inplaceOp op) tip)
    (ha : ∀ ov iv new, augStore i ov iv new = (do holding [new, ov, iv] (setItem ov iv new); release [new, ov, iv] []; pure .next) := by intros; rfl) : PS X (.AugAssign (.Subscript o i tpos) op e pos) (tAugS to ti te (rGetL X.K) tip rSetL) :=
  ps_augS ho hi gt_list he (ip_of hp) set_list ha
/-- a statement, then a word of the state, then what follows from the word -/
def tMid (t u : TS) : TS := fun D σ H => ∃ M : L2.St → Hp → Prop, t { D with nx := M } σ H ∧ ∀ σ1 H1, M σ1 H1 → u D σ1 H1
theorem pss_mid {st : Stmt} {rest : List Stmt} {t u : TS} (hs : PS X st t) (hr : PSs X rest u) : PSs X (st :: rest) (tMid t u) := by
  refine ⟨fun pins s σ H D I hw => ?_⟩
  obtain ⟨M, h1, h2⟩ := hw
  exact wpAny_execs_cons (thn (hs.run pins s σ H { D with nx := M } I h1) fun f s1 hf => by
    cases f
    case next =>
      obtain ⟨σ1, H1, I1, m⟩ := hf
      exact hr.run pins s1 σ1 H1 D I1 (h2 σ1 H1 m)
    all_goals exact hf)
end

/-! ### heaps: all but b as it was -/
def SameB (b : Addr) (H H' : Hp) : Prop := ∀ a o, a ≠ b → H a = some o → H' a = some o
theorem SameB.refl (b : Addr) (H : Hp) : SameB b H H := fun _ _ _ h => h
theorem SameB.trans {b : Addr} {H H1 H2 : Hp} (x : SameB b H H1) (y : SameB b H1 H2) : SameB b H H2 := fun a o n h => y a o n (x a o n h)
theorem Same.toB {b : Addr} {H H' : Hp} (x : Same H H') : SameB b H H' := fun a o _ h => x a o h
theorem SameB.upd {b : Addr} {H H' : Hp} {o : HO} (x : SameB b H H') : SameB b H (upd H' b o) := fun a u n h => by rw [upd_ne n]; exact x a u n h
theorem SameB.new {b p : Addr} {H H' : Hp} {o : HO} (x : SameB b H H') (hp : H' p = none) : SameB b H (L2.upd H' p o) := fun a u n h => by
  have h1 := x a u n h
  rw [upd_ne (ne_of_none h1 hp)]
  exact h1
theorem SameB.mut {b p : Addr} {H H' : Hp} {o : HO} (x : SameB b H H') (hp : H p = none) : SameB b H (L2.upd H' p o) := fun a u n h => by
  rw [upd_ne (ne_of_none h hp)]
  exact x a u n h
theorem SameB.free {b p : Addr} {H H' : Hp} (x : SameB b H H') (n : p ≠ b) (hp : H' p = none) : H p = none := by
  cases e : H p with
  | none => rfl
  | some o =>
    have q := x p o n e
    rw [hp] at q
    cases q
theorem same_new {H : Hp} {p : Addr} {o : HO} (h : H p = none) : Same H (upd H p o) := fun b x e => by
  rw [upd_ne (ne_of_none e h)]
  exact e
theorem Same.new {p : Addr} {H H' : Hp} {o : HO} (x : Same H H') (hp : H' p = none) : Same H (L2.upd H' p o) := fun a u h => by
  have h1 := x a u h
  rw [upd_ne (ne_of_none h1 hp)]
  exact h1
/-- an object that H does not know may be written -/
theorem Same.mut {p : Addr} {H H' : Hp} {o : HO} (x : Same H H') (hp : H p = none) : Same H (L2.upd H' p o) := fun a u h => by
  rw [upd_ne (ne_of_none h hp)]
  exact x a u h
theorem SameB.seq {K : PySem.W.Frag} {b a : Addr} {H H' : Hp} {xs : List V} (x : SameB b H H') (n : a ≠ b) (h : SqL K H a xs) : SqL K H' a xs := by
  rcases h with (h | ⟨o, h⟩) | h
  · exact .inl (.inl (x _ _ n h))
  · exact .inl (.inr ⟨o, x _ _ n h⟩)
  · exact .inr h

/-! ### the bag of draws -/
/-- the bag at b over the numbers at l -/
def Bag (H : Hp) (b l : Addr) (ns : List Int) : Prop := ∃ (i r z : Int), 0 ≤ i ∧ H b = some (.lst [.ref l, .int i, .int r, .int z]) ∧ H l = some (.lst (ns.map V.int)) ∧ ns.length ≤ 63
theorem Bag.ne {H : Hp} {b l : Addr} {ns : List Int} (h : Bag H b l ns) : l ≠ b := by
  obtain ⟨i, r, z, _, h1, h2, _⟩ := h
  intro e
  subst e
  rw [h1] at h2
  cases ns with
  | nil => cases h2
  | cons n ns => cases h2
theorem Bag.mk {H : Hp} {b l : Addr} {ns : List Int} {i r z : Int} (h0 : 0 ≤ i) (h1 : H b = some (.lst [.ref l, .int i, .int r, .int z])) (h2 : H l = some (.lst (ns.map V.int))) (h3 : ns.length ≤ 63) : Bag H b l ns := ⟨i, r, z, h0, h1, h2, h3⟩
theorem Bag.keep {H H' : Hp} {b l : Addr} {ns : List Int} (h : Bag H b l ns) (s : Same H H') : Bag H' b l ns := by
  obtain ⟨i, r, z, h0, h1, h2, h3⟩ := h
  exact ⟨i, r, z, h0, s _ _ h1, s _ _ h2, h3⟩
/-- another list may turn -/
theorem Bag.updL {H : Hp} {b l D : Addr} {ns : List Int} {xs ys : List V} (h : Bag H b l ns) (hD : H D = some (.lst xs)) (n : D ≠ b) (n2 : D ≠ l := by first | assumption | skip) : Bag (upd H D (.lst ys)) b l ns := by
  obtain ⟨i, r, z, h0, h1, h2, h3⟩ := h
  exact ⟨i, r, z, h0, by rw [upd_ne n.symm]; exact h1, by rw [upd_ne n2.symm]; exact h2, h3⟩
theorem Bag.fresh {H : Hp} {b l D : Addr} {ns : List Int} (h : Bag H b l ns) (nD : H D = none) : D ≠ b ∧ D ≠ l := by
  obtain ⟨i, r, z, h0, h1, h2, h3⟩ := h
  exact ⟨(ne_of_none h1 nD).symm, (ne_of_none h2 nD).symm⟩
theorem cut_none (xs : List V) (n : Nat) : cutV xs none (some (n : Int)) = xs.take n := by
  unfold cutV
  rw [HT.sIx_none, show HT.sIx xs.length xs.length (some (n : Int)) = min n xs.length from HT.sIx_nat _ _ n, List.drop_zero, Nat.sub_zero]
  by_cases h : n ≤ xs.length
  · rw [Nat.min_eq_left h]
  · rw [Nat.min_eq_right (by omega), List.take_length, List.take_of_length_le (by omega)]
theorem sz {n : Nat} (h : n ≤ 1000) : n ≤ sizeLine := Nat.le_trans h (by decide)
theorem pull_pick {xs : List V} {v n : Int} (lo hi : Int) (h0 : 0 ≤ v) (h1 : v < n) (hn : n = (xs.length : Int)) (hP : ∀ x ∈ xs, ∃ t, x = V.int t ∧ lo ≤ t ∧ t ≤ hi) : ∃ t, atI xs v = some (.int t) ∧ lo ≤ t ∧ t ≤ hi := by
  have hl : v.toNat < xs.length := by omega
  have e : (v.toNat : Int) = v := Int.toNat_of_nonneg h0
  obtain ⟨t, et, h2⟩ := hP _ (List.getElem_mem hl)
  refine ⟨t, ?_, h2⟩
  have q := atI_nat (xs := xs) (List.getElem?_eq_getElem hl)
  rw [e, et] at q
  exact q
theorem atI_pick {xs : List V} {v : Int} (P : V → Prop) (h0 : 0 ≤ v) (h1 : v < (xs.length : Int)) (hP : ∀ x ∈ xs, P x) : ∃ x, atI xs v = some x ∧ P x := by
  have hl : v.toNat < xs.length := by omega
  have e : (v.toNat : Int) = v := Int.toNat_of_nonneg h0
  refine ⟨xs[v.toNat], ?_, hP _ (List.getElem_mem hl)⟩
  have q := atI_nat (xs := xs) (List.getElem?_eq_getElem hl)
  rw [e] at q
  exact q
end Lt
namespace Lt
open PySem PySem.Spec PyProof.Rows L2
/-! the readings, one combinator a step -/
section
variable {K : PySem.W.Frag} {D : Ends} {σ : L2.St} {H : Hp} {Q : VK} {ta tb te tx : TE} {t u : TS} {c : TT} {i j : Int} {v x y : V} {p a : Addr} {xs : List V} {E : XK}
theorem k_seq (h : t { D with nx := u D } σ H) : tSeq t u D σ H := h
theorem k_next (h : D.nx σ H) : tNext D σ H := h
theorem k_ifS (h : c σ H fun b H1 => if b = true then t D σ H1 else u D σ H1) : tIfS c t u D σ H := h
theorem k_ret (h : te σ H D.rt) : tRet te D σ H := h
theorem k_drop (h : te σ H fun _ H1 => D.nx σ H1) : tDrop te D σ H := h
theorem k_asg {g : TG} (h : te σ H fun x H1 => g x σ H1 D.nx) : tAsg te g D σ H := h
theorem k_gName {n : Nat} {Qs : L2.St → Hp → Prop} (h : Qs (σ.set n (some v)) H) : gName n v σ H Qs := h
theorem k_gSub {to ti : TE} {tt : TSet} {Qs : L2.St → Hp → Prop} (h : to σ H fun o H1 => ti σ H1 fun i H2 => tt o i v H2 fun H3 => Qs σ H3) : gSub to ti tt v σ H Qs := h
theorem k_setL {xs : List V} {k : Int} {n : Nat} {Qh : Hp → Prop} (h1 : H p = some (.lst xs)) (h2 : ixN xs.length k = some n) (h : Qh (upd H p (.lst (xs.set n v)))) : rSetL (.ref p) (.int k) v H Qh := ⟨p, xs, k, n, rfl, rfl, h1, h2, h⟩
theorem k_var {n : Nat} (h1 : σ[n]? = some (some v)) (h : Q v H) : tVar n σ H Q := ⟨v, h1, h⟩
theorem k_c (h : Q v H) : tC v σ H Q := h
theorem k_op {r : R2} (h : ta σ H fun x H1 => tb σ H1 fun y H2 => r x y H2 Q) : tOp r ta tb σ H Q := h
theorem k_un {r : V → Hp → VK → Prop} (h : ta σ H fun x H1 => r x H1 Q) : tUn r ta σ H Q := h
theorem k_I0 {g : Int → Int → V} (h : Q (g i j) H) : rI0 g (.int i) (.int j) H Q := ⟨i, j, rfl, rfl, h⟩
theorem k_I {C : Int → Int → Prop} {g : Int → Int → V} (hc : C i j) (h : Q (g i j) H) : rI C g (.int i) (.int j) H Q := ⟨i, j, rfl, rfl, hc, h⟩
theorem k_U {g : Int → V} (h : Q (g i) H) : rU g (.int i) H Q := ⟨i, rfl, h⟩
theorem k_ixL (h1 : SqL K H p xs) (h2 : atI xs i = some v) (h : Q v H) : rIxL K (.ref p) (.int i) H Q := ⟨p, xs, i, v, rfl, rfl, h1, h2, h⟩
theorem k_ixT (h1 : SqT K H p xs) (h2 : atI xs i = some v) (h : Q v H) : rIxT K (.ref p) (.int i) H Q := ⟨p, xs, i, v, rfl, rfl, h1, h2, h⟩
theorem k_getL {k : Int} (h1 : SqL K H p xs) (h0 : 0 ≤ k) (h2 : xs[k.toNat]? = some v) (h : Q v H) : rGetL K (.ref p) (.int k) H Q := ⟨p, xs, k, v, rfl, rfl, h1, h0, h2, h⟩
theorem k_tst {Qb : Bool → Hp → Prop} (h : te σ H fun x H' => ∃ k, x = .bl k ∧ Qb k H') : tTest te σ H Qb := h
theorem k_tB {Qb : Bool → Hp → Prop} (h : te σ H fun x H' => ∃ k, x = .bl k ∧ Qb k H') : tB te σ H Qb := h
theorem k_bl {b : Bool} {Qb : Bool → Hp → Prop} (h : Qb b H) : ∃ k, V.bl b = .bl k ∧ Qb k H := ⟨b, rfl, h⟩
theorem k_cb {r : List V → Hp → VK → Prop} {ts : TA} (h : ts σ H fun vs H1 => r vs H1 Q) : tCB r ts σ H Q := h
theorem k_cons {ts : TA} {Ql : List V → Hp → Prop} (h : te σ H fun x H1 => ts σ H1 fun xs H2 => Ql (x :: xs) H2) : tCons te ts σ H Ql := h
theorem k_nil {Ql : List V → Hp → Prop} (h : Ql [] H) : tNil σ H Ql := h
theorem k_call {sp : Sp} {dvs : List V} {ts : TA} (h : ts σ H fun vs H1 => sp (vs ++ dvs) H1 Q E) : tCall sp dvs E ts σ H Q := h
theorem k_callN {n m : Nat} {sp : Sp} {gV : List V → List V → List V} {t1 t2 : TA} (h : t1 σ H fun vs H1 => t2 σ H1 fun zs H2 => vs.length = n ∧ zs.length = m ∧ sp (gV vs zs) H2 Q E) : tCallN n m sp gV E t1 t2 σ H Q := h
theorem k_isi {b : Bool} {n m : String} (ht : TyX K H x (.type m)) (hk : kitB m n = some b) (h : Q (.bl b) H) : rIsi K [x, .ty n] H Q := ⟨x, .ty n, _, _, b, rfl, .ty n, ht, kit_ty hk, h⟩
theorem isi_ii : kitB "int" "int" = some true := by decide +kernel
theorem isi_ib : kitB "int" "bool" = some false := by decide +kernel
theorem isi_bi : kitB "bool" "int" = some true := by decide +kernel
theorem isi_bb : kitB "bool" "bool" = some true := by decide +kernel
theorem isi_is : kitB "int" "str" = some false := by decide +kernel
theorem isi_si : kitB "str" "int" = some false := by decide +kernel
theorem isi_ss : kitB "str" "str" = some true := by decide +kernel
theorem isi_ll : kitB "list" "list" = some true := by decide +kernel
theorem isi_tt : kitB "tuple" "tuple" = some true := by decide +kernel
theorem isi_lt : kitB "list" "tuple" = some false := by decide +kernel
theorem isi_tl : kitB "tuple" "list" = some false := by decide +kernel
theorem isi_ni : kitB "NoneType" "int" = some false := by decide +kernel
theorem isi_dd : kitB "dict" "dict" = some true := by decide +kernel
theorem k_lst {ts : TA} (h : ts σ H fun xs H1 => xs.length ≤ sizeLine ∧ ∀ p, H1 p = none → Q (.ref p) (upd H1 p (.lst xs))) : tLst ts σ H Q := h
theorem k_tup {ts : TA} (h : ts σ H fun xs H1 => xs.length ≤ sizeLine ∧ ∀ p, H1 p = none → Q (.ref p) (upd H1 p (.tup xs))) : tTup ts σ H Q := h
theorem k_and {tt uu : TT} {Qb : Bool → Hp → Prop} (h : tt σ H fun c H1 => if c = true then uu σ H1 Qb else Qb false H1) : tAnd tt uu σ H Qb := h
theorem k_or {tt uu : TT} {Qb : Bool → Hp → Prop} (h : tt σ H fun c H1 => if c = true then Qb true H1 else uu σ H1 Qb) : tOr tt uu σ H Qb := h
theorem k_not {tt : TT} {Qb : Bool → Hp → Prop} (h : tt σ H fun c H1 => Qb (!c) H1) : tNot tt σ H Qb := h
theorem k_andV (h : ta σ H fun x H1 => ∃ c, x = .bl c ∧ if c = true then tb σ H1 Q else Q (.bl false) H1) : tAndV ta tb σ H Q := h
theorem k_orV (h : ta σ H fun x H1 => ∃ c, x = .bl c ∧ if c = true then Q (.bl true) H1 else tb σ H1 Q) : tOrV ta tb σ H Q := h
theorem k_notV (h : ta σ H fun x H1 => ∃ c, x = .bl c ∧ Q (.bl (!c)) H1) : tNotV ta σ H Q := h
theorem k_ifE {tt : TT} (h : tt σ H fun c H1 => if c = true then ta σ H1 Q else tb σ H1 Q) : tIf tt ta tb σ H Q := h
theorem k_eqV (hs : scal x y = true) (h : Q (.bl (decide (x = y))) H) : rEq x y H Q := ⟨hs, h⟩
theorem k_neV (hs : scal x y = true) (h : Q (.bl (!decide (x = y))) H) : rNe x y H Q := ⟨hs, h⟩
theorem k_augS {to ti te : TE} {tget : V → V → Hp → VK → Prop} {tip : TIp} {tset : TSet} (h : to σ H fun o H1 => ti σ H1 fun i H2 => tget o i H2 fun x H3 => te σ H3 fun y H4 => tip x y H4 fun z H5 => tset o i z H5 fun H6 => D.nx σ H6) : tAugS to ti te tget tip tset D σ H := h
theorem k_aug {n : Nat} {ti : TIp} (h1 : σ[n]? = some (some x)) (h : te σ H fun y H1 => ti x y H1 fun z H2 => D.nx (σ.set n (some z)) H2) : tAug n te ti D σ H := ⟨x, h1, h⟩
theorem k_ipI {f : Int → Int → Int} (h : Q (.int (f i j)) H) : ipI f (.int i) (.int j) H Q := ⟨i, j, rfl, rfl, h⟩
theorem k_sl {r : V → Option Int → Option Int → Hp → VK → Prop} {tl th : TO} (h : te σ H fun x H1 => tl σ H1 fun lo H2 => th σ H2 fun hi H3 => r x lo hi H3 Q) : tSl r te tl th σ H Q := h
theorem k_noPart {Qo : Option Int → Hp → Prop} (h : Qo none H) : tNoPart σ H Qo := h
theorem k_part {Qo : Option Int → Hp → Prop} (h : te σ H fun x H1 => ∃ i, x = .int i ∧ Qo (some i) H1) : tPart te σ H Qo := h
theorem k_int {Qi : Int → Hp → Prop} (h : Qi i H) : ∃ k, V.int i = .int k ∧ Qi k H := ⟨i, rfl, h⟩
theorem k_slL {lo hi : Option Int} (h1 : SqL K H p xs) (h : ∀ q, H q = none → Q (.ref q) (upd H q (.lst (cutV xs lo hi)))) : rSlL K (.ref p) lo hi H Q := ⟨p, xs, rfl, h1, h⟩
theorem k_iteD {q A B : Prop} [Decidable q] (h1 : q → A) (h2 : ¬ q → B) : if decide q = true then A else B := by
  by_cases h : q
  · rw [decide_eq_true h]
    exact h1 h
  · rw [decide_eq_false h]
    exact h2 h
theorem k_iteN {q A B : Prop} [Decidable q] (h1 : ¬ q → A) (h2 : q → B) : if (!decide q) = true then A else B := by
  by_cases h : q
  · rw [decide_eq_true h]
    exact h2 h
  · rw [decide_eq_false h]
    exact h1 h
theorem k_iteB {b : Bool} {A B : Prop} (h1 : b = true → A) (h2 : b = false → B) : if b = true then A else B := by
  cases b
  · exact h2 rfl
  · exact h1 rfl
theorem k_ite0 {A B : Prop} (h : B) : if false = true then A else B := h
theorem k_ite1 {A B : Prop} (h : A) : if true = true then A else B := h
theorem k_iteN1 {A B : Prop} (h : B) : if (!true) = true then A else B := h
theorem k_iteN0 {A B : Prop} (h : A) : if (!false) = true then A else B := h
theorem k_iteT {b : Bool} {A B : Prop} (e : b = true) (h : A) : if b = true then A else B := by
  rw [if_pos e]
  exact h
theorem k_iteF {b : Bool} {A B : Prop} (e : b = false) (h : B) : if b = true then A else B := by
  rw [e]
  exact h
theorem k_iteD1 {q A B : Prop} [Decidable q] (e : q) (h : A) : if decide q = true then A else B := k_iteT (decide_eq_true e) h
theorem k_iteD2 {q A B : Prop} [Decidable q] (e : ¬ q) (h : B) : if decide q = true then A else B := k_iteF (decide_eq_false e) h
theorem k_bm {T : String} {r : V → List V → Hp → VK → Prop} {ts : TA} (h : te σ H fun x H1 => tyV K T x H1 ∧ ts σ H1 fun xs H2 => r x xs H2 Q) : tBM K T r te ts σ H Q := h
theorem k_bm0 {T : String} {r : V → List V → Hp → VK → Prop} (h : te σ H fun x H1 => tyV K T x H1 ∧ r x [] H1 Q) : tBM0 K T r te σ H Q := h
theorem k_tyL {A : Prop} (h1 : H p = some (.lst xs)) (h : A) : tyV K "list" (.ref p) H ∧ A := ⟨.inl ⟨rfl, _, SqL.of h1⟩, h⟩
theorem k_app (h1 : H p = some (.lst xs)) (h2 : xs.length ≤ 1000) (h : Q .non (upd H p (.lst (xs ++ [v])))) : rAppend (.ref p) [v] H Q := ⟨p, xs, v, rfl, rfl, h1, small1000 h2, h⟩
theorem k_lstRg {tr : L2.St → Hp → (Int → Int → Hp → Prop) → Prop} (h : tr σ H fun a b H1 => RgOk a b ∧ ∀ q, H1 q = none → Q (.ref q) (upd H1 q (.lst (rgV a b)))) : tLstRg tr σ H Q := h
theorem k_rg1 {Qr : Int → Int → Hp → Prop} (h : ta σ H fun x H1 => ∃ n, x = .int n ∧ Qr 0 n H1) : tRg1 ta σ H Qr := h
theorem k_rg2 {Qr : Int → Int → Hp → Prop} (h : ta σ H fun x H1 => tb σ H1 fun y H2 => ∃ i j, x = .int i ∧ y = .int j ∧ Qr i j H2) : tRg2 ta tb σ H Qr := h
theorem k_cat {xs ys : List V} {q : Addr} (h1 : H p = some (.lst xs)) (h2 : H q = some (.lst ys)) (h3 : xs.length + ys.length ≤ 100000) (h : ∀ r, H r = none → Q (.ref r) (upd H r (.lst (xs ++ ys)))) : rCat (.ref p) (.ref q) H Q :=
  ⟨p, q, xs, ys, rfl, rfl, h1, h2, Nat.le_trans h3 (by decide), h⟩
theorem k_iteNN {q A B : Prop} [Decidable q] (e : ¬ q) (h : A) : if (!decide q) = true then A else B := k_iteT (by rw [decide_eq_false e]; rfl) h
theorem k_iteNY {q A B : Prop} [Decidable q] (e : q) (h : B) : if (!decide q) = true then A else B := k_iteF (by rw [decide_eq_true e]; rfl) h
theorem k_rfl {x : V} {A : Prop} (h : A) : x = x ∧ A := ⟨rfl, h⟩
theorem k_iteE {A B : Prop} {x : V} (h : A) : if decide (x = x) = true then A else B := k_iteT (decide_eq_true rfl) h
theorem k_iteNE {A B : Prop} {x : V} (h : B) : if (!decide (x = x)) = true then A else B := k_iteF (by rw [decide_eq_true rfl]; rfl) h
theorem k_for {wi : TI} {g : TG} {tb : TS} (h : wi σ H fun J H1 => ∃ W : Nat → Nat → L2.St → Hp → Prop, (∃ m, W 0 m σ H1) ∧ ∀ i m σ H, W i m σ H →
    (J.stop i H ∧ D.nx σ H) ∨ (J.go i H ∧ ∃ N : L2.St → Hp → Prop, (∀ σ' H', N σ' H' → ∃ m', m' < m ∧ W (i + 1) m' σ' H') ∧ ∀ x H', J.yld i H x H' → g x σ H' fun σ2 H2 => tb { D with nx := N, ct := N, bk := D.nx } σ2 H2)) : tFor wi g tb D σ H := h
theorem k_iL {R : It → Hp → Prop} (h : te σ H fun x H1 => ∃ a, x = .ref a ∧ (∃ xs, SqL K H1 a xs) ∧ R (Itl K a) H1) : iList K te σ H R := h
theorem k_iT {R : It → Hp → Prop} (h : te σ H fun x H1 => ∃ a, x = .ref a ∧ (∃ xs, SqT K H1 a xs) ∧ R (Itt K a) H1) : iTup K te σ H R := h
theorem k_iR1 {ts : TA} {R : It → Hp → Prop} (h : ts σ H fun vs H1 => ∃ j : Int, vs = [.int j] ∧ -(2 ^ 62) ≤ j ∧ j < 2 ^ 62 ∧ R (Itr 0 j.toNat) H1) : iRng1 ts σ H R := h
theorem k_iR2 {ts : TA} {R : It → Hp → Prop} (h : ts σ H fun vs H1 => ∃ i j : Int, vs = [.int i, .int j] ∧ (-(2 ^ 62) ≤ i ∧ i < 2 ^ 62 ∧ -(2 ^ 62) ≤ j ∧ j < 2 ^ 62) ∧ R (Itr i (j - i).toNat) H1) : iRng2 ts σ H R := h
/-- a for over a list: what is left behind the steps -/
theorem k_inL {g : TG} {tb : TS} {Nx : L2.St → Hp → Prop} {R : VK} (Pv : Nat → L2.St → Hp → Prop) (hq : SqL K H a xs) (h0 : Pv 0 σ H) (hl : ∀ i σ H, i ≤ xs.length → Pv i σ H → SqL K H a xs)
    (hs : ∀ i x σ H, xs[i]? = some x → Pv i σ H → g x σ H fun σ2 H2 => tb { nx := Pv (i + 1), rt := R, bk := Nx, ct := Pv (i + 1) } σ2 H2) (hd : ∀ σ H, Pv xs.length σ H → Nx σ H) :
    (∃ xs, SqL K H a xs) ∧ ∃ W : Nat → Nat → L2.St → Hp → Prop, (∃ m, W 0 m σ H) ∧ ∀ i m σ H, W i m σ H →
      ((Itl K a).stop i H ∧ Nx σ H) ∨ ((Itl K a).go i H ∧ ∃ N : L2.St → Hp → Prop, (∀ σ' H', N σ' H' → ∃ m', m' < m ∧ W (i + 1) m' σ' H') ∧ ∀ x H', (Itl K a).yld i H x H' → g x σ H' fun σ2 H2 => tb { nx := N, rt := R, bk := Nx, ct := N } σ2 H2) :=
  ⟨⟨xs, hq⟩, for_list (D := { nx := Nx, rt := R }) Pv h0 hl hs hd⟩
theorem k_inT {g : TG} {tb : TS} {Nx : L2.St → Hp → Prop} {R : VK} (Pv : Nat → L2.St → Hp → Prop) (hq : SqT K H a xs) (h0 : Pv 0 σ H) (hl : ∀ i σ H, i ≤ xs.length → Pv i σ H → SqT K H a xs)
    (hs : ∀ i x σ H, xs[i]? = some x → Pv i σ H → g x σ H fun σ2 H2 => tb { nx := Pv (i + 1), rt := R, bk := Nx, ct := Pv (i + 1) } σ2 H2) (hd : ∀ σ H, Pv xs.length σ H → Nx σ H) :
    (∃ xs, SqT K H a xs) ∧ ∃ W : Nat → Nat → L2.St → Hp → Prop, (∃ m, W 0 m σ H) ∧ ∀ i m σ H, W i m σ H →
      ((Itt K a).stop i H ∧ Nx σ H) ∨ ((Itt K a).go i H ∧ ∃ N : L2.St → Hp → Prop, (∀ σ' H', N σ' H' → ∃ m', m' < m ∧ W (i + 1) m' σ' H') ∧ ∀ x H', (Itt K a).yld i H x H' → g x σ H' fun σ2 H2 => tb { nx := N, rt := R, bk := Nx, ct := N } σ2 H2) :=
  ⟨⟨xs, hq⟩, for_tup (D := { nx := Nx, rt := R }) Pv h0 hl hs hd⟩
/-- range(n), range(lo, hi) -/
theorem k_inR {lo : Int} {n : Nat} {g : TG} {tb : TS} {Nx : L2.St → Hp → Prop} {R : VK} (Pv : Nat → L2.St → Hp → Prop) (h0 : Pv 0 σ H)
    (hs : ∀ i σ H, i < n → Pv i σ H → g (.int (lo + i)) σ H fun σ2 H2 => tb { nx := Pv (i + 1), rt := R, bk := Nx, ct := Pv (i + 1) } σ2 H2) (hd : ∀ σ H, Pv n σ H → Nx σ H) :
    ∃ W : Nat → Nat → L2.St → Hp → Prop, (∃ m, W 0 m σ H) ∧ ∀ i m σ H, W i m σ H →
      ((Itr lo n).stop i H ∧ Nx σ H) ∨ ((Itr lo n).go i H ∧ ∃ N : L2.St → Hp → Prop, (∀ σ' H', N σ' H' → ∃ m', m' < m ∧ W (i + 1) m' σ' H') ∧ ∀ x H', (Itr lo n).yld i H x H' → g x σ H' fun σ2 H2 => tb { nx := N, rt := R, bk := Nx, ct := N } σ2 H2) :=
  for_range (D := { nx := Nx, rt := R }) Pv h0 hs hd
theorem k_lenL {B : Addr → List V → Prop} (h1 : SqL K H a xs) (h : B a xs) : ∃ p ys, [V.ref a] = [V.ref p] ∧ (SqL K H p ys ∨ SqT K H p ys) ∧ B p ys := ⟨a, xs, rfl, .inl h1, h⟩
theorem k_lenT {B : Addr → List V → Prop} (h1 : SqT K H a xs) (h : B a xs) : ∃ p ys, [V.ref a] = [V.ref p] ∧ (SqL K H p ys ∨ SqT K H p ys) ∧ B p ys := ⟨a, xs, rfl, .inr h1, h⟩
theorem k_expr {sp : Sp} (h : sp [] H Q E) : sp [] H Q E := h
theorem k_tup1 {K : PySem.W.Frag} {n : Nat} {ts : TGs} {Qs : L2.St → Hp → Prop} (h1 : SqT K H a xs) (h2 : xs.length = n) (h : ts xs σ H Qs) : gTup K n ts (.ref a) σ H Qs := ⟨a, xs, rfl, h1, h2, h⟩
theorem k_gCons {g : TG} {gs : TGs} {r : List V} {Qs : L2.St → Hp → Prop} (h : g v σ H fun σ' H' => gs r σ' H' Qs) : gCons g gs (v :: r) σ H Qs := ⟨v, r, rfl, h⟩
theorem k_gNil {Qs : L2.St → Hp → Prop} (h : Qs σ H) : gNil [] σ H Qs := ⟨rfl, h⟩
theorem k_fld {C dx : Addr} {f : Str} {fs : List (Str × V)} (h : ta σ H fun x H1 => ∃ a C dx fs v, x = .ref a ∧ H1 a = some (.ins C dx fs) ∧ Cls K C ∧ NoAttr K C f ∧ fs.lookup f = some v ∧ Q v H1) : tFld K ta f σ H Q := h
theorem Same.get {H H' : Hp} {o : HO} (s : Same H H') (h : H a = some o) : H' a = some o := s _ _ h
theorem SameB.get {b : Addr} {H H' : Hp} {o : HO} (s : SameB b H H') (n : a ≠ b) (h : H a = some o) : H' a = some o := s _ _ n h
theorem ne_upd {b : Addr} {o u : HO} (h : a ≠ b) (e : H a = some u) : upd H b o a = some u := by
  rw [upd_ne h]
  exact e
end
end Lt
/-! list comprehensions -/
namespace Lt
open PySem PySem.Spec PyProof.Rows L2
/-- behind i turns the list at D holds acc -/
def LcP (Pv : Addr → Nat → List V → Hp → Prop) (D : Addr) (i : Nat) (H : Hp) : Prop := ∃ acc, H D = some (.lst acc) ∧ acc.length ≤ i ∧ Pv D i acc H
section
variable {K : PySem.W.Frag} {σ : L2.St} {H : Hp} {Q : VK} {te : TE} {tt : TT} {g : TG} {vs : List Nat} {a : Addr} {xs : List V} {wi : TI}
theorem lc_end {Pv : Addr → Nat → List V → Hp → Prop} {D : Addr} {i : Nat} {y : V} {acc : List V} (h1 : H D = some (.lst acc)) (h2 : acc.length ≤ i) (hi : i < 1000) (h3 : Pv D (i + 1) (acc ++ [y]) (upd H D (.lst (acc ++ [y])))) :
    ∃ acc, H D = some (.lst acc) ∧ acc.length < sizeLine ∧ LcP Pv D (i + 1) (upd H D (.lst (acc ++ [y]))) :=
  ⟨acc, h1, small1000 (by omega), acc ++ [y], upd_same, (by rw [List.length_append, List.length_singleton]; omega), h3⟩
theorem lc_skip {Pv : Addr → Nat → List V → Hp → Prop} {D : Addr} {i : Nat} {acc : List V} (h1 : H D = some (.lst acc)) (h2 : acc.length ≤ i) (h3 : Pv D (i + 1) acc H) : LcP Pv D (i + 1) H := ⟨acc, h1, by omega, h3⟩
theorem k_lc (h : wi σ H fun J H1 => ∀ D, H1 D = none → ∃ W : Nat → Nat → Hp → Prop, (∃ m, W 0 m (upd H1 D (.lst []))) ∧ ∀ i m H, W i m H →
    (J.stop i H ∧ Q (.ref D) H) ∨ (J.go i H ∧ ∃ Nx : Hp → Prop, (∀ H', Nx H' → ∃ m', m' < m ∧ W (i + 1) m' H') ∧ ∀ x H', J.yld i H x H' → g x (wipe σ vs) H' fun σ2 H2 => wipe σ2 vs = wipe σ vs ∧ tt σ2 H2 fun b H3 =>
      if b = true then te σ2 H3 fun y H4 => ∃ acc, H4 D = some (.lst acc) ∧ acc.length < sizeLine ∧ Nx (upd H4 D (.lst (acc ++ [y]))) else Nx H3)) : tLc wi g tt te vs σ H Q := h
theorem k_wipe {σ1 σ2 : L2.St} {ws : List Nat} {A : Prop} (e : wipe σ1 ws = wipe σ2 ws) (h : A) : wipe σ1 ws = wipe σ2 ws ∧ A := ⟨e, h⟩
theorem k_allT {n : Nat} (hx : H a = some (.lst (List.replicate n (V.bl true)))) (h : Q (.bl true) H) : rAll K [.ref a] H Q := by
  refine ⟨a, List.replicate n true, rfl, SqL.of (by rw [hx, List.map_replicate]), ?_⟩
  rw [show (List.replicate n true).all id = true by simp]
  exact h
theorem k_anyF {n : Nat} (hx : H a = some (.lst (List.replicate n (V.bl false)))) (h : Q (.bl false) H) : rAny K [.ref a] H Q := by
  refine ⟨a, List.replicate n false, rfl, SqL.of (by rw [hx, List.map_replicate]), ?_⟩
  rw [show (List.replicate n false).any id = false by simp]
  exact h
theorem int_at {ks : List Int} {i : Nat} {x : V} (h : (ks.map V.int)[i]? = some x) : ∃ k, x = V.int k ∧ ks[i]? = some k := by
  rw [List.getElem?_map] at h
  cases e : ks[i]? with
  | none =>
    rw [e] at h
    cases h
  | some k =>
    rw [e] at h
    exact ⟨k, (Option.some.inj h).symm, rfl⟩
theorem k_yes {Qb : Bool → Hp → Prop} (h : Qb true H) : tYes σ H Qb := h
theorem k_lcL {Qd : Addr → Hp → Prop} (Pv : Addr → Nat → List V → Hp → Prop) (hq : SqL K H a xs) (h0 : ∀ D, H D = none → Pv D 0 [] (upd H D (.lst []))) (hl : ∀ D i acc H', H D = none → H' D = some (.lst acc) → Pv D i acc H' → SqL K H' a xs)
    (hs : ∀ D i x acc H', H D = none → i < xs.length → xs[i]? = some x → H' D = some (.lst acc) → acc.length ≤ i → Pv D i acc H' → g x (wipe σ vs) H' fun σ2 H2 => wipe σ2 vs = wipe σ vs ∧ tt σ2 H2 fun b H3 =>
      if b = true then te σ2 H3 fun y H4 => ∃ acc, H4 D = some (.lst acc) ∧ acc.length < sizeLine ∧ LcP Pv D (i + 1) (upd H4 D (.lst (acc ++ [y]))) else LcP Pv D (i + 1) H3)
    (h : ∀ D acc H', H D = none → H' D = some (.lst acc) → acc.length ≤ xs.length → Pv D xs.length acc H' → Qd D H') :
    (∃ xs, SqL K H a xs) ∧ ∀ D, H D = none → ∃ W : Nat → Nat → Hp → Prop, (∃ m, W 0 m (upd H D (.lst []))) ∧ ∀ i m H, W i m H →
      ((Itl K a).stop i H ∧ Qd D H) ∨ ((Itl K a).go i H ∧ ∃ Nx : Hp → Prop, (∀ H', Nx H' → ∃ m', m' < m ∧ W (i + 1) m' H') ∧ ∀ x H', (Itl K a).yld i H x H' → g x (wipe σ vs) H' fun σ2 H2 => wipe σ2 vs = wipe σ vs ∧ tt σ2 H2 fun b H3 =>
        if b = true then te σ2 H3 fun y H4 => ∃ acc, H4 D = some (.lst acc) ∧ acc.length < sizeLine ∧ Nx (upd H4 D (.lst (acc ++ [y]))) else Nx H3) := by
  refine ⟨⟨xs, hq⟩, fun D nD => lc_list (xs := xs) (LcP Pv D) ⟨[], upd_same, Nat.le_refl _, h0 D nD⟩ (fun i H' _ hp => ?_) (fun i x H' hx hp => ?_) fun H' hp => ?_⟩
  · obtain ⟨acc, e1, _, e3⟩ := hp
    exact hl D i acc H' nD e1 e3
  · obtain ⟨acc, e1, e2, e3⟩ := hp
    exact hs D i x acc H' nD (List.getElem?_eq_some_iff.mp hx).1 hx e1 e2 e3
  · obtain ⟨acc, e1, e2, e3⟩ := hp
    exact h D acc H' nD e1 e2 e3
theorem k_lcT {Qd : Addr → Hp → Prop} (Pv : Addr → Nat → List V → Hp → Prop) (hq : SqT K H a xs) (h0 : ∀ D, H D = none → Pv D 0 [] (upd H D (.lst []))) (hl : ∀ D i acc H', H D = none → H' D = some (.lst acc) → Pv D i acc H' → SqT K H' a xs)
    (hs : ∀ D i x acc H', H D = none → i < xs.length → xs[i]? = some x → H' D = some (.lst acc) → acc.length ≤ i → Pv D i acc H' → g x (wipe σ vs) H' fun σ2 H2 => wipe σ2 vs = wipe σ vs ∧ tt σ2 H2 fun b H3 =>
      if b = true then te σ2 H3 fun y H4 => ∃ acc, H4 D = some (.lst acc) ∧ acc.length < sizeLine ∧ LcP Pv D (i + 1) (upd H4 D (.lst (acc ++ [y]))) else LcP Pv D (i + 1) H3)
    (h : ∀ D acc H', H D = none → H' D = some (.lst acc) → acc.length ≤ xs.length → Pv D xs.length acc H' → Qd D H') :
    (∃ xs, SqT K H a xs) ∧ ∀ D, H D = none → ∃ W : Nat → Nat → Hp → Prop, (∃ m, W 0 m (upd H D (.lst []))) ∧ ∀ i m H, W i m H →
      ((Itt K a).stop i H ∧ Qd D H) ∨ ((Itt K a).go i H ∧ ∃ Nx : Hp → Prop, (∀ H', Nx H' → ∃ m', m' < m ∧ W (i + 1) m' H') ∧ ∀ x H', (Itt K a).yld i H x H' → g x (wipe σ vs) H' fun σ2 H2 => wipe σ2 vs = wipe σ vs ∧ tt σ2 H2 fun b H3 =>
        if b = true then te σ2 H3 fun y H4 => ∃ acc, H4 D = some (.lst acc) ∧ acc.length < sizeLine ∧ Nx (upd H4 D (.lst (acc ++ [y]))) else Nx H3) := by
  refine ⟨⟨xs, hq⟩, fun D nD => lc_tup (xs := xs) (LcP Pv D) ⟨[], upd_same, Nat.le_refl _, h0 D nD⟩ (fun i H' _ hp => ?_) (fun i x H' hx hp => ?_) fun H' hp => ?_⟩
  · obtain ⟨acc, e1, _, e3⟩ := hp
    exact hl D i acc H' nD e1 e3
  · obtain ⟨acc, e1, e2, e3⟩ := hp
    exact hs D i x acc H' nD (List.getElem?_eq_some_iff.mp hx).1 hx e1 e2 e3
  · obtain ⟨acc, e1, e2, e3⟩ := hp
    exact h D acc H' nD e1 e2 e3
theorem k_lcR {Qd : Addr → Hp → Prop} {lo : Int} {n : Nat} (Pv : Addr → Nat → List V → Hp → Prop) (h0 : ∀ D, H D = none → Pv D 0 [] (upd H D (.lst [])))
    (hs : ∀ D i acc H', H D = none → i < n → H' D = some (.lst acc) → acc.length ≤ i → Pv D i acc H' → g (.int (lo + i)) (wipe σ vs) H' fun σ2 H2 => wipe σ2 vs = wipe σ vs ∧ tt σ2 H2 fun b H3 =>
      if b = true then te σ2 H3 fun y H4 => ∃ acc, H4 D = some (.lst acc) ∧ acc.length < sizeLine ∧ LcP Pv D (i + 1) (upd H4 D (.lst (acc ++ [y]))) else LcP Pv D (i + 1) H3)
    (h : ∀ D acc H', H D = none → H' D = some (.lst acc) → acc.length ≤ n → Pv D n acc H' → Qd D H') :
    ∀ D, H D = none → ∃ W : Nat → Nat → Hp → Prop, (∃ m, W 0 m (upd H D (.lst []))) ∧ ∀ i m H, W i m H →
      ((Itr lo n).stop i H ∧ Qd D H) ∨ ((Itr lo n).go i H ∧ ∃ Nx : Hp → Prop, (∀ H', Nx H' → ∃ m', m' < m ∧ W (i + 1) m' H') ∧ ∀ x H', (Itr lo n).yld i H x H' → g x (wipe σ vs) H' fun σ2 H2 => wipe σ2 vs = wipe σ vs ∧ tt σ2 H2 fun b H3 =>
        if b = true then te σ2 H3 fun y H4 => ∃ acc, H4 D = some (.lst acc) ∧ acc.length < sizeLine ∧ Nx (upd H4 D (.lst (acc ++ [y]))) else Nx H3) := by
  intro D nD
  refine lc_range (LcP Pv D) ⟨[], upd_same, Nat.le_refl _, h0 D nD⟩ (fun i H' hi hp => ?_) fun H' hp => ?_
  · obtain ⟨acc, e1, e2, e3⟩ := hp
    exact hs D i acc H' nD hi e1 e2 e3
  · obtain ⟨acc, e1, e2, e3⟩ := hp
    exact h D acc H' nD e1 e2 e3
end
end Lt
/-! a, *b = a list -/
namespace Lt
open PySem PySem.Spec PyProof.Rows L2
section
variable {P : Program} {w : World} {A : Around} {E : Value → Shared → Prop}
theorem draw_lst {I l : Addr} {xs : Array Value} (ne : l ≠ I) : ∀ (k j : Nat) (s : Shared) (Q : List Value → Shared → Prop), s.heap.IsListIter I l j → s.heap.IsList l xs → j + k ≤ xs.size →
    (∀ g, g.IsListIter I l (j + k) → Heap.SameBut I s.heap g → Q ((xs.toList.drop j).take k) { s with heap := g }) → wpAny (model P w) A (draw (.ref I) k) Q E s
  | 0, j, s, Q, it, _, _, hq => by
    have q := hq s.heap it (Heap.SameBut.refl ..)
    rw [List.take_zero] at q
    exact wpAny_pure q
  | k + 1, j, s, Q, it, il, le, hq => by
    have lt : j < xs.size := by omega
    show wpAny _ _ (pyNext (.ref I) >>= _) Q E s
    refine wpAny_bind (wpAny_pyNext_list_item it il (x := xs[j]) (by simp [lt]) fun g it1 sb => ?_)
    refine wpAny_bind ?_
    refine wpAny_holding ?_
    refine draw_lst ne k (j + 1) _ _ it1 (il.extBut sb.extBut ne) (by omega) fun g2 it2 sb2 => ?_
    refine wpAny_pure ?_
    have q := hq g2 (by rw [show j + (k + 1) = j + 1 + k by omega]; exact it2) (sb.trans sb2)
    have e : xs.toList.drop j = xs[j] :: xs.toList.drop (j + 1) := by simp [List.drop_eq_getElem_cons, lt]
    rw [e, List.take_succ_cons] at q
    exact q
/-- a walk that has gone d turns -/
theorem walk_from {I : Addr} {fp wr : List Addr} {G : Array GenState → Array GenState → Prop} {n d : Nat} {R : Nat → Value → Prop} {St : Nat → Shared → Prop} (hd : d ≤ n) (W : WalksS P w A I fp wr G n R St) :
    WalksS P w A I fp wr G (n - d) (fun i v => R (i + d) v) (fun i s => St (i + d) s) where
  sub := W.sub
  grefl := W.grefl
  gtrans := W.gtrans
  frame := fun i s h tk st ht hb => W.frame (i + d) s h tk st ht hb
  item := fun i s Q E hi st hq => W.item (i + d) s Q E (by omega) st fun v s' r st' m => hq v s' r (by rw [show i + 1 + d = i + d + 1 by omega]; exact st') m
  done := fun s Q E st hq => W.done s Q E (by rw [show n - d + d = n by omega] at st; exact st) hq
  self := fun i s Q E st hq => W.self (i + d) s Q E st hq
theorem collect_from {s : Shared} {I l : Addr} {xs : Array Value} {j : Nat} {Q : List Value → Shared → Prop} (nh : A.handled = none) (ne : l ≠ I) (it : s.heap.IsListIter I l j) (il : s.heap.IsList l xs) (lI : I < s.heap.objs.size) (ll : l < s.heap.objs.size) (hj : j ≤ xs.size) (hz : xs.size ≤ sizeLine)
    (hq : ∀ s', (∀ b o, b ≠ I → s.heap.get? b = some o → s'.heap.get? b = some o) → s'.gens = s.gens → s'.drawn = s.drawn → s'.os = s.os → Q (xs.toList.drop j) s') : wpAny (model P w) A (collect (.ref I)) Q E s := by
  have W := walk_from hj ((Walks.list (prog := P) (w := w) (A := A.in1) (by simpa using nh) I l ne xs).toS)
  refine wpAny_collect_iter (T := "list_iterator") (.inr (.inr (.inl rfl))) W (fun i s st => st.1.typeIs) ?_ (fun b hb => ?_) List.mem_cons_self (fun s' acc mv ia => ?_) (by omega)
  · rw [Nat.zero_add]
    exact ⟨it, il⟩
  · rcases List.mem_cons.mp hb with rfl | hb
    · exact lI
    · rw [List.mem_singleton.mp hb]
      exact ll
  · have e : acc.toList = xs.toList.drop j := by
      apply List.ext_getElem?
      intro i
      rw [List.getElem?_drop]
      by_cases hi : i < acc.size
      · have h1 := ia.2 i acc[i] (by simp [hi])
        have h2 : xs[i + j]? = some acc[i] := h1
        rw [Array.getElem?_toList, Array.getElem?_toList, Nat.add_comm j i, h2]
        simp [hi]
      · rw [Array.getElem?_toList, Array.getElem?_toList, Array.getElem?_eq_none (by omega), Array.getElem?_eq_none]
        have h3 : acc.size = xs.size - j := ia.1
        omega
    rw [e]
    exact hq s' (fun b o hb e => mv.heap b o (fun z => hb (List.mem_singleton.mp z)) e) mv.gens mv.drawn mv.os
end
section
variable {X : Cx}
/-- the first i ones, the others as a new list -/
def gStar (K : PySem.W.Frag) (i : Nat) (t : TGs) : TG := fun v σ H Q => ∃ a xs, v = .ref a ∧ SqL K H a xs ∧ i ≤ xs.length ∧ ∀ p, H p = none → t (xs.take i ++ [.ref p]) σ (upd H p (.lst (xs.drop i))) Q
theorem pg_star {es ts : List Expr} {k : Nat} {pos : Pos} {t : TGs} (i : Nat) (hc : X.calm = true) (h : PGs X ts t) (hn : (assignEach es X.env).length = i + 1 := by rfl) (hst : (assignEach es X.env).findIdx? (·.1) = some i := by rfl)
    (he : (assignEach es X.env).map (·.2) = (assignEach ts X.env).map (·.2) := by rfl) : PG X (.Tuple es k pos) (gStar X.K i t) := by
  refine ⟨fun pins s σ H v u Q I r hw => ?_⟩
  obtain ⟨a, xs, rfl, hx, hi, hw⟩ := hw
  cases r
  obtain ⟨its, rv, pl, hz⟩ := I.list hx
  have len := rv.length
  have alt : a < s.heap.objs.size := by
    obtain ⟨o, ho, _⟩ := pl.isList
    exact Heap.lt_size ho
  rw [assign_Tuple]
  refine wpAny_bind (wpAny_standAt ?_)
  unfold unpack
  rw [hn, hst]
  refine wpAny_bind (wpAny_holding ?_)
  unfold unpackItems
  refine wpAny_bind ?_
  unfold notIterableAtAll
  refine wpAny_bind (wpAny_specialOf pl.isList.typeIs slot_list_iter.lookup ?_)
  refine wpAny_pure ?_
  simp only [Bool.false_eq_true, if_false]
  refine wpAny_bind (wpAny_holding (wpAny_pyIter_list pl.isList ?_))
  have ne : a ≠ s.heap.objs.size := Nat.ne_of_lt alt
  refine wpAny_bind (wpAny_holding (draw_lst ne i 0 _ _ ⟨_, Heap.get?_push_size _ rfl, rfl, rfl⟩ (pl.isList.push _) (by simp; omega) fun g it sb => ?_))
  rw [List.drop_zero]
  have il : g.IsList a its.toArray := (pl.isList.push _).extBut sb.extBut ne
  have lI : s.heap.objs.size < g.objs.size := by
    obtain ⟨o, ho, _⟩ := it
    exact Heap.lt_size ho
  rw [if_neg (by simp; omega)]
  refine wpAny_bind (wpAny_holding (collect_from (I.ok.hd hc) ne it il lI (Nat.lt_trans alt lI) (by simp; omega) (by simp; omega) fun s' kp g1 d1 o1 => ?_))
  dsimp only
  rw [if_neg (by omega)]
  have I1 : Inv X pins σ H s' := by
    obtain ⟨h', g', d', t', o'⟩ := s'
    dsimp only at g1 d1 o1
    subst g1 d1 o1
    exact I.kept fun b o e => kp b o (Nat.ne_of_lt (Heap.lt_size e)) (by
      have q := sb.extBut b o (Nat.ne_of_lt (Heap.lt_size e)) (Heap.get?_push_of_some _ e)
      exact q)
  rw [Nat.zero_add]
  have e1 : ∀ (l : List Value), l.take (l.length - (i + 1 - 1 - i)) = l := fun l => by
    rw [show i + 1 - 1 - i = 0 by omega, Nat.sub_zero, List.take_length]
  have e2 : ∀ (l : List Value), l.drop (l.length - (i + 1 - 1 - i)) = [] := fun l => by
    rw [show i + 1 - 1 - i = 0 by omega, Nat.sub_zero, List.drop_length]
  rw [e1, e2]
  refine wpAny_bind (wpAny_newList ?_ (by rw [List.length_drop]; simp; omega))
  refine wpAny_pure ?_
  rw [he]
  have nf : H s'.heap.objs.size = none := I1.hok.fresh (Nat.le_refl _)
  have I2 : Inv X pins σ (upd H s'.heap.objs.size (.lst (xs.drop i))) { s' with heap := s'.heap.push { cls := .type "list", data := .seq (its.drop i).toArray } } :=
    I1.laid (t' := s'.toks) (fun b o e => Heap.get?_push_of_some _ e) (Nat.le_refl _) ⟨by rw [List.length_drop]; omega, its.drop i, 0, rv.drop i, Heap.get?_push_size _ rfl⟩
  have q := hw _ nf
  refine h.run pins _ σ _ (xs.take i ++ [.ref s'.heap.objs.size]) _ Q ?_ ?_ q
  · simpa using I2
  · simpa using (rv.take i).append (.cons (show RelV (.ref s'.heap.objs.size) (.ref s'.heap.objs.size) from rfl) .nil)
end
end Lt
/-! texts by their signs -/
namespace Lt
open PySem PySem.Spec PyProof.Rows L2 SX
theorem str_eq {a b : List Nat} : decide (V.str (S a) = V.str (S b)) = decide (a = b) := by
  by_cases h : a = b
  · rw [h, decide_eq_true rfl, decide_eq_true rfl]
  · rw [decide_eq_false h, decide_eq_false fun z => h (S_inj (V.str.inj z))]
theorem cut_to (a : List Nat) {i : Int} (h : 0 ≤ i) : cutS (S a) none (some i) = S (a.take i.toNat) := by
  rw [C8.cutS_slice]
  exact slice_to h
theorem cut_from (a : List Nat) {i : Int} (h : 0 ≤ i) : cutS (S a) (some i) none = S (a.drop i.toNat) := by
  rw [C8.cutS_slice]
  exact slice_from h
theorem cut_to1 (a : List Nat) : cutS (S a) none (some 1) = S (a.take 1) := cut_to a (by decide)
theorem cut_from1 (a : List Nat) : cutS (S a) (some 1) none = S (a.drop 1) := cut_from a (by decide)
section
variable {K : PySem.W.Frag} {D : Ends} {σ : L2.St} {H : Hp} {Q : VK} {te : TE} {t u : TS} {tt : TT} {g : TG} {vs : List Nat} {l : List Nat} {a : Addr} {xs : List V}
theorem k_iS {R : It → Hp → Prop} (h : te σ H fun v H1 => ∃ x, v = .str x ∧ R (Its x) H1) : iStr te σ H R := h
theorem k_inS {tb : TS} {Nx : L2.St → Hp → Prop} {R : VK} (Pv : Nat → L2.St → Hp → Prop) (h0 : Pv 0 σ H)
    (hs : ∀ i c σ H, l[i]? = some c → Pv i σ H → g (.str (S [c])) σ H fun σ2 H2 => tb { nx := Pv (i + 1), rt := R, bk := Nx, ct := Pv (i + 1) } σ2 H2) (hd : ∀ σ H, Pv l.length σ H → Nx σ H) :
    ∃ W : Nat → Nat → L2.St → Hp → Prop, (∃ m, W 0 m σ H) ∧ ∀ i m σ H, W i m σ H →
      ((Its (S l)).stop i H ∧ Nx σ H) ∨ ((Its (S l)).go i H ∧ ∃ N : L2.St → Hp → Prop, (∀ σ' H', N σ' H' → ∃ m', m' < m ∧ W (i + 1) m' σ' H') ∧ ∀ x H', (Its (S l)).yld i H x H' → g x σ H' fun σ2 H2 => tb { nx := N, rt := R, bk := Nx, ct := N } σ2 H2) := by
  refine for_it (D := { nx := Nx, rt := R }) (walk_str (z := S l)) Pv h0 (fun _ _ _ _ _ => True.intro) ?_ ?_
  · rintro i x σ H H' _ p ⟨rfl, c, hc, rfl⟩
    exact hs i c σ _ (by simpa using hc) p
  · exact hd
theorem k_lcS {Qd : Addr → Hp → Prop} (Pv : Addr → Nat → List V → Hp → Prop) (h0 : ∀ D, H D = none → Pv D 0 [] (upd H D (.lst [])))
    (hs : ∀ D i c acc H', H D = none → i < l.length → l[i]? = some c → H' D = some (.lst acc) → acc.length ≤ i → Pv D i acc H' → g (.str (S [c])) (wipe σ vs) H' fun σ2 H2 => wipe σ2 vs = wipe σ vs ∧ tt σ2 H2 fun b H3 =>
      if b = true then te σ2 H3 fun y H4 => ∃ acc, H4 D = some (.lst acc) ∧ acc.length < sizeLine ∧ LcP Pv D (i + 1) (upd H4 D (.lst (acc ++ [y]))) else LcP Pv D (i + 1) H3)
    (h : ∀ D acc H', H D = none → H' D = some (.lst acc) → acc.length ≤ l.length → Pv D l.length acc H' → Qd D H') :
    ∀ D, H D = none → ∃ W : Nat → Nat → Hp → Prop, (∃ m, W 0 m (upd H D (.lst []))) ∧ ∀ i m H, W i m H →
      ((Its (S l)).stop i H ∧ Qd D H) ∨ ((Its (S l)).go i H ∧ ∃ Nx : Hp → Prop, (∀ H', Nx H' → ∃ m', m' < m ∧ W (i + 1) m' H') ∧ ∀ x H', (Its (S l)).yld i H x H' → g x (wipe σ vs) H' fun σ2 H2 => wipe σ2 vs = wipe σ vs ∧ tt σ2 H2 fun b H3 =>
        if b = true then te σ2 H3 fun y H4 => ∃ acc, H4 D = some (.lst acc) ∧ acc.length < sizeLine ∧ Nx (upd H4 D (.lst (acc ++ [y]))) else Nx H3) := by
  intro D nD
  refine lc_it (Qd := Qd D) (walk_str (z := S l)) (LcP Pv D) ⟨[], upd_same, Nat.le_refl _, h0 D nD⟩ (fun _ _ _ _ => True.intro) ?_ ?_
  · rintro i x H1 H' hi ⟨acc, e1, e2, e3⟩ ⟨rfl, c, hc, rfl⟩
    exact hs D i c acc _ nD (by simpa using hi) (by simpa using hc) e1 e2 e3
  · rintro H' ⟨acc, e1, e2, e3⟩
    exact h D acc H' nD e1 e2 e3
theorem k_m1 {r : V → List V → Hp → VK → Prop} {to : TE} (h : to σ H fun x H1 => (∃ a, x = .str a) ∧ te σ H1 fun y H2 => r x [y] H2 Q) : tM1 r to te σ H Q := h
theorem k_isS {x : Str} {A : Prop} (h : A) : (∃ a, V.str x = .str a) ∧ A := ⟨⟨x, rfl⟩, h⟩
theorem k_slS {lo hi : Option Int} (hl : l.length ≤ 100000) (h : Q (.str (cutS (S l) lo hi)) H) : rSlS (.str (S l)) lo hi H Q := ⟨_, rfl, by rw [S_len]; exact Nat.le_trans hl (by decide), h⟩
theorem k_ixS {i : Int} {c : Nat} {z : Str} (hl : z.cps.toList.length ≤ 100000) (hc : atI z.cps.toList i = some c) (h : Q (.str (S [c])) H) : rIxS (.str z) (.int i) H Q := ⟨z, i, c, rfl, rfl, Nat.le_trans (by show z.cps.size ≤ 100000; rw [← Array.length_toList]; exact hl) (by decide : 100000 ≤ sizeLine), hc, h⟩
/-- text.split(a sign) -/
theorem k_split {c : Nat} (hl : l.length ≤ 100000) (hc : c < 256) (h : ∀ p, H p = none → Q (.ref p) (upd H p (.lst ((TL.spl [c] 0 [] l).map fun z => V.str (S z))))) :
    ((S [c]).length == 0) = false ∧ (S l).length + 2 ≤ sizeLine ∧ rNewStrs (Txt.split (S l) (S [c])) H Q := by
  refine ⟨rfl, ?_, fun p np => ?_⟩
  · rw [S_len]
    exact Nat.le_trans (Nat.add_le_add_right hl 2) (by decide)
  · rw [split_S (by simp) (by simp [hc]), List.map_map]
    exact h p np
/-- ''.join(list of texts) -/
theorem k_join0 {ys : List (List Nat)} {w : Str} (hw : w = S []) (hp : H a = some (.lst (ys.map fun z => V.str (S z)))) (hz : (ys.map List.length).sum ≤ 100000) (hn : ys.length ≤ 100000) (h : Q (.str (S ys.flatten)) H) :
    ∃ x p, ∃ zs : List Str, V.str w = .str x ∧ [V.ref a] = [.ref p] ∧ (SqL K H p (zs.map V.str) ∨ SqT K H p (zs.map V.str)) ∧ (zs.map (·.length)).sum + zs.length * x.length ≤ 16777216 ∧ Q (.str (Txt.join x zs)) H := by
  subst hw
  refine ⟨_, _, ys.map S, rfl, rfl, .inl (SqL.of (by rw [hp, List.map_map]; rfl)), ?_, ?_⟩
  · rw [lens, S_len, List.length_nil, Nat.mul_zero]
    exact Nat.le_trans hz (by decide)
  · rw [join_S]
    have e : ∀ zs : List (List Nat), TL.joinL [] zs = zs.flatten := by
      intro zs
      induction zs with
      | nil => rfl
      | cons x zs ih =>
        cases zs with
        | nil => simp [TL.joinL]
        | cons y zs =>
          show x ++ ([] ++ TL.joinL [] (y :: zs)) = _
          rw [ih]
          simp
    rw [e]
    exact h
theorem k_szS {A : Prop} (hl : l.length ≤ 100000) (h : A) : (S l).length ≤ sizeLine ∧ A := ⟨by rw [S_len]; exact Nat.le_trans hl (by decide), h⟩
theorem k_addS {A : Prop} {x y : List Nat} (hz : x.length + y.length ≤ 100000) (h : A) : (S x).length + (S y).length ≤ sizeLine ∧ A := ⟨by rw [S_len, S_len]; exact Nat.le_trans hz (by decide), h⟩
theorem k_any {bs : List Bool} (hp : H a = some (.lst (bs.map V.bl))) (h : Q (.bl (bs.any id)) H) : rAny K [.ref a] H Q := ⟨a, bs, rfl, SqL.of hp, h⟩
theorem k_all {bs : List Bool} (hp : H a = some (.lst (bs.map V.bl))) (h : Q (.bl (bs.all id)) H) : rAll K [.ref a] H Q := ⟨a, bs, rfl, SqL.of hp, h⟩
theorem k_star {i : Nat} {t : TGs} {Qs : L2.St → Hp → Prop} (h1 : SqL K H a xs) (h2 : i ≤ xs.length) (h : ∀ p, H p = none → t (xs.take i ++ [.ref p]) σ (upd H p (.lst (xs.drop i))) Qs) : gStar K i t (.ref a) σ H Qs := ⟨a, xs, rfl, h1, h2, h⟩
end
/-! paths -/
def signs36 : List Nat := [97,98,99,100,101,102,103,104,105,106,107,108,109,110,111,112,113,114,115,116,117,118,119,120,121,122,48,49,50,51,52,53,54,55,56,57]
def nameB (n : List Nat) : Bool := decide (1 ≤ n.length) && decide (n.length ≤ 8) && n.all fun c => decide (c ∈ signs36)
def pathB : List Nat → Bool
  | 47 :: r => if r = [] then true else decide ((TL.spl [47] 0 [] r).length ≤ 5) && (TL.spl [47] 0 [] r).all nameB
  | _ => false
theorem lit_sl : Str.ofString "/" = S [47] := by decide +kernel
theorem lit_e : Str.ofString "" = S [] := by decide +kernel
def someL : List Nat := [32, 33, 34, 35, 36, 38, 39, 40, 41, 42, 43, 44, 45, 46, 47, 48, 49, 50, 51, 52, 53, 54, 55, 56, 57, 58, 59, 60, 61, 62, 63, 64, 65, 66, 67, 68, 69, 70, 71, 72, 73, 74, 75, 76, 77, 78, 79, 80, 81, 82, 83, 84, 85, 86, 87, 88, 89, 90, 91, 92, 93, 94, 95, 96, 123, 124, 125, 126, 97, 122, 47]
theorem lit_some : Str.ofString " !\"#$&'()*+,-./0123456789:;<=>?@ABCDEFGHIJKLMNOPQRSTUVWXYZ[\\]^_`{|}~az/" = S someL := by decide +kernel
theorem lit_ss : Str.ofString "//" = S [47, 47] := by decide +kernel
theorem lit_nl : Str.ofString "\n" = S [10] := by decide +kernel
theorem lit_36 : Str.ofString "abcdefghijklmnopqrstuvwxyz0123456789" = S signs36 := by decide +kernel
theorem take_snocT {α : Type} {l : List α} {i : Nat} {x : α} (h : l[i]? = some x) : l.take (i + 1) = l.take i ++ [x] := by
  rw [List.take_add_one, h]
  rfl
theorem spl_ne {s : List Nat} : ∀ (k : Nat) (acc l : List Nat), TL.spl s k acc l ≠ []
  | k, acc, [] => by rw [TL.spl_nil]; simp
  | 0, acc, c :: r => by
    show (if TL.pre s (c :: r) = true then acc :: TL.spl s (s.length - 1) [] r else TL.spl s 0 (acc ++ [c]) r) ≠ []
    split
    · simp
    · exact spl_ne 0 _ r
  | k + 1, acc, c :: r => spl_ne k acc r
theorem spl_acc {s : List Nat} : ∀ (acc l : List Nat), ∃ p q, TL.spl s 0 acc l = (acc ++ p) :: q
  | acc, [] => ⟨[], [], by rw [TL.spl_nil]; simp⟩
  | acc, c :: r => by
    by_cases h : TL.pre s (c :: r) = true
    · exact ⟨[], _, by rw [TL.spl_hit h, List.append_nil]⟩
    · obtain ⟨p, q, e⟩ := spl_acc (s := s) (acc ++ [c]) r
      exact ⟨c :: p, q, by rw [TL.spl_miss (Bool.eq_false_iff.mpr h), e]; simp⟩
theorem spl_hit1 {d : Nat} {r : List Nat} : TL.spl [d] 0 [] (d :: r) = [] :: TL.spl [d] 0 [] r := by
  rw [TL.spl_hit (by simp [TL.pre])]
  rfl
theorem spl_miss1 {c d : Nat} {r : List Nat} (h : c ≠ d) : ∃ p q, TL.spl [d] 0 [] (c :: r) = (c :: p) :: q := by
  rw [TL.spl_miss (TL.pre_of_head _ _ h)]
  obtain ⟨p, q, e⟩ := spl_acc (s := [d]) ([] ++ [c]) r
  exact ⟨p, q, by rw [e]; rfl⟩
theorem path_spl {l : List Nat} (h : l ≠ [47]) : ∃ root names, TL.spl [47] 0 [] l = root :: names ∧ pathB l = (decide (root = []) && decide (1 ≤ names.length) && decide (names.length ≤ 5) && names.all nameB) := by
  cases l with
  | nil => exact ⟨[], [], rfl, rfl⟩
  | cons c r =>
    by_cases hc : c = 47
    · subst hc
      have hr : r ≠ [] := fun z => h (by rw [z])
      refine ⟨[], _, spl_hit1, ?_⟩
      have h1 : 1 ≤ (TL.spl [47] 0 [] r).length := List.length_pos_iff.mpr (spl_ne 0 [] r)
      rw [show pathB (47 :: r) = if r = [] then true else decide ((TL.spl [47] 0 [] r).length ≤ 5) && (TL.spl [47] 0 [] r).all nameB from rfl, if_neg hr, decide_eq_true h1]
      rfl
    · obtain ⟨p, q, e⟩ := spl_miss1 (r := r) hc
      refine ⟨c :: p, q, e, ?_⟩
      rw [show pathB (c :: r) = false by unfold pathB; split <;> simp_all, decide_eq_false (by simp)]
      rfl
/-- what the law's own reckoning sees -/
theorem path_law {l : List Nat} (h : l ≠ [47]) : pathB l = (decide (l.take 1 = [47]) && decide ((TL.spl [47] 0 [] (l.drop 1)).length ≤ 5) && (TL.spl [47] 0 [] (l.drop 1)).all nameB) := by
  cases l with
  | nil => rfl
  | cons c r =>
    by_cases hc : c = 47
    · subst hc
      have hr : r ≠ [] := fun z => h (by rw [z])
      rw [show pathB (47 :: r) = if r = [] then true else decide ((TL.spl [47] 0 [] r).length ≤ 5) && (TL.spl [47] 0 [] r).all nameB from rfl, if_neg hr]
      rfl
    · rw [show pathB (c :: r) = false by unfold pathB; split <;> simp_all]
      simp [hc]
theorem all_no {α : Type} {f : α → Bool} {l : List α} {i : Nat} {x : α} (h : l[i]? = some x) (e : f x = false) : l.all f = false := by
  rw [List.all_eq_false]
  exact ⟨x, List.mem_of_getElem? h, by rw [e]; simp⟩
theorem all_snoc {α : Type} {f : α → Bool} {l : List α} {i : Nat} {x : α} (h : l[i]? = some x) (h1 : (l.take i).all f = true) (e : f x = true) : (l.take (i + 1)).all f = true := by
  rw [take_snocT h, List.all_append, h1]
  simp [e]
theorem any_not {l : List Nat} {f : Nat → Bool} : (l.map fun c => !f c).any id = !l.all f := by
  induction l with
  | nil => rfl
  | cons c l ih => simp [ih]
theorem str_at {ks : List (List Nat)} {i : Nat} {x : V} (h : (ks.map fun z => V.str (S z))[i]? = some x) : ∃ k, x = V.str (S k) ∧ ks[i]? = some k := by
  rw [List.getElem?_map] at h
  cases e : ks[i]? with
  | none =>
    rw [e] at h
    cases h
  | some k =>
    rw [e] at h
    exact ⟨k, (Option.some.inj h).symm, rfl⟩
theorem spl_len {s : List Nat} : ∀ (k : Nat) (acc l p : List Nat), p ∈ TL.spl s k acc l → p.length ≤ acc.length + l.length
  | k, acc, [], p, h => by
    rw [TL.spl_nil, List.mem_singleton] at h
    rw [h]
    exact Nat.le_add_right _ _
  | 0, acc, c :: r, p, h => by
    rw [show TL.spl s 0 acc (c :: r) = if TL.pre s (c :: r) = true then acc :: TL.spl s (s.length - 1) [] r else TL.spl s 0 (acc ++ [c]) r from rfl] at h
    split at h
    · rcases List.mem_cons.mp h with rfl | h
      · exact Nat.le_add_right _ _
      · have := spl_len _ [] r p h
        simp only [List.length_nil, List.length_cons] at this ⊢
        omega
    · have := spl_len 0 (acc ++ [c]) r p h
      simp only [List.length_append, List.length_cons, List.length_nil] at this ⊢
      omega
  | k + 1, acc, c :: r, p, h => by
    have := spl_len k acc r p h
    rw [List.length_cons]
    omega
theorem str_len {l : List Nat} : ((S l).cps.toList) = l := rfl
end Lt
/-! tactics: rd a step, go steps, hp an object of the heap -/
local macro_rules | `(tactic| walk_at "ne") => `(tactic| first
  | assumption
  | (apply Ne.symm; assumption)
  | exact L2.ne_of_none (by assumption) (by assumption)
  | exact Ne.symm (L2.ne_of_none (by assumption) (by assumption)))
local macro_rules | `(tactic| walk_at "hp") => `(tactic| first
  | assumption
  | exact L2.upd_same
  | exact L2.SqL.of L2.upd_same
  | exact L2.SqT.of L2.upd_same
  | exact L2.SqL.of (by assumption)
  | exact L2.SqT.of (by assumption)
  | exact Lt.ne_upd (by walk_at "ne") (by assumption)
  | exact Lt.ne_upd (by walk_at "ne") L2.upd_same)
local macro_rules | `(tactic| walk_at "ic") => `(tactic| first
  | assumption
  | exact ⟨by decide, by decide, by decide⟩
  | exact ⟨by decide, by decide⟩
  | exact Or.inl ⟨by decide, by decide⟩
  | exact Or.inr ⟨by decide, by decide⟩
  | exact Or.inl ⟨by omega, by omega⟩
  | exact Or.inr ⟨by omega, by omega⟩
  | (show (0 : Int) < _; first | decide | omega)
  | exact ⟨by omega, by omega⟩)
local macro_rules | `(tactic| walk_at "sz") => `(tactic| exact Lt.sz (by first | decide | (simp only [List.length_cons, List.length_nil]; decide)))
local macro_rules | `(tactic| walk_at "ty") => `(tactic| first
  | exact L2.TyX.base (L2.TyOf.int _)
  | exact L2.TyX.base (L2.TyOf.bl _)
  | exact L2.TyX.base (L2.TyOf.str _)
  | exact L2.TyX.base L2.TyOf.non
  | exact L2.TyX.base (L2.TyOf.lst (by walk_at "hp"))
  | exact L2.TyX.base (L2.TyOf.tup (by walk_at "hp"))
  | exact L2.TyX.base (L2.TyOf.dK (by walk_at "hp"))
  | exact L2.TyX.base (L2.TyOf.dT (by walk_at "hp")))
local macro_rules | `(tactic| walk_at "isi") => `(tactic| first
  | exact Lt.isi_ii | exact Lt.isi_ib | exact Lt.isi_bi | exact Lt.isi_bb | exact Lt.isi_is | exact Lt.isi_si | exact Lt.isi_ss | exact Lt.isi_ll | exact Lt.isi_tt | exact Lt.isi_lt | exact Lt.isi_tl | exact Lt.isi_ni | exact Lt.isi_dd)
local macro_rules | `(tactic| walk_at "om") => `(tactic| first
  | omega
  | (simp only [List.length_append, List.length_cons, List.length_nil, List.length_map, List.length_replicate] at *; omega))
local macro_rules | `(tactic| walk_at "rd") => `(tactic| first
  | (with_reducible refine Lt.k_seq ?_)
  | (with_reducible refine Lt.k_next ?_)
  | (with_reducible refine Lt.k_c ?_)
  | (with_reducible refine Lt.k_op ?_)
  | (with_reducible refine Lt.k_I0 ?_)
  | (with_reducible refine Lt.k_ifS ?_)
  | (with_reducible refine Lt.k_tst ?_)
  | (with_reducible refine Lt.k_tB ?_)
  | (with_reducible refine Lt.k_asg ?_)
  | (with_reducible refine Lt.k_gName ?_)
  | (with_reducible refine Lt.k_gSub ?_)
  | (with_reducible refine Lt.k_cb ?_)
  | (with_reducible refine Lt.k_cons ?_)
  | (with_reducible refine Lt.k_nil ?_)
  | (with_reducible refine Lt.k_call ?_)
  | (with_reducible refine Lt.k_ret ?_)
  | (with_reducible refine Lt.k_drop ?_)
  | (with_reducible refine Lt.k_lst ?_)
  | (with_reducible refine Lt.k_tup ?_)
  | (with_reducible refine Lt.k_and ?_)
  | (with_reducible refine Lt.k_or ?_)
  | (with_reducible refine Lt.k_not ?_)
  | (with_reducible refine Lt.k_andV ?_)
  | (with_reducible refine Lt.k_orV ?_)
  | (with_reducible refine Lt.k_notV ?_)
  | (with_reducible refine Lt.k_ifE ?_)
  | (with_reducible refine Lt.k_augS ?_)
  | (with_reducible refine Lt.k_ipI ?_)
  | (with_reducible refine Lt.k_un ?_)
  | (with_reducible refine Lt.k_U ?_)
  | (with_reducible refine Lt.k_sl ?_)
  | (with_reducible refine Lt.k_noPart ?_)
  | (with_reducible refine Lt.k_part ?_)
  | (with_reducible refine Lt.k_for ?_)
  | (with_reducible refine Lt.k_iL ?_)
  | (with_reducible refine Lt.k_iT ?_)
  | (with_reducible refine Lt.k_iR1 ?_)
  | (with_reducible refine Lt.k_iR2 ?_)
  | (with_reducible refine Lt.k_lc ?_)
  | (with_reducible refine Lt.k_yes ?_)
  | (with_reducible refine Lt.k_bm ?_)
  | (with_reducible refine Lt.k_bm0 ?_)
  | ((with_reducible refine' Lt.k_tyL ?h1 ?_); (case h1 => walk_at "hp"))
  | ((with_reducible refine' Lt.k_app ?h1 ?h2 ?_); (case h1 => walk_at "hp"); (case h2 => walk_at "om"))
  | (with_reducible refine Lt.k_lstRg ?_)
  | (with_reducible refine Lt.k_rg1 ?_)
  | (with_reducible refine Lt.k_rg2 ?_)
  | ((with_reducible refine' Lt.k_tup1 ?h1 ?h2 ?_); (case h1 => walk_at "hp"); (case h2 => exact rfl))
  | (with_reducible refine Lt.k_rfl ?_)
  | (with_reducible refine Lt.k_ite0 ?_)
  | (with_reducible refine Lt.k_ite1 ?_)
  | (with_reducible refine Lt.k_iteN1 ?_)
  | (with_reducible refine Lt.k_iteN0 ?_)
  | (with_reducible refine Lt.k_gCons ?_)
  | (with_reducible refine Lt.k_gNil ?_)
  | ((with_reducible refine' Lt.k_var ?h1 ?_); (case h1 => exact rfl))
  | ((with_reducible refine' Lt.k_I ?hc ?_); (case hc => walk_at "ic"))
  | ((with_reducible refine' Lt.k_isi ?ht ?hk ?_); (case ht => walk_at "ty"); (case hk => walk_at "isi"))
  | (with_reducible refine Lt.k_callN ?_)
  | ((with_reducible refine' Lt.k_aug ?h1 ?_); (case h1 => exact rfl))
  | ((with_reducible refine' Lt.k_eqV ?h1 ?_); (case h1 => exact rfl))
  | ((with_reducible refine' Lt.k_neV ?h1 ?_); (case h1 => exact rfl))
  | ((with_reducible refine' Lt.k_ixL ?h1 ?h2 ?_); (case h1 => walk_at "hp"); (case h2 => first | exact rfl | exact L2.atI_last _ _))
  | ((with_reducible refine' Lt.k_ixT ?h1 ?h2 ?_); (case h1 => walk_at "hp"); (case h2 => exact rfl))
  | ((with_reducible refine' Lt.k_getL ?h1 ?h0 ?h2 ?_); (case h1 => walk_at "hp"); (case h0 => decide); (case h2 => exact rfl))
  | ((with_reducible refine' Lt.k_setL ?h1 ?h2 ?_); (case h1 => walk_at "hp"); (case h2 => first | exact rfl | exact Lt.ixN_last _ _))
  | ((with_reducible refine' Lt.k_wipe ?h1 ?_); (case h1 => exact rfl))
  | ((with_reducible refine' Lt.k_lenL ?h1 ?_); (case h1 => walk_at "hp"))
  | ((with_reducible refine' Lt.k_lenT ?h1 ?_); (case h1 => walk_at "hp"))
  | ((with_reducible refine' ⟨_, _, rfl, Or.inl ?h1, ?_⟩); (case h1 => walk_at "hp"))
  | ((with_reducible refine' ⟨_, _, rfl, Or.inr ?h1, ?_⟩); (case h1 => walk_at "hp"))
  | (with_reducible refine ⟨_, rfl, ?_⟩)
  | (with_reducible refine ⟨_, _, rfl, rfl, ?_⟩)
  | (with_reducible refine Lt.k_iteE ?_)
  | (with_reducible refine Lt.k_iteNE ?_)
  | ((with_reducible refine' Lt.k_iteT ?h1 ?_); (case h1 => first | decide | (simp; done)))
  | ((with_reducible refine' Lt.k_iteF ?h1 ?_); (case h1 => first | decide | (simp; done)))
  | ((with_reducible refine' Lt.k_iteD1 ?h1 ?_); (case h1 => walk_at "om"))
  | ((with_reducible refine' Lt.k_iteD2 ?h1 ?_); (case h1 => walk_at "om"))
  | ((with_reducible refine' Lt.k_iteNN ?h1 ?_); (case h1 => (intro z; cases z)))
  | ((with_reducible refine' Lt.k_iteD2 ?h1 ?_); (case h1 => (intro z; cases z)))
  | refine ⟨rfl, rfl, ?_⟩)
local macro_rules | `(tactic| walk_at "go") => `(tactic| ((repeat walk_at "rd"); try dsimp only))
local macro_rules | `(tactic| walk_at "rdT") => `(tactic| first
  | walk_at "rd"
  | (with_reducible refine Lt.k_iS ?_)
  | (with_reducible refine Lt.k_m1 ?_)
  | (with_reducible refine Lt.k_isS ?_)
  | (with_reducible refine ⟨_, _, rfl, rfl, ?_⟩))
local macro_rules | `(tactic| walk_at "gt") => `(tactic| ((repeat walk_at "rdT"); try dsimp only))
namespace K14
open PySem PySem.Spec PyProof.Rows L2 Lt
def topS (i : Nat) : Stmt := PySem.Challenge.pw_latestow_k14_paths.main.body.getD i (.Pass ⟨0, 0, 0, 0⟩)
abbrev s_fits : Stmt := topS 4
abbrev N_fits : List Str := ["path", "root", "names", "name", "sign"]
theorem sc_fits : FnScope N_fits ["path"] (defScope s_fits) := ⟨rfl, rfl, rfl, by decide +kernel, rfl, by decide +kernel, by decide +kernel⟩
abbrev s_law_bag : Stmt := topS 6
abbrev N_law_bag : List Str := ["_law_script"]
theorem sc_law_bag : FnScope N_law_bag ["_law_script"] (defScope s_law_bag) := ⟨rfl, rfl, rfl, by decide +kernel, rfl, by decide +kernel, by decide +kernel⟩
abbrev s_law_pull : Stmt := topS 7
abbrev N_law_pull : List Str := ["_law_bag_here", "_law_top", "_law_cell", "_law_got"]
theorem sc_law_pull : FnScope N_law_pull ["_law_bag_here", "_law_top"] (defScope s_law_pull) := ⟨rfl, rfl, rfl, by decide +kernel, rfl, by decide +kernel, by decide +kernel⟩
abbrev s_law_truth : Stmt := topS 8
abbrev N_law_truth : List Str := ["_law_told", "_law_due"]
theorem sc_law_truth : FnScope N_law_truth ["_law_told", "_law_due"] (defScope s_law_truth) := ⟨rfl, rfl, rfl, by decide +kernel, rfl, by decide +kernel, by decide +kernel⟩
abbrev s_law_sign : Stmt := topS 9
abbrev N_law_sign : List Str := ["_law_bag_here"]
theorem sc_law_sign : FnScope N_law_sign ["_law_bag_here"] (defScope s_law_sign) := ⟨rfl, rfl, rfl, by decide +kernel, rfl, by decide +kernel, by decide +kernel⟩
abbrev s_law_name : Stmt := topS 10
abbrev N_law_name : List Str := ["_law_bag_here", "_law_most", "_law_k"]
theorem sc_law_name : FnScope N_law_name ["_law_bag_here", "_law_most"] (defScope s_law_name) := ⟨rfl, rfl, rfl, by decide +kernel, rfl, by decide +kernel, by decide +kernel⟩
abbrev s_law_is_path : Stmt := topS 11
abbrev N_law_is_path : List Str := ["_law_text", "_law_names", "_law_name_here", "_law_sign_here"]
theorem sc_law_is_path : FnScope N_law_is_path ["_law_text"] (defScope s_law_is_path) := ⟨rfl, rfl, rfl, by decide +kernel, rfl, by decide +kernel, by decide +kernel⟩
abbrev s_law : Stmt := topS 12
abbrev N_law : List Str := ["_law_script", "_law_bag_here", "_law_text", "_law_k", "_law_kind", "_law_at", "_law_some", "_law_one"]
theorem sc_law : FnScope N_law ["_law_script"] (defScope s_law) := ⟨rfl, rfl, rfl, by decide +kernel, rfl, by decide +kernel, by decide +kernel⟩
structure Txt (K : PySem.W.Frag) (mg : Str → Option Value) where
  f_fits : Addr
  d_fits : FuncData
  F_fits : FunD K "fits" "fits" (defArgs s_fits) (defBody s_fits) (defScope s_fits) [] [] f_fits d_fits
  g_fits : mg "fits" = some (.ref f_fits)
  f_law_bag : Addr
  d_law_bag : FuncData
  F_law_bag : FunD K "_law_bag" "_law_bag" (defArgs s_law_bag) (defBody s_law_bag) (defScope s_law_bag) [] [] f_law_bag d_law_bag
  g_law_bag : mg "_law_bag" = some (.ref f_law_bag)
  f_law_pull : Addr
  d_law_pull : FuncData
  F_law_pull : FunD K "_law_pull" "_law_pull" (defArgs s_law_pull) (defBody s_law_pull) (defScope s_law_pull) [] [] f_law_pull d_law_pull
  g_law_pull : mg "_law_pull" = some (.ref f_law_pull)
  f_law_truth : Addr
  d_law_truth : FuncData
  F_law_truth : FunD K "_law_truth" "_law_truth" (defArgs s_law_truth) (defBody s_law_truth) (defScope s_law_truth) [] [] f_law_truth d_law_truth
  g_law_truth : mg "_law_truth" = some (.ref f_law_truth)
  f_law_sign : Addr
  d_law_sign : FuncData
  F_law_sign : FunD K "_law_sign" "_law_sign" (defArgs s_law_sign) (defBody s_law_sign) (defScope s_law_sign) [] [] f_law_sign d_law_sign
  g_law_sign : mg "_law_sign" = some (.ref f_law_sign)
  f_law_name : Addr
  d_law_name : FuncData
  F_law_name : FunD K "_law_name" "_law_name" (defArgs s_law_name) (defBody s_law_name) (defScope s_law_name) [] [] f_law_name d_law_name
  g_law_name : mg "_law_name" = some (.ref f_law_name)
  f_law_is_path : Addr
  d_law_is_path : FuncData
  F_law_is_path : FunD K "_law_is_path" "_law_is_path" (defArgs s_law_is_path) (defBody s_law_is_path) (defScope s_law_is_path) [] [] f_law_is_path d_law_is_path
  g_law_is_path : mg "_law_is_path" = some (.ref f_law_is_path)
  f_law : Addr
  d_law : FuncData
  F_law : FunD K "law" "law" (defArgs s_law) (defBody s_law) (defScope s_law) [] [] f_law d_law
  g_law : mg "law" = some (.ref f_law)
  c_DEEP : ∃ u, mg "DEEP" = some u ∧ RelV (.int 5) u
  c_LONG : ∃ u, mg "LONG" = some u ∧ RelV (.int 8) u
  c_SIGNS : ∃ u, mg "SIGNS" = some u ∧ RelV (.str "abcdefghijklmnopqrstuvwxyz0123456789") u
  z_any : mg "any" = none
  z_bool : mg "bool" = none
  z_isinstance : mg "isinstance" = none
  z_len : mg "len" = none
  z_list : mg "list" = none
  z_range : mg "range" = none
theorem Txt.b_fits {K : PySem.W.Frag} {mg : Str → Option Value} (T : Txt K mg) : Binds K T.d_fits ["path"] [] := T.F_fits.bindsN fun _ _ _ _ _ _ us hl => match us, hl with | [_], _ => rfl
theorem Txt.k_fits {K : PySem.W.Frag} {mg : Str → Option Value} (T : Txt K mg) : PySem.W.keepIn K (.ref T.f_fits) = true := T.F_fits.kp
theorem Txt.b_law_bag {K : PySem.W.Frag} {mg : Str → Option Value} (T : Txt K mg) : Binds K T.d_law_bag ["_law_script"] [] := T.F_law_bag.bindsN fun _ _ _ _ _ _ us hl => match us, hl with | [_], _ => rfl
theorem Txt.k_law_bag {K : PySem.W.Frag} {mg : Str → Option Value} (T : Txt K mg) : PySem.W.keepIn K (.ref T.f_law_bag) = true := T.F_law_bag.kp
theorem Txt.b_law_pull {K : PySem.W.Frag} {mg : Str → Option Value} (T : Txt K mg) : Binds K T.d_law_pull ["_law_bag_here", "_law_top"] [] := T.F_law_pull.bindsN fun _ _ _ _ _ _ us hl => match us, hl with | [_, _], _ => rfl
theorem Txt.k_law_pull {K : PySem.W.Frag} {mg : Str → Option Value} (T : Txt K mg) : PySem.W.keepIn K (.ref T.f_law_pull) = true := T.F_law_pull.kp
theorem Txt.b_law_truth {K : PySem.W.Frag} {mg : Str → Option Value} (T : Txt K mg) : Binds K T.d_law_truth ["_law_told", "_law_due"] [] := T.F_law_truth.bindsN fun _ _ _ _ _ _ us hl => match us, hl with | [_, _], _ => rfl
theorem Txt.k_law_truth {K : PySem.W.Frag} {mg : Str → Option Value} (T : Txt K mg) : PySem.W.keepIn K (.ref T.f_law_truth) = true := T.F_law_truth.kp
theorem Txt.b_law_sign {K : PySem.W.Frag} {mg : Str → Option Value} (T : Txt K mg) : Binds K T.d_law_sign ["_law_bag_here"] [] := T.F_law_sign.bindsN fun _ _ _ _ _ _ us hl => match us, hl with | [_], _ => rfl
theorem Txt.k_law_sign {K : PySem.W.Frag} {mg : Str → Option Value} (T : Txt K mg) : PySem.W.keepIn K (.ref T.f_law_sign) = true := T.F_law_sign.kp
theorem Txt.b_law_name {K : PySem.W.Frag} {mg : Str → Option Value} (T : Txt K mg) : Binds K T.d_law_name ["_law_bag_here", "_law_most"] [] := T.F_law_name.bindsN fun _ _ _ _ _ _ us hl => match us, hl with | [_, _], _ => rfl
theorem Txt.k_law_name {K : PySem.W.Frag} {mg : Str → Option Value} (T : Txt K mg) : PySem.W.keepIn K (.ref T.f_law_name) = true := T.F_law_name.kp
theorem Txt.b_law_is_path {K : PySem.W.Frag} {mg : Str → Option Value} (T : Txt K mg) : Binds K T.d_law_is_path ["_law_text"] [] := T.F_law_is_path.bindsN fun _ _ _ _ _ _ us hl => match us, hl with | [_], _ => rfl
theorem Txt.k_law_is_path {K : PySem.W.Frag} {mg : Str → Option Value} (T : Txt K mg) : PySem.W.keepIn K (.ref T.f_law_is_path) = true := T.F_law_is_path.kp
theorem Txt.b_law {K : PySem.W.Frag} {mg : Str → Option Value} (T : Txt K mg) : Binds K T.d_law ["_law_script"] [] := T.F_law.bindsN fun _ _ _ _ _ _ us hl => match us, hl with | [_], _ => rfl
theorem Txt.k_law {K : PySem.W.Frag} {mg : Str → Option Value} (T : Txt K mg) : PySem.W.keepIn K (.ref T.f_law) = true := T.F_law.kp
def sp_law (K : PySem.W.Frag) : Sp := fun vs H Q _ => ∃ (a : Addr) (ns : List Int), vs = [.ref a] ∧ SqL K H a (ns.map V.int) ∧ ns.length ≤ 63 ∧ ∀ H', Q (.bl true) H'
section
variable {P : Program} {w : World} {K : PySem.W.Frag} {mg : Str → Option Value} {base : Heap}
/-! the bag, a draw, is it a whole number -/
def sp_law_bag (K : PySem.W.Frag) : Sp := fun vs H Q _ => ∃ (a : Addr) (ns : List Int), vs = [.ref a] ∧ SqL K H a (ns.map V.int) ∧ ns.length ≤ 63 ∧ ∀ H' b l, Same H H' → H b = none → H l = none → Bag H' b l ns → Q (.ref b) H'
theorem cut63 (ns : List Int) (h : ns.length ≤ 63) : cutV (ns.map V.int) none (some 63) = ns.map V.int := by
  unfold cutV
  rw [HT.sIx_none, show HT.sIx (ns.map V.int).length (ns.map V.int).length (some 63) = min 63 (ns.map V.int).length from HT.sIx_nat _ _ 63, List.length_map, Nat.min_eq_right h]
  rw [List.drop_zero, Nat.sub_zero, show ns.length = (ns.map V.int).length from (List.length_map ..).symm, List.take_length]
theorem ok_law_bag (T : Txt K mg) : FnOk P w K mg base (L2.CX P w) 1 T.f_law_bag T.d_law_bag ["_law_script"] (sp_law_bag K) := by
  refine T.F_law_bag.ok sc_law_bag (fun vs H Q E h => ?_) (fun cdv A outer s H vs Q E hr h => ?_)
  · obtain ⟨a, ns, rfl, _⟩ := h
    rfl
  · obtain ⟨a, ns, rfl, hS, hl, q⟩ := h
    refine ⟨_, PSs.nox (pss_one (ps_ret (pe_lst (pa_cons (pe_callTy call_list_of (by rfl) T.z_list (by decide +kernel) (pa_cons (pe_slice sl_list (pv 0) po_none (po_some pe_int)) pa_nil)) (pa_cons pe_int (pa_cons pe_int (pa_cons pe_int pa_nil))))))), ?_⟩
    refine ⟨_, rfl, _, rfl, _, _, rfl, hS, fun c nc => ⟨c, _, rfl, .inl (SqL.of upd_same), fun l nl => ⟨(by show 4 ≤ sizeLine; decide), fun b nb => ?_⟩⟩⟩
    rw [cut63 ns hl] at nl nb ⊢
    have nlc : c ≠ l := ne_of_none upd_same nl
    have nbl : l ≠ b := ne_of_none upd_same nb
    have s1 := same_new (o := .lst (ns.map V.int)) nc
    have s2 := Same.new (o := .lst (ns.map V.int)) s1 nl
    refine q _ b l (Same.new s2 nb) (s2.free nb) (s1.free nl) ⟨0, 0, 7, by decide, upd_same, by rw [upd_ne nbl, upd_same], hl⟩
def sp_law_pull : Sp := fun vs H Q _ => ∃ (b l : Addr) (ns : List Int) (top : Int), vs = [.ref b, .int top] ∧ Bag H b l ns ∧ 0 < top ∧ top ≤ 1000000000000000000000000000000 ∧ ∀ H' v, 0 ≤ v → v < top → SameB b H H' → Bag H' b l ns → Q (.int v) H'
theorem ok_law_pull (T : Txt K mg) : FnOk P w K mg base (L2.CX P w) 1 T.f_law_pull T.d_law_pull ["_law_bag_here", "_law_top"] sp_law_pull := by
  refine T.F_law_pull.ok sc_law_pull (fun vs H Q E h => ?_) (fun cdv A outer s H vs Q E hr h => ?_)
  · obtain ⟨b, l, ns, top, rfl, _⟩ := h
    rfl
  · obtain ⟨b, l, ns, top, rfl, hB, h0, hT, q⟩ := h
    have hlb := hB.ne
    obtain ⟨i, r, z, hi, hb, hl, hn⟩ := hB
    refine ⟨_, PSs.nox (pss_cons (ps_if (pt_cmpR op_lt (pe_ix ix_list (pv 0) pe_int (fun _ _ => rfl)) pe_int (nomark _))
 (pss_cons (ps_set (i := 2) sc_law_pull.nd rfl (Or.inl rfl) pe_int)
 (pss_mid (ps_if (pt_cmpR op_lt (pe_ix ix_list (pv 0) pe_int (fun _ _ => rfl)) (pe_callB call_len_seq (by rfl) T.z_len (by decide +kernel) (pa_cons (pe_ix ix_list (pv 0) pe_int (fun _ _ => rfl)) pa_nil)) (nomark _))
 (pss_one (ps_set (i := 2) sc_law_pull.nd rfl (Or.inl rfl) (pe_ix ix_list (pe_ix ix_list (pv 0) pe_int (fun _ _ => rfl)) (pe_ix ix_list (pv 0) pe_int (fun _ _ => rfl)) (fun _ _ => rfl))))
 pss_nil)
 (pss_cons (ps_augL (pv 0) pe_int pe_int iop_add)
 (pss_cons (ps_if (pt_cmpR op_lt (pv 2) (pe_op op_pow pe_int pe_int) (nomark _))
 (pss_cons (ps_asg (pe_op op_mod (pe_op op_add (pe_op op_add (pe_op op_mul (pe_ix ix_list (pv 0) pe_int (fun _ _ => rfl)) pe_int) (pe_op op_mul (pv 2) pe_int)) pe_int) pe_int) (pg_sub (pv 0) pe_int set_list))
 (pss_one (ps_ret (pe_op op_mod (pe_op op_fdiv (pe_ix ix_list (pv 0) pe_int (fun _ _ => rfl)) pe_int) (pv 1)))))
 pss_nil)
 (pss_one (ps_asg (pe_op op_sub (pv 2) (pe_op op_pow pe_int pe_int)) (pg_sub (pv 0) pe_int set_list)))))))
 pss_nil)
 (pss_cons (ps_set (i := 3) sc_law_pull.nd rfl (Or.inl rfl) (pe_op op_mod (pe_ix ix_list (pv 0) pe_int (fun _ _ => rfl)) (pv 1)))
 (pss_cons (ps_asg (pe_op op_fdivW (pe_ix ix_list (pv 0) pe_int (fun _ _ => rfl)) (pv 1)) (pg_sub (pv 0) pe_int set_list))
 (pss_one (ps_ret (pv 3)))))), ?_⟩
    have hT' : CDivW r top := wide_div (b := 100) h0 (by omega) (by decide) (by decide)
    walk_at "go"
    refine k_iteD (fun hr1 => ?_) (fun hr1 => ?_)
    · walk_at "go"
      -- a cell is taken
      refine ⟨fun σ1 H1 => H1 = H ∧ ∃ c : Int, σ1 = [some (.ref b), some (.int top), some (.int c), none], ?_, ?_⟩
      · walk_at "go"
        refine k_iteD (fun h1 => ?_) (fun h1 => ?_)
        · obtain ⟨c, hc⟩ : ∃ c, ns[i.toNat]? = some c := by
            rw [List.length_map] at h1
            exact ⟨ns[i.toNat]'(by omega), List.getElem?_eq_getElem (by omega)⟩
          walk_at "go"
          refine k_ixL (v := .int c) (SqL.of hl) (at_of (j := i.toNat) (by omega) (by rw [List.getElem?_map, hc]; rfl)) ?_
          walk_at "go"
          exact ⟨rfl, c, rfl⟩
        · walk_at "go"
          exact ⟨rfl, 0, rfl⟩
      · rintro σ1 H1 ⟨rfl, c, rfl⟩
        walk_at "go"
        refine k_iteD (fun h2 => ?_) (fun h2 => ?_)
        · walk_at "go"
          have hne : l ≠ b := hlb
          refine q _ _ (Int.emod_nonneg _ (by omega)) (Int.emod_lt_of_pos _ h0) (SameB.upd (SameB.upd (SameB.refl b H1))) (Bag.mk (i := i + 1) (by omega) upd_same ?_ hn)
          rw [upd_ne hne, upd_ne hne]
          exact hl
        · walk_at "go"
          have hne : l ≠ b := hlb
          refine q _ _ (Int.emod_nonneg _ (by omega)) (Int.emod_lt_of_pos _ h0) (SameB.upd (SameB.upd (SameB.upd (SameB.refl b H1)))) (Bag.mk (i := i + 1) (by omega) upd_same ?_ hn)
          rw [upd_ne hne, upd_ne hne, upd_ne hne]
          exact hl
    · walk_at "go"
      refine q _ _ (Int.emod_nonneg _ (by omega)) (Int.emod_lt_of_pos _ h0) (SameB.upd (SameB.refl b H)) (Bag.mk hi upd_same ?_ hn)
      rw [upd_ne hlb]
      exact hl
theorem k_pull {b l : Addr} {ns : List Int} {top : Int} {H : Hp} {Q : VK} {E : XK} (hB : Bag H b l ns) (h0 : 0 < top) (h1 : top ≤ 1000000000000000000000000000000)
    (h : ∀ H' v, 0 ≤ v → v < top → SameB b H H' → Bag H' b l ns → Q (.int v) H') : sp_law_pull ([.ref b, .int top] ++ []) H Q E := ⟨b, l, ns, top, rfl, hB, h0, h1, h⟩
/-- [x, ..][pull(bag, n)]: ints between lo and hi -/
theorem k_menu {K : PySem.W.Frag} {b l : Addr} {ns : List Int} {i : Nat} {n : Int} {xs : List V} {σ : L2.St} {H : Hp} {Q : VK} {E : XK} (lo hi : Int) (hσ : σ[i]? = some (some (.ref b))) (hB : Bag H b l ns) (hn : n = (xs.length : Int)) (h0 : 0 < n) (hz : xs.length ≤ 1000)
    (hP : ∀ x ∈ xs, ∃ t, x = V.int t ∧ lo ≤ t ∧ t ≤ hi) (h : ∀ H' t, lo ≤ t → t ≤ hi → SameB b H H' → Bag H' b l ns → Q (.int t) H') :
    xs.length ≤ sizeLine ∧ ∀ p, H p = none → tCall sp_law_pull [] E (tCons (tVar i) (tCons (tC (.int n)) tNil)) σ (upd H p (.lst xs)) fun y H2 => rIxL K (.ref p) y H2 Q := by
  refine ⟨sz hz, fun p np => ⟨.ref b, hσ, ?_⟩⟩
  show sp_law_pull ([.ref b, .int n] ++ []) (upd H p (.lst xs)) (fun y H2 => rIxL K (.ref p) y H2 Q) E
  refine k_pull (hB.keep (same_new np)) h0 (by omega) fun H2 v v0 v1 b2 hB2 => ?_
  obtain ⟨t, e1, t0, t1⟩ := pull_pick lo hi v0 v1 hn hP
  have npb : p ≠ b := fun z => by
    obtain ⟨_, _, _, _, hb, _⟩ := hB
    rw [z, hb] at np
    cases np
  exact k_ixL (SqL.of (b2.get npb upd_same)) e1 (h _ t t0 t1 (fun c o nc hc => b2 c o nc (same_new np c o hc)) hB2)
theorem menu_in {xs : List V} {lo hi : Int} (h : xs.all (fun x => match x with | .int t => decide (lo ≤ t) && decide (t ≤ hi) | _ => false) = true) : ∀ x ∈ xs, ∃ t, x = V.int t ∧ lo ≤ t ∧ t ≤ hi := by
  intro x hx
  have q := List.all_eq_true.mp h x hx
  cases x with
  | int t =>
    simp only [Bool.and_eq_true, decide_eq_true_eq] at q
    exact ⟨t, rfl, q⟩
  | _ => cases q
/-! k14 -/
open SX
def sp_fits : Sp := fun vs H Q _ => ∃ l : List Nat, vs = [.str (S l)] ∧ l.length ≤ 1000 ∧ ∀ H', Same H H' → Q (.bl (pathB l)) H'
theorem ok_fits (T : Txt K mg) : FnOk P w K mg base (L2.CX P w) 1 T.f_fits T.d_fits ["path"] sp_fits := by
  refine T.F_fits.ok sc_fits (fun vs H Q E h => ?_) (fun cdv A outer s H vs Q E hr h => ?_)
  · obtain ⟨l, rfl, _⟩ := h
    rfl
  · obtain ⟨l, rfl, hl, q⟩ := h
    refine ⟨_, PSs.nox (pss_cons (ps_if (pt_cmpR op_eq (pv 0) pe_str (nomark _))
 (pss_one (ps_ret pe_bl))
 pss_nil)
 (pss_cons (ps_asg (pe_split (pv 0) pe_str) (pg_star 1 rfl (pgs_cons (pg_name (i := 1) sc_fits.nd rfl (Or.inl rfl)) (pgs_cons (pg_name (i := 2) sc_fits.nd rfl (Or.inl rfl)) pgs_nil))))
 (pss_cons (ps_if (PW.pt (pw_or (pt_cmpR op_ne (pv 1) pe_str (nomark _)) (pw_or (pt_cmpR op_lt (pe_callB call_len_seq (by rfl) T.z_len (by decide +kernel) (pa_cons (pv 2) pa_nil)) pe_int (nomark _)) (pw_or1 (pt_cmpR op_gt (pe_callB call_len_seq (by rfl) T.z_len (by decide +kernel) (pa_cons (pv 2) pa_nil)) (pe_gl (by rfl) T.c_DEEP) (nomark _))))))
 (pss_one (ps_ret pe_bl))
 pss_nil)
 (pss_cons (ps_for PassesOwn.never rfl (pi_list (pv 2)) (pg_name (i := 3) sc_fits.nd rfl (Or.inl rfl))
 (pss_cons (ps_if (PW.pt (pw_or (pt_cmpR op_lt (pe_callB call_len_str (by rfl) T.z_len (by decide +kernel) (pa_cons (pv 3) pa_nil)) pe_int (nomark _)) (pw_or1 (pt_cmpR op_gt (pe_callB call_len_str (by rfl) T.z_len (by decide +kernel) (pa_cons (pv 3) pa_nil)) (pe_gl (by rfl) T.c_LONG) (nomark _)))))
 (pss_one (ps_ret pe_bl))
 pss_nil)
 (pss_one (ps_if (pt_val (pe_callB (cr_any rfl) (by rfl) T.z_any (by decide +kernel) (pa_cons (pe_lc (own := [("sign", 4)]) (g := gName 4) (tt := tYes) (by rfl) sc_fits.nd (pi_str (pv 3)) (blkOk_by (own := [("sign", 4)]) (N := N_fits) (sc := defScope s_fits) (by decide +kernel)) (fun _ _ _ _ _ => (pg_name (i := 4) sc_fits.nd rfl (Or.inl rfl))) (fun _ _ _ _ _ => pts_nil) (fun _ _ _ _ _ => (pe_cmpR op_notIn_sign (pv 4) (pe_gl (by rfl) T.c_SIGNS) rfl))) pa_nil)))
 (pss_one (ps_ret pe_bl))
 pss_nil))))
 (pss_one (ps_ret pe_bl)))))), ?_⟩
    rw [lit_sl, lit_e]
    walk_at "gt"
    rw [str_eq]
    refine k_iteD (fun h1 => ?_) (fun h1 => ?_)
    · walk_at "gt"
      have e := q H (Same.refl H)
      rw [h1] at e
      exact e
    walk_at "gt"
    obtain ⟨root, names, hs, hp⟩ := path_spl h1
    refine k_split (l := l) (c := 47) (by omega) (by decide) fun a na => ?_
    rw [hs, List.map_cons]
    walk_at "gt"
    refine k_star (i := 1) (SqL.of upd_same) (by simp) fun d nd => ?_
    rw [List.take_succ_cons, List.take_zero, List.drop_succ_cons, List.drop_zero]
    have s1 : Same H (upd (upd H a (HO.lst (V.str (S root) :: List.map (fun z => V.str (S z)) names))) d (HO.lst (List.map (fun z => V.str (S z)) names))) := Same.new (same_new na) nd
    rw [List.singleton_append]
    walk_at "gt"
    rw [str_eq]
    have no : ∀ H', Same H H' → pathB l = false → Q (.bl false) H' := fun H' s e => by
      have e2 := q H' s
      rw [e] at e2
      exact e2
    refine k_iteN (fun h2 => ?_) (fun h2 => ?_)
    · walk_at "gt"
      exact no _ s1 (by rw [hp]; simp [h2])
    walk_at "gt"
    rw [List.length_map]
    refine k_iteD (fun h3 => ?_) (fun h3 => ?_)
    · walk_at "gt"
      exact no _ s1 (by rw [hp]; simp; omega)
    walk_at "gt"
    rw [List.length_map]
    refine k_iteD (fun h4 => ?_) (fun h4 => ?_)
    · walk_at "gt"
      exact no _ s1 (by rw [hp]; simp; omega)
    walk_at "gt"
    refine k_inL (fun i σ H' => (∃ y, σ = [some (.str (S l)), some (.str (S root)), some (.ref d), y, none]) ∧ Same H H' ∧ H' d = some (.lst (names.map fun z => .str (S z))) ∧ (names.take i).all nameB = true) (SqL.of upd_same)
      ⟨⟨_, rfl⟩, s1, upd_same, rfl⟩ (fun i σ H' _ h => SqL.of h.2.2.1) ?_ ?_
    · rintro i x σ H' hx ⟨⟨y, rfl⟩, s2, hd, hA⟩
      obtain ⟨n, rfl, hn⟩ := str_at hx
      have hnl : n.length ≤ 1000 := by
        have := spl_len 0 [] l n (by rw [hs]; exact List.mem_cons_of_mem _ (List.mem_of_getElem? hn))
        simp only [List.length_nil] at this
        omega
      have no2 : nameB n = false → Q (.bl false) H' := fun e => no _ s2 (by rw [hp, all_no hn e]; simp)
      walk_at "gt"
      refine k_szS (by omega) ?_
      rw [S_len]
      walk_at "gt"
      refine k_iteD (fun h5 => ?_) (fun h5 => ?_)
      · walk_at "gt"
        exact no2 (by unfold nameB; rw [decide_eq_false (by omega)]; rfl)
      walk_at "gt"
      refine k_szS (by omega) ?_
      rw [S_len]
      walk_at "gt"
      refine k_iteD (fun h6 => ?_) (fun h6 => ?_)
      · walk_at "gt"
        exact no2 (by unfold nameB; rw [decide_eq_true (show 1 ≤ n.length by omega), decide_eq_false (by omega)]; rfl)
      walk_at "gt"
      have hB : nameB n = n.all fun c => decide (c ∈ signs36) := by
        unfold nameB
        rw [decide_eq_true (show 1 ≤ n.length by omega), decide_eq_true (show n.length ≤ 8 by omega)]
        rfl
      refine k_lcS (fun D i acc H1 => Same H' H1 ∧ acc = ((n.take i).map fun c => !decide (c ∈ signs36)).map V.bl) (fun D nD => ⟨same_new nD, rfl⟩) ?_ ?_
      · rintro D i c acc H1 nD hi hc hD ha ⟨s3, rfl⟩
        rw [lit_36]
        walk_at "gt"
        refine lc_end hD ha (by omega) ⟨Same.mut s3 nD, ?_⟩
        rw [take_snocT hc]
        simp
      · rintro D acc H1 nD hD hl2 ⟨s3, rfl⟩
        rw [List.take_length] at hD
        walk_at "gt"
        refine k_any hD ?_
        rw [any_not, ← hB]
        walk_at "gt"
        refine k_iteB (fun h7 => ?_) (fun h7 => ?_)
        · walk_at "gt"
          have h8 : nameB n = false := by simpa using h7
          exact no _ (s2.trans s3) (by rw [hp, all_no hn h8]; simp)
        · walk_at "gt"
          exact ⟨⟨_, rfl⟩, s2.trans s3, s3 _ _ hd, all_snoc hn hA (by simpa using h7)⟩
    · rintro σ H' ⟨⟨y, rfl⟩, s2, hd, hA⟩
      rw [List.length_map, List.take_length] at hA
      walk_at "gt"
      have e2 := q H' s2
      rw [hp, hA, decide_eq_true h2, decide_eq_true (by omega), decide_eq_true (by omega)] at e2
      exact e2
def sp_law_truth : Sp := fun vs H Q _ => ∃ b : Bool, vs = [.bl b, .bl b] ∧ Q (.bl true) H
theorem ok_law_truth (T : Txt K mg) : FnOk P w K mg base (L2.CX P w) 1 T.f_law_truth T.d_law_truth ["_law_told", "_law_due"] sp_law_truth := by
  refine T.F_law_truth.ok sc_law_truth (fun vs H Q E h => ?_) (fun cdv A outer s H vs Q E hr h => ?_)
  · obtain ⟨b, rfl, _⟩ := h
    rfl
  · obtain ⟨b, rfl, q⟩ := h
    refine ⟨_, PSs.nox (pss_one (ps_ret (pe_and (pe_callB call_isi (by rfl) T.z_isinstance (by decide +kernel) (pa_cons (pv 0) (pa_cons (pe_bltn (v := .ty "bool") (by rfl) T.z_bool (by decide +kernel) rfl) pa_nil))) (pe_one (pe_cmpR op_eq (pv 0) (pv 1) (nomark _)))))), ?_⟩
    walk_at "gt"
    rw [decide_eq_true rfl]
    exact q
def sp_law_sign : Sp := fun vs H Q _ => ∃ (b l : Addr) (ns : List Int), vs = [.ref b] ∧ Bag H b l ns ∧ ∀ H' c, c ∈ signs36 → SameB b H H' → Bag H' b l ns → Q (.str (S [c])) H'
theorem ok_law_sign (T : Txt K mg) : FnOk P w K mg base (L2.CX P w) 2 T.f_law_sign T.d_law_sign ["_law_bag_here"] sp_law_sign := by
  refine T.F_law_sign.ok sc_law_sign (fun vs H Q E h => ?_) (fun cdv A outer s H vs Q E hr h => ?_)
  · obtain ⟨b, l, ns, rfl, _⟩ := h
    rfl
  · obtain ⟨b, l, ns, rfl, hB, q⟩ := h
    refine ⟨_, PSs.nox (pss_one (ps_ret (pe_ix ix_str pe_str (pe_call (ok_law_pull T) (hr.mono (by decide)) (by rfl) T.g_law_pull T.k_law_pull T.b_law_pull .nil passL (pa_cons (pv 0) (pa_cons pe_int pa_nil))) (fun _ _ => rfl)))), ?_⟩
    walk_at "gt"
    refine k_pull hB (by decide) (by decide) fun H1 v v0 v1 b1 hB1 => ?_
    rw [lit_36]
    have hl : v.toNat < signs36.length := by
      rw [show signs36.length = 36 from rfl]
      omega
    refine k_ixS (c := signs36[v.toNat]) (by decide) ?_ (q _ _ (List.getElem_mem hl) b1 hB1)
    have e := atI_nat (xs := signs36) (List.getElem?_eq_getElem hl)
    rw [Int.toNat_of_nonneg v0] at e
    exact e
def sp_law_name : Sp := fun vs H Q _ => ∃ (b l : Addr) (ns : List Int) (n : Int), vs = [.ref b, .int n] ∧ Bag H b l ns ∧ 1 ≤ n ∧ n ≤ 10 ∧ ∀ H' cs, (cs : List Nat).length ≤ 10 → (∀ c ∈ cs, c ∈ signs36) → SameB b H H' → Bag H' b l ns → Q (.str (S cs)) H'
theorem ok_law_name (T : Txt K mg) : FnOk P w K mg base (L2.CX P w) 3 T.f_law_name T.d_law_name ["_law_bag_here", "_law_most"] sp_law_name := by
  refine T.F_law_name.ok sc_law_name (fun vs H Q E h => ?_) (fun cdv A outer s H vs Q E hr h => ?_)
  · obtain ⟨b, l, ns, n, rfl, _⟩ := h
    rfl
  · obtain ⟨b, l, ns, n, rfl, hB, n0, n1, q⟩ := h
    refine ⟨_, PSs.nox (pss_one (ps_ret (pe_join pe_str (pe_lc (own := [("_law_k", 2)]) (g := gName 2) (tt := tYes) (by rfl) sc_law_name.nd (pi_range1 (by rfl) T.z_range (pa_cons (pe_op op_add pe_int (pe_call (ok_law_pull T) (hr.mono (by decide)) (by rfl) T.g_law_pull T.k_law_pull T.b_law_pull .nil passL (pa_cons (pv 0) (pa_cons (pv 1) pa_nil)))) pa_nil)) (blkOk_by (own := [("_law_k", 2)]) (N := N_law_name) (sc := defScope s_law_name) (by decide +kernel)) (fun _ _ _ _ _ => (pg_name (i := 2) sc_law_name.nd rfl (Or.inl rfl))) (fun _ _ _ _ _ => pts_nil) (fun _ _ _ _ _ => (pe_call (ok_law_sign T) (hr.mono (by decide)) (by rfl) T.g_law_sign T.k_law_sign T.b_law_sign .nil passL (pa_cons (pv 0) pa_nil))))))), ?_⟩
    walk_at "gt"
    refine k_pull hB (by omega) (by omega) fun H1 v v0 v1 b1 hB1 => ?_
    walk_at "gt"
    refine ⟨by omega, by omega, ?_⟩
    refine k_lcR (fun D i acc H' => (D ≠ b ∧ D ≠ l) ∧ SameB b H H' ∧ Bag H' b l ns ∧ ∃ cs : List Nat, acc = cs.map (fun c => V.str (S [c])) ∧ ∀ c ∈ cs, c ∈ signs36) (fun D nD => ⟨hB1.fresh nD, b1.new nD, hB1.keep (same_new nD), [], rfl, by simp⟩) ?_ ?_
    · rintro D i acc H' nD hi hD ha ⟨nDb, bB, hB2, cs, rfl, hc⟩
      walk_at "gt"
      refine ⟨b, l, ns, rfl, hB2, fun H3 c hc3 b3 hB3 => ?_⟩
      have d3 := b3.get nDb.1 hD
      refine lc_end d3 ha (by omega) ⟨nDb, (bB.trans b3).mut (b1.free nDb.1 nD), hB3.updL d3 nDb.1 nDb.2, cs ++ [c], by simp, fun j hj => ?_⟩
      rcases List.mem_append.mp hj with hj | hj
      · exact hc j hj
      · rw [List.mem_singleton.mp hj]
        exact hc3
    · rintro D acc H' nD hD hal ⟨nDb, bB, hB2, cs, rfl, hc⟩
      walk_at "gt"
      rw [List.length_map] at hal
      refine k_join0 (ys := cs.map fun c => [c]) lit_e (by rw [hD, List.map_map]; rfl) ?_ (by rw [List.length_map]; omega) ?_
      · rw [List.map_map]
        have e : ∀ xs : List Nat, (xs.map (List.length ∘ fun c => [c])).sum = xs.length := fun xs => by
          induction xs with
          | nil => rfl
          | cons c xs ih =>
            rw [List.map_cons, List.sum_cons, ih, List.length_cons, Nat.add_comm]
            rfl
        rw [e]
        omega
      · have e : ∀ xs : List Nat, (xs.map fun c => [c]).flatten = xs := fun xs => by
          induction xs with
          | nil => rfl
          | cons c xs ih => rw [List.map_cons, List.flatten_cons, ih]; rfl
        rw [e]
        exact q H' cs (by omega) hc bB hB2
def sp_law_is_path : Sp := fun vs H Q _ => ∃ l : List Nat, vs = [.str (S l)] ∧ l.length ≤ 1000 ∧ ∀ H', Same H H' → Q (.bl (pathB l)) H'
theorem ok_law_is_path (T : Txt K mg) : FnOk P w K mg base (L2.CX P w) 1 T.f_law_is_path T.d_law_is_path ["_law_text"] sp_law_is_path := by
  refine T.F_law_is_path.ok sc_law_is_path (fun vs H Q E h => ?_) (fun cdv A outer s H vs Q E hr h => ?_)
  · obtain ⟨l, rfl, _⟩ := h
    rfl
  · obtain ⟨l, rfl, hl, q⟩ := h
    refine ⟨_, PSs.nox (pss_cons (ps_if (pt_cmpR op_eq (pv 0) pe_str (nomark _))
 (pss_one (ps_ret pe_bl))
 pss_nil)
 (pss_cons (ps_if (pt_cmpR op_ne (pe_slice sl_str (pv 0) po_none (po_some pe_int)) pe_str (nomark _))
 (pss_one (ps_ret pe_bl))
 pss_nil)
 (pss_cons (ps_set (i := 1) sc_law_is_path.nd rfl (Or.inl rfl) (pe_split (pe_slice sl_str (pv 0) (po_some pe_int) po_none) pe_str))
 (pss_cons (ps_if (pt_cmpR op_gt (pe_callB call_len_seq (by rfl) T.z_len (by decide +kernel) (pa_cons (pv 1) pa_nil)) pe_int (nomark _))
 (pss_one (ps_ret pe_bl))
 pss_nil)
 (pss_cons (ps_for PassesOwn.never rfl (pi_list (pv 1)) (pg_name (i := 2) sc_law_is_path.nd rfl (Or.inl rfl))
 (pss_cons (ps_if (PW.pt (pw_or (pt_cmpR op_lt (pe_callB call_len_str (by rfl) T.z_len (by decide +kernel) (pa_cons (pv 2) pa_nil)) pe_int (nomark _)) (pw_or1 (pt_cmpR op_gt (pe_callB call_len_str (by rfl) T.z_len (by decide +kernel) (pa_cons (pv 2) pa_nil)) pe_int (nomark _)))))
 (pss_one (ps_ret pe_bl))
 pss_nil)
 (pss_one (ps_for PassesOwn.never rfl (pi_str (pv 2)) (pg_name (i := 3) sc_law_is_path.nd rfl (Or.inl rfl))
 (pss_one (ps_if (pt_cmpR op_notIn_sign (pv 3) pe_str rfl)
 (pss_one (ps_ret pe_bl))
 pss_nil))))))
 (pss_one (ps_ret pe_bl))))))), ?_⟩
    rw [lit_sl]
    walk_at "gt"
    rw [str_eq]
    have no : ∀ H', Same H H' → pathB l = false → Q (.bl false) H' := fun H' s e => by
      have e2 := q H' s
      rw [e] at e2
      exact e2
    refine k_iteD (fun h1 => ?_) (fun h1 => ?_)
    · walk_at "gt"
      have e := q H (Same.refl H)
      rw [h1] at e
      exact e
    walk_at "gt"
    have hp := path_law h1
    refine k_slS (by omega) ?_
    rw [cut_to1]
    walk_at "gt"
    rw [str_eq]
    refine k_iteN (fun h2 => ?_) (fun h2 => ?_)
    · walk_at "gt"
      exact no _ (Same.refl H) (by rw [hp]; simp [h2])
    walk_at "gt"
    refine k_slS (by omega) ?_
    rw [cut_from1]
    walk_at "gt"
    have hdl : (l.drop 1).length ≤ 1000 := by
      rw [List.length_drop]
      omega
    refine k_split (l := l.drop 1) (c := 47) (by omega) (by decide) fun d nd => ?_
    generalize hs : TL.spl [47] 0 [] (l.drop 1) = names at hp ⊢
    have s1 := same_new (o := .lst (names.map fun z => V.str (S z))) nd
    walk_at "gt"
    rw [List.length_map]
    refine k_iteD (fun h4 => ?_) (fun h4 => ?_)
    · walk_at "gt"
      exact no _ s1 (by rw [hp]; simp; omega)
    walk_at "gt"
    refine k_inL (fun i σ H' => (∃ y z, σ = [some (.str (S l)), some (.ref d), y, z]) ∧ Same H H' ∧ H' d = some (.lst (names.map fun z => .str (S z))) ∧ (names.take i).all nameB = true) (SqL.of upd_same)
      ⟨⟨_, _, rfl⟩, s1, upd_same, rfl⟩ (fun i σ H' _ h => SqL.of h.2.2.1) ?_ ?_
    · rintro i x σ H' hx ⟨⟨y, z, rfl⟩, s2, hd, hA⟩
      obtain ⟨n, rfl, hn⟩ := str_at hx
      have hnl : n.length ≤ 1000 := by
        have := spl_len 0 [] _ n (by rw [hs]; exact List.mem_of_getElem? hn)
        simp only [List.length_nil] at this
        omega
      have no2 : nameB n = false → Q (.bl false) H' := fun e => no _ s2 (by rw [hp, all_no hn e]; simp)
      walk_at "gt"
      refine k_szS (by omega) ?_
      rw [S_len]
      walk_at "gt"
      refine k_iteD (fun h5 => ?_) (fun h5 => ?_)
      · walk_at "gt"
        exact no2 (by unfold nameB; rw [decide_eq_false (by omega)]; rfl)
      walk_at "gt"
      refine k_szS (by omega) ?_
      rw [S_len]
      walk_at "gt"
      refine k_iteD (fun h6 => ?_) (fun h6 => ?_)
      · walk_at "gt"
        exact no2 (by unfold nameB; rw [decide_eq_true (show 1 ≤ n.length by omega), decide_eq_false (by omega)]; rfl)
      walk_at "gt"
      have hB : nameB n = n.all fun c => decide (c ∈ signs36) := by
        unfold nameB
        rw [decide_eq_true (show 1 ≤ n.length by omega), decide_eq_true (show n.length ≤ 8 by omega)]
        rfl
      refine k_inS (fun i σ H1 => (∃ z, σ = [some (.str (S l)), some (.ref d), some (.str (S n)), z]) ∧ H1 = H' ∧ ((n.take i).all fun c => decide (c ∈ signs36)) = true) ⟨⟨_, rfl⟩, rfl, rfl⟩ ?_ ?_
      · rintro j c σ H1 hc ⟨⟨z, rfl⟩, rfl, hE⟩
        rw [lit_36]
        walk_at "gt"
        refine k_iteN (fun h7 => ?_) (fun h7 => ?_)
        · walk_at "gt"
          exact no2 (by rw [hB]; exact all_no hc (decide_eq_false h7))
        · walk_at "gt"
          exact ⟨⟨_, rfl⟩, rfl, all_snoc hc hE (decide_eq_true h7)⟩
      · rintro σ H1 ⟨⟨z, rfl⟩, rfl, hE⟩
        rw [List.take_length] at hE
        exact ⟨⟨_, _, rfl⟩, s2, hd, all_snoc hn hA (by rw [hB]; exact hE)⟩
    · rintro σ H' ⟨⟨y, z, rfl⟩, s2, hd, hA⟩
      rw [List.length_map, List.take_length] at hA
      walk_at "gt"
      have e2 := q H' s2
      rw [hp, hA, decide_eq_true h2, decide_eq_true (by omega)] at e2
      exact e2
theorem ok_law (T : Txt K mg) : FnOk P w K mg base (L2.CX P w) 4 T.f_law T.d_law ["_law_script"] (sp_law K) := by
  refine T.F_law.ok sc_law (fun vs H Q E h => ?_) (fun cdv A outer s H vs Q E hr h => ?_)
  · obtain ⟨a, ns, rfl, _⟩ := h
    rfl
  · obtain ⟨a, ns, rfl, hS, hl, q⟩ := h
    refine ⟨_, PSs.nox (pss_cons (ps_set (i := 1) sc_law.nd rfl (Or.inl rfl) (pe_call (ok_law_bag T) (hr.mono (by decide)) (by rfl) T.g_law_bag T.k_law_bag T.b_law_bag .nil passL (pa_cons (pv 0) pa_nil)))
 (pss_cons (ps_set (i := 2) sc_law.nd rfl (Or.inl rfl) pe_str)
 (pss_mid (ps_for PassesOwn.never rfl (pi_range1 (by rfl) T.z_range (pa_cons (pe_call (ok_law_pull T) (hr.mono (by decide)) (by rfl) T.g_law_pull T.k_law_pull T.b_law_pull .nil passL (pa_cons (pv 1) (pa_cons pe_int pa_nil))) pa_nil)) (pg_name (i := 3) sc_law.nd rfl (Or.inl rfl))
 (pss_one (ps_set (i := 2) sc_law.nd rfl (Or.inl rfl) (pe_op op_add_str (pe_op op_add_str (pv 2) pe_str) (pe_call (ok_law_name T) (hr.mono (by decide)) (by rfl) T.g_law_name T.k_law_name T.b_law_name .nil passL (pa_cons (pv 1) (pa_cons (pe_ix ix_list (pe_lst (pa_cons pe_int (pa_cons pe_int (pa_cons pe_int pa_nil)))) (pe_call (ok_law_pull T) (hr.mono (by decide)) (by rfl) T.g_law_pull T.k_law_pull T.b_law_pull .nil passL (pa_cons (pv 1) (pa_cons pe_int pa_nil))) (fun _ _ => rfl)) pa_nil)))))))
 (pss_cons (ps_set (i := 4) sc_law.nd rfl (Or.inl rfl) (pe_call (ok_law_pull T) (hr.mono (by decide)) (by rfl) T.g_law_pull T.k_law_pull T.b_law_pull .nil passL (pa_cons (pv 1) (pa_cons pe_int pa_nil))))
 (pss_cons (ps_set (i := 5) sc_law.nd rfl (Or.inl rfl) (pe_call (ok_law_pull T) (hr.mono (by decide)) (by rfl) T.g_law_pull T.k_law_pull T.b_law_pull .nil passL (pa_cons (pv 1) (pa_cons (pe_op op_add (pe_callB call_len_str (by rfl) T.z_len (by decide +kernel) (pa_cons (pv 2) pa_nil)) pe_int) pa_nil))))
 (pss_cons (ps_set (i := 6) sc_law.nd rfl (Or.inl rfl) pe_str)
 (pss_mid (ps_if (pt_cmpR op_eq (pv 4) pe_int (nomark _))
 (pss_one (ps_set (i := 2) sc_law.nd rfl (Or.inl rfl) (pe_op op_add_str (pe_op op_add_str (pe_slice sl_str (pv 2) po_none (po_some (pv 5))) (pe_ix ix_str (pv 6) (pe_call (ok_law_pull T) (hr.mono (by decide)) (by rfl) T.g_law_pull T.k_law_pull T.b_law_pull .nil passL (pa_cons (pv 1) (pa_cons (pe_callB call_len_str (by rfl) T.z_len (by decide +kernel) (pa_cons (pv 6) pa_nil)) pa_nil))) (fun _ _ => rfl))) (pe_slice sl_str (pv 2) (po_some (pv 5)) po_none))))
 pss_nil)
 (pss_mid (ps_if (pt_cmpR op_eq (pv 4) pe_int (nomark _))
 (pss_one (ps_set (i := 2) sc_law.nd rfl (Or.inl rfl) (pe_op op_add_str (pe_slice sl_str (pv 2) po_none (po_some (pv 5))) (pe_slice sl_str (pv 2) (po_some (pe_op op_add (pv 5) pe_int)) po_none))))
 pss_nil)
 (pss_cons (ps_for PassesOwn.never rfl (pi_list (pe_lst (pa_cons (pv 2) (pa_cons (pe_op op_add_str (pv 2) pe_str) (pa_cons (pe_slice sl_str (pv 2) (po_some pe_int) po_none) (pa_cons (pe_op op_add_str (pv 2) (pv 2)) (pa_cons pe_str (pa_cons pe_str (pa_cons pe_str (pa_cons (pe_op op_add_str pe_str (pv 2)) (pa_cons (pe_op op_add_str (pv 2) pe_str) pa_nil))))))))))) (pg_name (i := 7) sc_law.nd rfl (Or.inl rfl))
 (pss_one (ps_if (pt_not (pt_val (pe_call (ok_law_truth T) (hr.mono (by decide)) (by rfl) T.g_law_truth T.k_law_truth T.b_law_truth .nil passL (pa_cons (pe_call (ok_fits T) (hr.mono (by decide)) (by rfl) T.g_fits T.k_fits T.b_fits .nil passL (pa_cons (pv 7) pa_nil)) (pa_cons (pe_call (ok_law_is_path T) (hr.mono (by decide)) (by rfl) T.g_law_is_path T.k_law_is_path T.b_law_is_path .nil passL (pa_cons (pv 7) pa_nil)) pa_nil)))))
 (pss_one (ps_ret pe_bl))
 pss_nil)))
 (pss_one (ps_ret pe_bl))))))))))), ?_⟩
    rw [lit_sl, lit_e, lit_some, lit_ss, lit_nl]
    walk_at "gt"
    refine ⟨a, ns, rfl, hS, hl, fun H1 b l s1 _ _ hB1 => ?_⟩
    walk_at "gt"
    refine ⟨fun σ H' => (∃ t y, σ = [some (.ref a), some (.ref b), some (.str (S t)), y, none, none, none, none] ∧ t.length ≤ 77) ∧ Bag H' b l ns, ?_, ?_⟩
    · walk_at "gt"
      refine k_pull hB1 (by decide) (by decide) fun H2 k k0 k1 b2 hB2 => ?_
      walk_at "gt"
      refine ⟨by omega, by omega, ?_⟩
      refine k_inR (fun i σ H' => (∃ t y, σ = [some (.ref a), some (.ref b), some (.str (S t)), y, none, none, none, none] ∧ t.length ≤ 11 * i) ∧ Bag H' b l ns) ⟨⟨[], _, rfl, by simp⟩, hB2⟩ ?_ ?_
      · rintro i σ H' hi ⟨⟨t, y, rfl, ht⟩, hB3⟩
        walk_at "gt"
        refine k_addS (by simp; omega) ?_
        rw [S_cat]
        walk_at "gt"
        refine k_menu 3 10 rfl hB3 rfl (by decide) (by decide) (menu_in (by decide)) fun H4 m m0 m1 b4 hB4 => ?_
        walk_at "gt"
        refine ⟨b, l, ns, m, rfl, hB4, by omega, by omega, fun H5 cs hc _ b5 hB5 => ?_⟩
        walk_at "gt"
        refine k_addS (by simp; omega) ?_
        rw [S_cat]
        walk_at "gt"
        exact ⟨⟨_, _, rfl, by simp; omega⟩, hB5⟩
      · rintro σ H' ⟨⟨t, y, rfl, ht⟩, hB3⟩
        exact ⟨⟨t, _, rfl, by omega⟩, hB3⟩
    rintro σ H2 ⟨⟨t, y, rfl, ht⟩, hB2⟩
    walk_at "gt"
    refine k_pull hB2 (by decide) (by decide) fun H3 kind k0 k1 b3 hB3 => ?_
    walk_at "gt"
    refine k_szS (by omega) ?_
    rw [S_len]
    walk_at "gt"
    refine k_pull hB3 (by omega) (by omega) fun H4 at_ a0 a1 b4 hB4 => ?_
    walk_at "gt"
    refine ⟨fun σ H' => ∃ t, σ = [some (.ref a), some (.ref b), some (.str (S t)), y, some (.int kind), some (.int at_), some (.str (S someL)), none] ∧ t.length ≤ 78, ?_, ?_⟩
    · walk_at "gt"
      refine k_iteD (fun h1 => ?_) (fun h1 => ?_)
      · walk_at "gt"
        refine k_slS (by omega) ?_
        rw [cut_to _ a0]
        walk_at "gt"
        refine k_szS (by decide) ?_
        rw [S_len]
        walk_at "gt"
        refine k_pull hB4 (by decide) (by decide) fun H5 v v0 v1 b5 hB5 => ?_
        have hv : v.toNat < someL.length := by omega
        refine k_ixS (c := someL[v.toNat]) (by decide) ?_ ?_
        · have e := atI_nat (xs := someL) (List.getElem?_eq_getElem hv)
          rw [Int.toNat_of_nonneg v0] at e
          exact e
        walk_at "gt"
        refine k_addS (by simp; omega) ?_
        rw [S_cat]
        walk_at "gt"
        refine k_slS (by omega) ?_
        rw [cut_from _ a0]
        walk_at "gt"
        refine k_addS (by simp; omega) ?_
        rw [S_cat]
        walk_at "gt"
        simp
        omega
      · walk_at "gt"
        show t.length ≤ 78
        omega
    rintro σ H5 ⟨t, rfl, ht⟩
    refine ⟨fun σ H' => ∃ t, σ = [some (.ref a), some (.ref b), some (.str (S t)), y, some (.int kind), some (.int at_), some (.str (S someL)), none] ∧ t.length ≤ 78, ?_, ?_⟩
    · walk_at "gt"
      refine k_iteD (fun h1 => ?_) (fun h1 => ?_)
      · walk_at "gt"
        refine k_slS (by omega) ?_
        rw [cut_to _ a0]
        walk_at "gt"
        refine k_slS (by omega) ?_
        rw [cut_from _ (show 0 ≤ at_ + 1 by omega)]
        walk_at "gt"
        refine k_addS (by simp; omega) ?_
        rw [S_cat]
        walk_at "gt"
        simp
        omega
      · walk_at "gt"
        show t.length ≤ 78
        omega
    rintro σ H6 ⟨t, rfl, ht⟩
    walk_at "gt"
    refine k_addS (by simp; omega) ?_
    rw [S_cat]
    walk_at "gt"
    refine k_slS (by omega) ?_
    rw [cut_from1]
    walk_at "gt"
    refine k_addS (by omega) ?_
    rw [S_cat]
    walk_at "gt"
    refine k_addS (by simp; omega) ?_
    rw [S_cat]
    walk_at "gt"
    refine k_addS (by simp; omega) ?_
    rw [S_cat]
    walk_at "gt"
    refine ⟨by walk_at "sz", fun p np => ?_⟩
    walk_at "gt"
    refine k_inL (fun i σ H' => (∃ x, σ = [some (.ref a), some (.ref b), some (.str (S t)), y, some (.int kind), some (.int at_), some (.str (S someL)), x]) ∧ Same H6 H' ∧ H' p = some (.lst _)) (SqL.of upd_same)
      ⟨⟨_, rfl⟩, same_new np, upd_same⟩ (fun i σ H' _ h => SqL.of h.2.2) ?_ ?_
    · rintro i x σ H' hx ⟨⟨x0, rfl⟩, s7, hp⟩
      obtain ⟨z, rfl, hz⟩ : ∃ z, x = V.str (S z) ∧ z.length ≤ 1000 := by
        have hm := List.mem_of_getElem? hx
        simp only [List.mem_cons, List.not_mem_nil, or_false] at hm
        rcases hm with rfl | rfl | rfl | rfl | rfl | rfl | rfl | rfl | rfl
        all_goals exact ⟨_, rfl, by (try simp); try omega⟩
      walk_at "gt"
      refine ⟨z, rfl, hz, fun H8 s8 => ?_⟩
      walk_at "gt"
      refine ⟨z, rfl, hz, fun H9 s9 => ?_⟩
      walk_at "gt"
      refine ⟨pathB z, rfl, ?_⟩
      walk_at "gt"
      exact ⟨⟨_, rfl⟩, (s7.trans s8).trans s9, s9 _ _ (s8 _ _ hp)⟩
    · rintro σ H' ⟨⟨x0, rfl⟩, s7, hp⟩
      walk_at "gt"
      exact q _
end
theorem all_mk {l : PySem.W.OpenLaw} {w : World} {K : PySem.W.Frag} {h : Heap} {mg : Str → Option Value} {fa : Addr} (X : K.In h) (G : h.Ns mainGlobals mg) (hfa : mg "law" = some (.ref fa))
  {f1 : Addr} {od1 an1 : Option Addr} {sl1 : Array (Option Value)} {oc1 kV1 dc1 pm1 cd1 ct1 : Value}
  {f2 : Addr} {od2 an2 : Option Addr} {sl2 : Array (Option Value)} {oc2 kV2 dc2 pm2 cd2 ct2 : Value}
  {f3 : Addr} {od3 an3 : Option Addr} {sl3 : Array (Option Value)} {oc3 kV3 dc3 pm3 cd3 ct3 : Value}
  {f4 : Addr} {od4 an4 : Option Addr} {sl4 : Array (Option Value)} {oc4 kV4 dc4 pm4 cd4 ct4 : Value}
  {f5 : Addr} {od5 an5 : Option Addr} {sl5 : Array (Option Value)} {oc5 kV5 dc5 pm5 cd5 ct5 : Value}
  {f6 : Addr} {od6 an6 : Option Addr} {sl6 : Array (Option Value)} {oc6 kV6 dc6 pm6 cd6 ct6 : Value}
  {f7 : Addr} {od7 an7 : Option Addr} {sl7 : Array (Option Value)} {oc7 kV7 dc7 pm7 cd7 ct7 : Value}
  {f8 : Addr} {od8 an8 : Option Addr} {sl8 : Array (Option Value)} {oc8 kV8 dc8 pm8 cd8 ct8 : Value}
  {ct_DEEP : Tok}
  {ct_LONG : Tok}
  {ct_SIGNS : Tok}
  (a1 : PySem.W.nsIn K mainGlobals "fits" = some (some (.ref f1)))
  (l1 : K.lookup f1 = some ⟨oc1, od1, .func (PySem.W.fnOf "fits" "fits" (defArgs s_fits) (defBody s_fits) (defScope s_fits) .none kV1 dc1 pm1 an1 cd1 ct1), sl1⟩)
  (c1 : PySem.W.codeIn K cd1 "fits" = true)
  (k1 : PySem.W.keepIn K (.ref f1) = true)
  (a2 : PySem.W.nsIn K mainGlobals "_law_bag" = some (some (.ref f2)))
  (l2 : K.lookup f2 = some ⟨oc2, od2, .func (PySem.W.fnOf "_law_bag" "_law_bag" (defArgs s_law_bag) (defBody s_law_bag) (defScope s_law_bag) .none kV2 dc2 pm2 an2 cd2 ct2), sl2⟩)
  (c2 : PySem.W.codeIn K cd2 "_law_bag" = true)
  (k2 : PySem.W.keepIn K (.ref f2) = true)
  (a3 : PySem.W.nsIn K mainGlobals "_law_pull" = some (some (.ref f3)))
  (l3 : K.lookup f3 = some ⟨oc3, od3, .func (PySem.W.fnOf "_law_pull" "_law_pull" (defArgs s_law_pull) (defBody s_law_pull) (defScope s_law_pull) .none kV3 dc3 pm3 an3 cd3 ct3), sl3⟩)
  (c3 : PySem.W.codeIn K cd3 "_law_pull" = true)
  (k3 : PySem.W.keepIn K (.ref f3) = true)
  (a4 : PySem.W.nsIn K mainGlobals "_law_truth" = some (some (.ref f4)))
  (l4 : K.lookup f4 = some ⟨oc4, od4, .func (PySem.W.fnOf "_law_truth" "_law_truth" (defArgs s_law_truth) (defBody s_law_truth) (defScope s_law_truth) .none kV4 dc4 pm4 an4 cd4 ct4), sl4⟩)
  (c4 : PySem.W.codeIn K cd4 "_law_truth" = true)
  (k4 : PySem.W.keepIn K (.ref f4) = true)
  (a5 : PySem.W.nsIn K mainGlobals "_law_sign" = some (some (.ref f5)))
  (l5 : K.lookup f5 = some ⟨oc5, od5, .func (PySem.W.fnOf "_law_sign" "_law_sign" (defArgs s_law_sign) (defBody s_law_sign) (defScope s_law_sign) .none kV5 dc5 pm5 an5 cd5 ct5), sl5⟩)
  (c5 : PySem.W.codeIn K cd5 "_law_sign" = true)
  (k5 : PySem.W.keepIn K (.ref f5) = true)
  (a6 : PySem.W.nsIn K mainGlobals "_law_name" = some (some (.ref f6)))
  (l6 : K.lookup f6 = some ⟨oc6, od6, .func (PySem.W.fnOf "_law_name" "_law_name" (defArgs s_law_name) (defBody s_law_name) (defScope s_law_name) .none kV6 dc6 pm6 an6 cd6 ct6), sl6⟩)
  (c6 : PySem.W.codeIn K cd6 "_law_name" = true)
  (k6 : PySem.W.keepIn K (.ref f6) = true)
  (a7 : PySem.W.nsIn K mainGlobals "_law_is_path" = some (some (.ref f7)))
  (l7 : K.lookup f7 = some ⟨oc7, od7, .func (PySem.W.fnOf "_law_is_path" "_law_is_path" (defArgs s_law_is_path) (defBody s_law_is_path) (defScope s_law_is_path) .none kV7 dc7 pm7 an7 cd7 ct7), sl7⟩)
  (c7 : PySem.W.codeIn K cd7 "_law_is_path" = true)
  (k7 : PySem.W.keepIn K (.ref f7) = true)
  (a8 : PySem.W.nsIn K mainGlobals "law" = some (some (.ref f8)))
  (l8 : K.lookup f8 = some ⟨oc8, od8, .func (PySem.W.fnOf "law" "law" (defArgs s_law) (defBody s_law) (defScope s_law) .none kV8 dc8 pm8 an8 cd8 ct8), sl8⟩)
  (c8 : PySem.W.codeIn K cd8 "law" = true)
  (k8 : PySem.W.keepIn K (.ref f8) = true)
  (aK_DEEP : PySem.W.nsIn K mainGlobals "DEEP" = some (some (.int 5 ct_DEEP)))
  (aK_LONG : PySem.W.nsIn K mainGlobals "LONG" = some (some (.int 8 ct_LONG)))
  (aK_SIGNS : PySem.W.nsIn K mainGlobals "SIGNS" = some (some (.str "abcdefghijklmnopqrstuvwxyz0123456789" ct_SIGNS)))
  (z_any : PySem.W.nsIn K mainGlobals "any" = some none)
  (z_bool : PySem.W.nsIn K mainGlobals "bool" = some none)
  (z_isinstance : PySem.W.nsIn K mainGlobals "isinstance" = some none)
  (z_len : PySem.W.nsIn K mainGlobals "len" = some none)
  (z_list : PySem.W.nsIn K mainGlobals "list" = some none)
  (z_range : PySem.W.nsIn K mainGlobals "range" = some none) :
  ∃ fd : FuncData, (∀ (s : Shared) (v : Value), BindsTo s fd ⟨[v], []⟩ [("_law_script", v)]) ∧ ∀ base : Heap, K.In base → base.Ns mainGlobals mg → FnOk l.prog w K mg base (L2.CX l.prog w) 4 fa fd ["_law_script"] (sp_law K) := by
  have e : f8 = fa := (Value.ref.inj (Option.some.inj (hfa.symm.trans (PySem.W.mg_of X G a8)))).symm
  subst e
  let T : Txt K mg := {
  g_fits := PySem.W.mg_of X G a1,
  f_fits := f1,
  d_fits := PySem.W.fnOf "fits" "fits" (defArgs s_fits) (defBody s_fits) (defScope s_fits) .none kV1 dc1 pm1 an1 cd1 ct1,
  F_fits := ⟨⟨oc1, od1, .none, kV1, dc1, pm1, an1, cd1, ct1, sl1, rfl, l1, c1, .inl ⟨rfl, rfl⟩, .inl rfl⟩, k1⟩,
  g_law_bag := PySem.W.mg_of X G a2,
  f_law_bag := f2,
  d_law_bag := PySem.W.fnOf "_law_bag" "_law_bag" (defArgs s_law_bag) (defBody s_law_bag) (defScope s_law_bag) .none kV2 dc2 pm2 an2 cd2 ct2,
  F_law_bag := ⟨⟨oc2, od2, .none, kV2, dc2, pm2, an2, cd2, ct2, sl2, rfl, l2, c2, .inl ⟨rfl, rfl⟩, .inl rfl⟩, k2⟩,
  g_law_pull := PySem.W.mg_of X G a3,
  f_law_pull := f3,
  d_law_pull := PySem.W.fnOf "_law_pull" "_law_pull" (defArgs s_law_pull) (defBody s_law_pull) (defScope s_law_pull) .none kV3 dc3 pm3 an3 cd3 ct3,
  F_law_pull := ⟨⟨oc3, od3, .none, kV3, dc3, pm3, an3, cd3, ct3, sl3, rfl, l3, c3, .inl ⟨rfl, rfl⟩, .inl rfl⟩, k3⟩,
  g_law_truth := PySem.W.mg_of X G a4,
  f_law_truth := f4,
  d_law_truth := PySem.W.fnOf "_law_truth" "_law_truth" (defArgs s_law_truth) (defBody s_law_truth) (defScope s_law_truth) .none kV4 dc4 pm4 an4 cd4 ct4,
  F_law_truth := ⟨⟨oc4, od4, .none, kV4, dc4, pm4, an4, cd4, ct4, sl4, rfl, l4, c4, .inl ⟨rfl, rfl⟩, .inl rfl⟩, k4⟩,
  g_law_sign := PySem.W.mg_of X G a5,
  f_law_sign := f5,
  d_law_sign := PySem.W.fnOf "_law_sign" "_law_sign" (defArgs s_law_sign) (defBody s_law_sign) (defScope s_law_sign) .none kV5 dc5 pm5 an5 cd5 ct5,
  F_law_sign := ⟨⟨oc5, od5, .none, kV5, dc5, pm5, an5, cd5, ct5, sl5, rfl, l5, c5, .inl ⟨rfl, rfl⟩, .inl rfl⟩, k5⟩,
  g_law_name := PySem.W.mg_of X G a6,
  f_law_name := f6,
  d_law_name := PySem.W.fnOf "_law_name" "_law_name" (defArgs s_law_name) (defBody s_law_name) (defScope s_law_name) .none kV6 dc6 pm6 an6 cd6 ct6,
  F_law_name := ⟨⟨oc6, od6, .none, kV6, dc6, pm6, an6, cd6, ct6, sl6, rfl, l6, c6, .inl ⟨rfl, rfl⟩, .inl rfl⟩, k6⟩,
  g_law_is_path := PySem.W.mg_of X G a7,
  f_law_is_path := f7,
  d_law_is_path := PySem.W.fnOf "_law_is_path" "_law_is_path" (defArgs s_law_is_path) (defBody s_law_is_path) (defScope s_law_is_path) .none kV7 dc7 pm7 an7 cd7 ct7,
  F_law_is_path := ⟨⟨oc7, od7, .none, kV7, dc7, pm7, an7, cd7, ct7, sl7, rfl, l7, c7, .inl ⟨rfl, rfl⟩, .inl rfl⟩, k7⟩,
  g_law := PySem.W.mg_of X G a8,
  f_law := f8,
  d_law := PySem.W.fnOf "law" "law" (defArgs s_law) (defBody s_law) (defScope s_law) .none kV8 dc8 pm8 an8 cd8 ct8,
  F_law := ⟨⟨oc8, od8, .none, kV8, dc8, pm8, an8, cd8, ct8, sl8, rfl, l8, c8, .inl ⟨rfl, rfl⟩, .inl rfl⟩, k8⟩,
  c_DEEP := ⟨_, PySem.W.mg_of X G aK_DEEP, ⟨_, rfl⟩⟩,
  c_LONG := ⟨_, PySem.W.mg_of X G aK_LONG, ⟨_, rfl⟩⟩,
  c_SIGNS := ⟨_, PySem.W.mg_of X G aK_SIGNS, ⟨_, rfl⟩⟩,
  z_any := PySem.W.mg_none_of X G z_any,
  z_bool := PySem.W.mg_none_of X G z_bool,
  z_isinstance := PySem.W.mg_none_of X G z_isinstance,
  z_len := PySem.W.mg_none_of X G z_len,
  z_list := PySem.W.mg_none_of X G z_list,
  z_range := PySem.W.mg_none_of X G z_range }
  exact ⟨T.d_law, fun s v => T.F_law.bindsA (ps := ["_law_script"]) (fun _ _ _ _ _ _ us hl => match us, hl with | [_], _ => rfl) s [v] rfl, fun base _ _ => ok_law T⟩
end K14
open PySem PySem.W PyProof.Rows
set_option maxRecDepth 100000 in
set_option maxHeartbeats 0 in
theorem PySem.Challenge.cw_latestow_k14_paths_holds : PySem.Challenge.rw_latestow_k14_paths.Holds := by
  w_on; o_law; k_head; (case hw => w_witness2)
  k_fill
  refine L2.walk_of (l := PySem.Challenge.rw_latestow_k14_paths) (n := 63) (k := 4) (x := "_law_script") (CX := fun w => L2.CX PySem.Challenge.rw_latestow_k14_paths.prog w) (sp := fun w => K14.sp_law _) rfl (by decide) rfl ⟨rfl, by decide, by decide⟩ (fun w h Y => PySem.W.kIn_of Y) ?F (fun _ _ a ns hl _ hS => ⟨a, ns, rfl, hS, hl, fun _ => rfl⟩) (fun w _ _ _ _ h => Lt.cx_no h)
  case F =>
    intro w mg fa h KX G hmg
    refine' K14.all_mk KX G hmg ?a1 ?l1 ?c1 ?k1 ?a2 ?l2 ?c2 ?k2 ?a3 ?l3 ?c3 ?k3 ?a4 ?l4 ?c4 ?k4 ?a5 ?l5 ?c5 ?k5 ?a6 ?l6 ?c6 ?k6 ?a7 ?l7 ?c7 ?k7 ?a8 ?l8 ?c8 ?k8 ?aK_DEEP ?aK_LONG ?aK_SIGNS ?z_any ?z_bool ?z_isinstance ?z_len ?z_list ?z_range
    (case a1 => k_is)
    (case l1 => k_is)
    (case a2 => k_is)
    (case l2 => k_is)
    (case a3 => k_is)
    (case l3 => k_is)
    (case a4 => k_is)
    (case l4 => k_is)
    (case a5 => k_is)
    (case l5 => k_is)
    (case a6 => k_is)
    (case l6 => k_is)
    (case a7 => k_is)
    (case l7 => k_is)
    (case a8 => k_is)
    (case l8 => k_is)
    (case c1 => k_is)
    (case k1 => k_is)
    (case c2 => k_is)
    (case k2 => k_is)
    (case c3 => k_is)
    (case k3 => k_is)
    (case c4 => k_is)
    (case k4 => k_is)
    (case c5 => k_is)
    (case k5 => k_is)
    (case c6 => k_is)
    (case k6 => k_is)
    (case c7 => k_is)
    (case k7 => k_is)
    (case c8 => k_is)
    (case k8 => k_is)
    (case aK_DEEP => k_is)
    (case aK_LONG => k_is)
    (case aK_SIGNS => k_is)
    (case z_any => k_is)
    (case z_bool => k_is)
    (case z_isinstance => k_is)
    (case z_len => k_is)
    (case z_list => k_is)
    (case z_range => k_is)
#print axioms PySem.Challenge.cw_latestow_k14_paths_holds
