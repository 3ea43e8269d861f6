import PyProof.Rows.All
import Wide.All
import OpenK.AllK
import Wide.FinOn
import HandS.ForMost
import HandS.Exc
import HandS.WordsExc
import HandS.Wide
import HandS.IsInst
import HandS.Defaults
import HandS.MakeKwOnly
import HandS.Flow
import HandS.SortInts
import HandS.Conv
import HandS.Walk
import HandS.WordsDict
import HandS.More
import HandS.Style
import PySem.Challenge.RW_latestow_k13_whole_no_map_beyond_the_wor
set_option Elab.async false
set_option linter.all false
set_option maxRecDepth 100000
set_option maxHeartbeats 4000000
/-! own rules over the hand layer -/
namespace Lt
open PySem PySem.Spec PyProof.Rows L2

theorem cx_no {P : Program} {w : World} {H : Hp} {s : Shared} {e : Value} {s' : Shared} (h : L2.CX P w [] H s (fun _ _ _ => False) e s') : False := by
  obtain ⟨_, _, _, _, _, _, _, _, _, _, _, _, z⟩ := h
  exact z

section
variable {X : Cx}
/-- a constant of the module -/
theorem pe_gl {x : Str} {v : V} {pos : Pos} (hg : Gl X x) (hm : ∃ u, X.mg x = some u ∧ RelV v u) (hd : (x == ("__debug__" : Str)) = false := by decide) : PE X (.Name x pos) (tC v) := by
  obtain ⟨u, h1, h2⟩ := hm
  exact pe_glob hg h1 h2 hd
/-- xs[k], 0 ≤ k, for xs[k] op= e -/
def rGetL (K : PySem.W.Frag) : V → V → Hp → VK → Prop := fun o i H Q => ∃ (p : Addr) (xs : List V) (k : Int) (v : V), o = .ref p ∧ i = .int k ∧ SqL K H p xs ∧ 0 ≤ k ∧ xs[k.toNat]? = some v ∧ Q v H
theorem gt_list : PGet X (rGetL X.K) := by
  intro pins s σ H o i ov iv Q I ro ri hw
  obtain ⟨p, xs, k, v, rfl, rfl, hx, h0, hv, hq⟩ := hw
  cases ro
  obtain ⟨tk, rfl⟩ := ri
  obtain ⟨its, rv, pl, hz⟩ := I.list hx
  obtain ⟨u, hu, ru⟩ := rv.get hv
  have hlt : k.toNat < xs.length := (List.getElem?_eq_some_iff.mp hv).1
  have hs : (sizeLine : Nat) < 2 ^ 63 := line63
  exact PySem.wpAny_getItem_list pl.isList h0 (by omega) (by simpa using hu) ⟨v, H, I, ru, hq⟩
theorem ip_of {op : Operator} {t : TIp} (h : OpR X (inplaceOp op) t) : PIp X op t := fun pins s σ H x y v u Q I rx ry q => h pins s σ H x y v u Q I rx ry q
theorem ps_augL {o i e : Expr} {to ti te : TE} {tip : TIp} {op : Operator} {tpos pos : Pos} (ho : PE X o to) (hi : PE X i ti) (he : PE X e te) (hp : OpR X (inplaceOp op) tip)
    (ha : ∀ ov iv new, augStore i ov iv new = (do holding [new, ov, iv] (setItem ov iv new); release [new, ov, iv] []; pure .next) := by intros; rfl) : PS X (.AugAssign (.Subscript o i tpos) op e pos) (tAugS to ti te (rGetL X.K) tip rSetL) :=
  ps_augS ho hi gt_list he (ip_of hp) set_list ha
/-- a statement, then a word of the state, then what follows from the word -/
def tMid (t u : TS) : TS := fun D σ H => ∃ M : L2.St → Hp → Prop, t { D with nx := M } σ H ∧ ∀ σ1 H1, M σ1 H1 → u D σ1 H1
theorem pss_mid {st : Stmt} {rest : List Stmt} {t u : TS} (hs : PS X st t) (hr : PSs X rest u) : PSs X (st :: rest) (tMid t u) := by
  refine ⟨fun pins s σ H D I hw => ?_⟩
  obtain ⟨M, h1, h2⟩ := hw
  exact wpAny_execs_cons (thn (hs.run pins s σ H { D with nx := M } I h1) fun f s1 hf => by
    cases f
    case next =>
      obtain ⟨σ1, H1, I1, m⟩ := hf
      exact hr.run pins s1 σ1 H1 D I1 (h2 σ1 H1 m)
    all_goals exact hf)
end

/-! ### heaps: all but b as it was -/
def SameB (b : Addr) (H H' : Hp) : Prop := ∀ a o, a ≠ b → H a = some o → H' a = some o
theorem SameB.refl (b : Addr) (H : Hp) : SameB b H H := fun _ _ _ h => h
theorem SameB.trans {b : Addr} {H H1 H2 : Hp} (x : SameB b H H1) (y : SameB b H1 H2) : SameB b H H2 := fun a o n h => y a o n (x a o n h)
theorem Same.toB {b : Addr} {H H' : Hp} (x : Same H H') : SameB b H H' := fun a o _ h => x a o h
theorem SameB.upd {b : Addr} {H H' : Hp} {o : HO} (x : SameB b H H') : SameB b H (upd H' b o) := fun a u n h => by rw [upd_ne n]; exact x a u n h
theorem SameB.new {b p : Addr} {H H' : Hp} {o : HO} (x : SameB b H H') (hp : H' p = none) : SameB b H (L2.upd H' p o) := fun a u n h => by
  have h1 := x a u n h
  rw [upd_ne (ne_of_none h1 hp)]
  exact h1
theorem SameB.mut {b p : Addr} {H H' : Hp} {o : HO} (x : SameB b H H') (hp : H p = none) : SameB b H (L2.upd H' p o) := fun a u n h => by
  rw [upd_ne (ne_of_none h hp)]
  exact x a u n h
theorem SameB.free {b p : Addr} {H H' : Hp} (x : SameB b H H') (n : p ≠ b) (hp : H' p = none) : H p = none := by
  cases e : H p with
  | none => rfl
  | some o =>
    have q := x p o n e
    rw [hp] at q
    cases q
theorem same_new {H : Hp} {p : Addr} {o : HO} (h : H p = none) : Same H (upd H p o) := fun b x e => by
  rw [upd_ne (ne_of_none e h)]
  exact e
theorem Same.new {p : Addr} {H H' : Hp} {o : HO} (x : Same H H') (hp : H' p = none) : Same H (L2.upd H' p o) := fun a u h => by
  have h1 := x a u h
  rw [upd_ne (ne_of_none h1 hp)]
  exact h1
/-- an object that H does not know may be written -/
theorem Same.mut {p : Addr} {H H' : Hp} {o : HO} (x : Same H H') (hp : H p = none) : Same H (L2.upd H' p o) := fun a u h => by
  rw [upd_ne (ne_of_none h hp)]
  exact x a u h
theorem SameB.seq {K : PySem.W.Frag} {b a : Addr} {H H' : Hp} {xs : List V} (x : SameB b H H') (n : a ≠ b) (h : SqL K H a xs) : SqL K H' a xs := by
  rcases h with (h | ⟨o, h⟩) | h
  · exact .inl (.inl (x _ _ n h))
  · exact .inl (.inr ⟨o, x _ _ n h⟩)
  · exact .inr h

/-! ### the bag of draws -/
/-- the bag at b over the numbers at l -/
def Bag (H : Hp) (b l : Addr) (ns : List Int) : Prop := ∃ (i r z : Int), 0 ≤ i ∧ H b = some (.lst [.ref l, .int i, .int r, .int z]) ∧ H l = some (.lst (ns.map V.int)) ∧ ns.length ≤ 63
theorem Bag.ne {H : Hp} {b l : Addr} {ns : List Int} (h : Bag H b l ns) : l ≠ b := by
  obtain ⟨i, r, z, _, h1, h2, _⟩ := h
  intro e
  subst e
  rw [h1] at h2
  cases ns with
  | nil => cases h2
  | cons n ns => cases h2
theorem Bag.mk {H : Hp} {b l : Addr} {ns : List Int} {i r z : Int} (h0 : 0 ≤ i) (h1 : H b = some (.lst [.ref l, .int i, .int r, .int z])) (h2 : H l = some (.lst (ns.map V.int))) (h3 : ns.length ≤ 63) : Bag H b l ns := ⟨i, r, z, h0, h1, h2, h3⟩
theorem Bag.keep {H H' : Hp} {b l : Addr} {ns : List Int} (h : Bag H b l ns) (s : Same H H') : Bag H' b l ns := by
  obtain ⟨i, r, z, h0, h1, h2, h3⟩ := h
  exact ⟨i, r, z, h0, s _ _ h1, s _ _ h2, h3⟩
/-- another list may turn -/
theorem Bag.updL {H : Hp} {b l D : Addr} {ns : List Int} {xs ys : List V} (h : Bag H b l ns) (hD : H D = some (.lst xs)) (n : D ≠ b) (n2 : D ≠ l := by first | assumption | skip) : Bag (upd H D (.lst ys)) b l ns := by
  obtain ⟨i, r, z, h0, h1, h2, h3⟩ := h
  exact ⟨i, r, z, h0, by rw [upd_ne n.symm]; exact h1, by rw [upd_ne n2.symm]; exact h2, h3⟩
theorem Bag.fresh {H : Hp} {b l D : Addr} {ns : List Int} (h : Bag H b l ns) (nD : H D = none) : D ≠ b ∧ D ≠ l := by
  obtain ⟨i, r, z, h0, h1, h2, h3⟩ := h
  exact ⟨(ne_of_none h1 nD).symm, (ne_of_none h2 nD).symm⟩
theorem Bag.put {H : Hp} {b l D : Addr} {ns : List Int} {o : HO} (h : Bag H b l ns) (n : D ≠ b) (n2 : D ≠ l) : Bag (L2.upd H D o) b l ns := by
  obtain ⟨i, r, z, h0, h1, h2, h3⟩ := h
  exact ⟨i, r, z, h0, by rw [upd_ne n.symm]; exact h1, by rw [upd_ne n2.symm]; exact h2, h3⟩
/-- what is no list stays where the bag alone turns -/
theorem Bag.tup {H H' : Hp} {a b l : Addr} {ns : List Int} {u : List V} (h : Bag H b l ns) (s : SameB b H H') (e : H a = some (.tup u)) : H' a = some (.tup u) := s a _ (fun z => by
  obtain ⟨i, r, z', h0, h1, h2, h3⟩ := h
  rw [z, h1] at e
  cases e) e
theorem cut_none (xs : List V) (n : Nat) : cutV xs none (some (n : Int)) = xs.take n := by
  unfold cutV
  rw [HT.sIx_none, show HT.sIx xs.length xs.length (some (n : Int)) = min n xs.length from HT.sIx_nat _ _ n, List.drop_zero, Nat.sub_zero]
  by_cases h : n ≤ xs.length
  · rw [Nat.min_eq_left h]
  · rw [Nat.min_eq_right (by omega), List.take_length, List.take_of_length_le (by omega)]
theorem sz {n : Nat} (h : n ≤ 1000) : n ≤ sizeLine := Nat.le_trans h (by decide)
theorem pull_pick {xs : List V} {v n : Int} (lo hi : Int) (h0 : 0 ≤ v) (h1 : v < n) (hn : n = (xs.length : Int)) (hP : ∀ x ∈ xs, ∃ t, x = V.int t ∧ lo ≤ t ∧ t ≤ hi) : ∃ t, atI xs v = some (.int t) ∧ lo ≤ t ∧ t ≤ hi := by
  have hl : v.toNat < xs.length := by omega
  have e : (v.toNat : Int) = v := Int.toNat_of_nonneg h0
  obtain ⟨t, et, h2⟩ := hP _ (List.getElem_mem hl)
  refine ⟨t, ?_, h2⟩
  have q := atI_nat (xs := xs) (List.getElem?_eq_getElem hl)
  rw [e, et] at q
  exact q
theorem atI_pick {xs : List V} {v : Int} (P : V → Prop) (h0 : 0 ≤ v) (h1 : v < (xs.length : Int)) (hP : ∀ x ∈ xs, P x) : ∃ x, atI xs v = some x ∧ P x := by
  have hl : v.toNat < xs.length := by omega
  have e : (v.toNat : Int) = v := Int.toNat_of_nonneg h0
  refine ⟨xs[v.toNat], ?_, hP _ (List.getElem_mem hl)⟩
  have q := atI_nat (xs := xs) (List.getElem?_eq_getElem hl)
  rw [e] at q
  exact q
end Lt
namespace Lt
open PySem PySem.Spec PyProof.Rows L2
/-! the readings, one combinator a step -/
section
variable {K : PySem.W.Frag} {D : Ends} {σ : L2.St} {H : Hp} {Q : VK} {ta tb te tx : TE} {t u : TS} {c : TT} {i j : Int} {v x y : V} {p a : Addr} {xs : List V} {E : XK}
theorem k_seq (h : t { D with nx := u D } σ H) : tSeq t u D σ H := h
theorem k_next (h : D.nx σ H) : tNext D σ H := h
theorem k_ifS (h : c σ H fun b H1 => if b = true then t D σ H1 else u D σ H1) : tIfS c t u D σ H := h
theorem k_ret (h : te σ H D.rt) : tRet te D σ H := h
theorem k_drop (h : te σ H fun _ H1 => D.nx σ H1) : tDrop te D σ H := h
theorem k_asg {g : TG} (h : te σ H fun x H1 => g x σ H1 D.nx) : tAsg te g D σ H := h
theorem k_gName {n : Nat} {Qs : L2.St → Hp → Prop} (h : Qs (σ.set n (some v)) H) : gName n v σ H Qs := h
theorem k_gSub {to ti : TE} {tt : TSet} {Qs : L2.St → Hp → Prop} (h : to σ H fun o H1 => ti σ H1 fun i H2 => tt o i v H2 fun H3 => Qs σ H3) : gSub to ti tt v σ H Qs := h
theorem k_setL {xs : List V} {k : Int} {n : Nat} {Qh : Hp → Prop} (h1 : H p = some (.lst xs)) (h2 : ixN xs.length k = some n) (h : Qh (upd H p (.lst (xs.set n v)))) : rSetL (.ref p) (.int k) v H Qh := ⟨p, xs, k, n, rfl, rfl, h1, h2, h⟩
theorem k_var {n : Nat} (h1 : σ[n]? = some (some v)) (h : Q v H) : tVar n σ H Q := ⟨v, h1, h⟩
theorem k_c (h : Q v H) : tC v σ H Q := h
theorem k_op {r : R2} (h : ta σ H fun x H1 => tb σ H1 fun y H2 => r x y H2 Q) : tOp r ta tb σ H Q := h
theorem k_un {r : V → Hp → VK → Prop} (h : ta σ H fun x H1 => r x H1 Q) : tUn r ta σ H Q := h
theorem k_I0 {g : Int → Int → V} (h : Q (g i j) H) : rI0 g (.int i) (.int j) H Q := ⟨i, j, rfl, rfl, h⟩
theorem k_I {C : Int → Int → Prop} {g : Int → Int → V} (hc : C i j) (h : Q (g i j) H) : rI C g (.int i) (.int j) H Q := ⟨i, j, rfl, rfl, hc, h⟩
theorem k_U {g : Int → V} (h : Q (g i) H) : rU g (.int i) H Q := ⟨i, rfl, h⟩
theorem k_ixL (h1 : SqL K H p xs) (h2 : atI xs i = some v) (h : Q v H) : rIxL K (.ref p) (.int i) H Q := ⟨p, xs, i, v, rfl, rfl, h1, h2, h⟩
theorem k_ixT (h1 : SqT K H p xs) (h2 : atI xs i = some v) (h : Q v H) : rIxT K (.ref p) (.int i) H Q := ⟨p, xs, i, v, rfl, rfl, h1, h2, h⟩
theorem k_getL {k : Int} (h1 : SqL K H p xs) (h0 : 0 ≤ k) (h2 : xs[k.toNat]? = some v) (h : Q v H) : rGetL K (.ref p) (.int k) H Q := ⟨p, xs, k, v, rfl, rfl, h1, h0, h2, h⟩
theorem k_tst {Qb : Bool → Hp → Prop} (h : te σ H fun x H' => ∃ k, x = .bl k ∧ Qb k H') : tTest te σ H Qb := h
theorem k_tB {Qb : Bool → Hp → Prop} (h : te σ H fun x H' => ∃ k, x = .bl k ∧ Qb k H') : tB te σ H Qb := h
theorem k_bl {b : Bool} {Qb : Bool → Hp → Prop} (h : Qb b H) : ∃ k, V.bl b = .bl k ∧ Qb k H := ⟨b, rfl, h⟩
theorem k_cb {r : List V → Hp → VK → Prop} {ts : TA} (h : ts σ H fun vs H1 => r vs H1 Q) : tCB r ts σ H Q := h
theorem k_cons {ts : TA} {Ql : List V → Hp → Prop} (h : te σ H fun x H1 => ts σ H1 fun xs H2 => Ql (x :: xs) H2) : tCons te ts σ H Ql := h
theorem k_nil {Ql : List V → Hp → Prop} (h : Ql [] H) : tNil σ H Ql := h
theorem k_call {sp : Sp} {dvs : List V} {ts : TA} (h : ts σ H fun vs H1 => sp (vs ++ dvs) H1 Q E) : tCall sp dvs E ts σ H Q := h
theorem k_callN {n m : Nat} {sp : Sp} {gV : List V → List V → List V} {t1 t2 : TA} (h : t1 σ H fun vs H1 => t2 σ H1 fun zs H2 => vs.length = n ∧ zs.length = m ∧ sp (gV vs zs) H2 Q E) : tCallN n m sp gV E t1 t2 σ H Q := h
theorem k_isi {b : Bool} {n m : String} (ht : TyX K H x (.type m)) (hk : kitB m n = some b) (h : Q (.bl b) H) : rIsi K [x, .ty n] H Q := ⟨x, .ty n, _, _, b, rfl, .ty n, ht, kit_ty hk, h⟩
theorem isi_ii : kitB "int" "int" = some true := by decide +kernel
theorem isi_ib : kitB "int" "bool" = some false := by decide +kernel
theorem isi_bi : kitB "bool" "int" = some true := by decide +kernel
theorem isi_bb : kitB "bool" "bool" = some true := by decide +kernel
theorem isi_is : kitB "int" "str" = some false := by decide +kernel
theorem isi_si : kitB "str" "int" = some false := by decide +kernel
theorem isi_ss : kitB "str" "str" = some true := by decide +kernel
theorem isi_ll : kitB "list" "list" = some true := by decide +kernel
theorem isi_tt : kitB "tuple" "tuple" = some true := by decide +kernel
theorem isi_lt : kitB "list" "tuple" = some false := by decide +kernel
theorem isi_tl : kitB "tuple" "list" = some false := by decide +kernel
theorem isi_ni : kitB "NoneType" "int" = some false := by decide +kernel
theorem isi_dd : kitB "dict" "dict" = some true := by decide +kernel
theorem k_lst {ts : TA} (h : ts σ H fun xs H1 => xs.length ≤ sizeLine ∧ ∀ p, H1 p = none → Q (.ref p) (upd H1 p (.lst xs))) : tLst ts σ H Q := h
theorem k_tup {ts : TA} (h : ts σ H fun xs H1 => xs.length ≤ sizeLine ∧ ∀ p, H1 p = none → Q (.ref p) (upd H1 p (.tup xs))) : tTup ts σ H Q := h
theorem k_and {tt uu : TT} {Qb : Bool → Hp → Prop} (h : tt σ H fun c H1 => if c = true then uu σ H1 Qb else Qb false H1) : tAnd tt uu σ H Qb := h
theorem k_or {tt uu : TT} {Qb : Bool → Hp → Prop} (h : tt σ H fun c H1 => if c = true then Qb true H1 else uu σ H1 Qb) : tOr tt uu σ H Qb := h
theorem k_not {tt : TT} {Qb : Bool → Hp → Prop} (h : tt σ H fun c H1 => Qb (!c) H1) : tNot tt σ H Qb := h
theorem k_andV (h : ta σ H fun x H1 => ∃ c, x = .bl c ∧ if c = true then tb σ H1 Q else Q (.bl false) H1) : tAndV ta tb σ H Q := h
theorem k_orV (h : ta σ H fun x H1 => ∃ c, x = .bl c ∧ if c = true then Q (.bl true) H1 else tb σ H1 Q) : tOrV ta tb σ H Q := h
theorem k_notV (h : ta σ H fun x H1 => ∃ c, x = .bl c ∧ Q (.bl (!c)) H1) : tNotV ta σ H Q := h
theorem k_ifE {tt : TT} (h : tt σ H fun c H1 => if c = true then ta σ H1 Q else tb σ H1 Q) : tIf tt ta tb σ H Q := h
theorem k_eqV (hs : scal x y = true) (h : Q (.bl (decide (x = y))) H) : rEq x y H Q := ⟨hs, h⟩
theorem k_neV (hs : scal x y = true) (h : Q (.bl (!decide (x = y))) H) : rNe x y H Q := ⟨hs, h⟩
theorem k_augS {to ti te : TE} {tget : V → V → Hp → VK → Prop} {tip : TIp} {tset : TSet} (h : to σ H fun o H1 => ti σ H1 fun i H2 => tget o i H2 fun x H3 => te σ H3 fun y H4 => tip x y H4 fun z H5 => tset o i z H5 fun H6 => D.nx σ H6) : tAugS to ti te tget tip tset D σ H := h
theorem k_aug {n : Nat} {ti : TIp} (h1 : σ[n]? = some (some x)) (h : te σ H fun y H1 => ti x y H1 fun z H2 => D.nx (σ.set n (some z)) H2) : tAug n te ti D σ H := ⟨x, h1, h⟩
theorem k_ipI {f : Int → Int → Int} (h : Q (.int (f i j)) H) : ipI f (.int i) (.int j) H Q := ⟨i, j, rfl, rfl, h⟩
theorem k_sl {r : V → Option Int → Option Int → Hp → VK → Prop} {tl th : TO} (h : te σ H fun x H1 => tl σ H1 fun lo H2 => th σ H2 fun hi H3 => r x lo hi H3 Q) : tSl r te tl th σ H Q := h
theorem k_noPart {Qo : Option Int → Hp → Prop} (h : Qo none H) : tNoPart σ H Qo := h
theorem k_part {Qo : Option Int → Hp → Prop} (h : te σ H fun x H1 => ∃ i, x = .int i ∧ Qo (some i) H1) : tPart te σ H Qo := h
theorem k_int {Qi : Int → Hp → Prop} (h : Qi i H) : ∃ k, V.int i = .int k ∧ Qi k H := ⟨i, rfl, h⟩
theorem k_slL {lo hi : Option Int} (h1 : SqL K H p xs) (h : ∀ q, H q = none → Q (.ref q) (upd H q (.lst (cutV xs lo hi)))) : rSlL K (.ref p) lo hi H Q := ⟨p, xs, rfl, h1, h⟩
theorem k_iteD {q A B : Prop} [Decidable q] (h1 : q → A) (h2 : ¬ q → B) : if decide q = true then A else B := by
  by_cases h : q
  · rw [decide_eq_true h]
    exact h1 h
  · rw [decide_eq_false h]
    exact h2 h
theorem k_iteN {q A B : Prop} [Decidable q] (h1 : ¬ q → A) (h2 : q → B) : if (!decide q) = true then A else B := by
  by_cases h : q
  · rw [decide_eq_true h]
    exact h2 h
  · rw [decide_eq_false h]
    exact h1 h
theorem k_iteB {b : Bool} {A B : Prop} (h1 : b = true → A) (h2 : b = false → B) : if b = true then A else B := by
  cases b
  · exact h2 rfl
  · exact h1 rfl
theorem k_ite0 {A B : Prop} (h : B) : if false = true then A else B := h
theorem k_ite1 {A B : Prop} (h : A) : if true = true then A else B := h
theorem k_iteN1 {A B : Prop} (h : B) : if (!true) = true then A else B := h
theorem k_iteN0 {A B : Prop} (h : A) : if (!false) = true then A else B := h
theorem k_iteT {b : Bool} {A B : Prop} (e : b = true) (h : A) : if b = true then A else B := by
  rw [if_pos e]
  exact h
theorem k_iteF {b : Bool} {A B : Prop} (e : b = false) (h : B) : if b = true then A else B := by
  rw [e]
  exact h
theorem k_iteD1 {q A B : Prop} [Decidable q] (e : q) (h : A) : if decide q = true then A else B := k_iteT (decide_eq_true e) h
theorem k_iteD2 {q A B : Prop} [Decidable q] (e : ¬ q) (h : B) : if decide q = true then A else B := k_iteF (decide_eq_false e) h
theorem k_bm {T : String} {r : V → List V → Hp → VK → Prop} {ts : TA} (h : te σ H fun x H1 => tyV K T x H1 ∧ ts σ H1 fun xs H2 => r x xs H2 Q) : tBM K T r te ts σ H Q := h
theorem k_bm0 {T : String} {r : V → List V → Hp → VK → Prop} (h : te σ H fun x H1 => tyV K T x H1 ∧ r x [] H1 Q) : tBM0 K T r te σ H Q := h
theorem k_tyL {A : Prop} (h1 : H p = some (.lst xs)) (h : A) : tyV K "list" (.ref p) H ∧ A := ⟨.inl ⟨rfl, _, SqL.of h1⟩, h⟩
theorem k_app (h1 : H p = some (.lst xs)) (h2 : xs.length ≤ 1000) (h : Q .non (upd H p (.lst (xs ++ [v])))) : rAppend (.ref p) [v] H Q := ⟨p, xs, v, rfl, rfl, h1, small1000 h2, h⟩
theorem k_lstRg {tr : L2.St → Hp → (Int → Int → Hp → Prop) → Prop} (h : tr σ H fun a b H1 => RgOk a b ∧ ∀ q, H1 q = none → Q (.ref q) (upd H1 q (.lst (rgV a b)))) : tLstRg tr σ H Q := h
theorem k_rg1 {Qr : Int → Int → Hp → Prop} (h : ta σ H fun x H1 => ∃ n, x = .int n ∧ Qr 0 n H1) : tRg1 ta σ H Qr := h
theorem k_rg2 {Qr : Int → Int → Hp → Prop} (h : ta σ H fun x H1 => tb σ H1 fun y H2 => ∃ i j, x = .int i ∧ y = .int j ∧ Qr i j H2) : tRg2 ta tb σ H Qr := h
theorem k_cat {xs ys : List V} {q : Addr} (h1 : H p = some (.lst xs)) (h2 : H q = some (.lst ys)) (h3 : xs.length + ys.length ≤ 100000) (h : ∀ r, H r = none → Q (.ref r) (upd H r (.lst (xs ++ ys)))) : rCat (.ref p) (.ref q) H Q :=
  ⟨p, q, xs, ys, rfl, rfl, h1, h2, Nat.le_trans h3 (by decide), h⟩
theorem k_iteNN {q A B : Prop} [Decidable q] (e : ¬ q) (h : A) : if (!decide q) = true then A else B := k_iteT (by rw [decide_eq_false e]; rfl) h
theorem k_iteNY {q A B : Prop} [Decidable q] (e : q) (h : B) : if (!decide q) = true then A else B := k_iteF (by rw [decide_eq_true e]; rfl) h
theorem k_rfl {x : V} {A : Prop} (h : A) : x = x ∧ A := ⟨rfl, h⟩
theorem k_iteE {A B : Prop} {x : V} (h : A) : if decide (x = x) = true then A else B := k_iteT (decide_eq_true rfl) h
theorem k_iteNE {A B : Prop} {x : V} (h : B) : if (!decide (x = x)) = true then A else B := k_iteF (by rw [decide_eq_true rfl]; rfl) h
theorem k_for {wi : TI} {g : TG} {tb : TS} (h : wi σ H fun J H1 => ∃ W : Nat → Nat → L2.St → Hp → Prop, (∃ m, W 0 m σ H1) ∧ ∀ i m σ H, W i m σ H →
    (J.stop i H ∧ D.nx σ H) ∨ (J.go i H ∧ ∃ N : L2.St → Hp → Prop, (∀ σ' H', N σ' H' → ∃ m', m' < m ∧ W (i + 1) m' σ' H') ∧ ∀ x H', J.yld i H x H' → g x σ H' fun σ2 H2 => tb { D with nx := N, ct := N, bk := D.nx } σ2 H2)) : tFor wi g tb D σ H := h
theorem k_iL {R : It → Hp → Prop} (h : te σ H fun x H1 => ∃ a, x = .ref a ∧ (∃ xs, SqL K H1 a xs) ∧ R (Itl K a) H1) : iList K te σ H R := h
theorem k_iT {R : It → Hp → Prop} (h : te σ H fun x H1 => ∃ a, x = .ref a ∧ (∃ xs, SqT K H1 a xs) ∧ R (Itt K a) H1) : iTup K te σ H R := h
theorem k_iR1 {ts : TA} {R : It → Hp → Prop} (h : ts σ H fun vs H1 => ∃ j : Int, vs = [.int j] ∧ -(2 ^ 62) ≤ j ∧ j < 2 ^ 62 ∧ R (Itr 0 j.toNat) H1) : iRng1 ts σ H R := h
theorem k_iR2 {ts : TA} {R : It → Hp → Prop} (h : ts σ H fun vs H1 => ∃ i j : Int, vs = [.int i, .int j] ∧ (-(2 ^ 62) ≤ i ∧ i < 2 ^ 62 ∧ -(2 ^ 62) ≤ j ∧ j < 2 ^ 62) ∧ R (Itr i (j - i).toNat) H1) : iRng2 ts σ H R := h
/-- a for over a list: what is left behind the steps -/
theorem k_inL {g : TG} {tb : TS} {Nx : L2.St → Hp → Prop} {R : VK} (Pv : Nat → L2.St → Hp → Prop) (hq : SqL K H a xs) (h0 : Pv 0 σ H) (hl : ∀ i σ H, i ≤ xs.length → Pv i σ H → SqL K H a xs)
    (hs : ∀ i x σ H, xs[i]? = some x → Pv i σ H → g x σ H fun σ2 H2 => tb { nx := Pv (i + 1), rt := R, bk := Nx, ct := Pv (i + 1) } σ2 H2) (hd : ∀ σ H, Pv xs.length σ H → Nx σ H) :
    (∃ xs, SqL K H a xs) ∧ ∃ W : Nat → Nat → L2.St → Hp → Prop, (∃ m, W 0 m σ H) ∧ ∀ i m σ H, W i m σ H →
      ((Itl K a).stop i H ∧ Nx σ H) ∨ ((Itl K a).go i H ∧ ∃ N : L2.St → Hp → Prop, (∀ σ' H', N σ' H' → ∃ m', m' < m ∧ W (i + 1) m' σ' H') ∧ ∀ x H', (Itl K a).yld i H x H' → g x σ H' fun σ2 H2 => tb { nx := N, rt := R, bk := Nx, ct := N } σ2 H2) :=
  ⟨⟨xs, hq⟩, for_list (D := { nx := Nx, rt := R }) Pv h0 hl hs hd⟩
theorem k_inT {g : TG} {tb : TS} {Nx : L2.St → Hp → Prop} {R : VK} (Pv : Nat → L2.St → Hp → Prop) (hq : SqT K H a xs) (h0 : Pv 0 σ H) (hl : ∀ i σ H, i ≤ xs.length → Pv i σ H → SqT K H a xs)
    (hs : ∀ i x σ H, xs[i]? = some x → Pv i σ H → g x σ H fun σ2 H2 => tb { nx := Pv (i + 1), rt := R, bk := Nx, ct := Pv (i + 1) } σ2 H2) (hd : ∀ σ H, Pv xs.length σ H → Nx σ H) :
    (∃ xs, SqT K H a xs) ∧ ∃ W : Nat → Nat → L2.St → Hp → Prop, (∃ m, W 0 m σ H) ∧ ∀ i m σ H, W i m σ H →
      ((Itt K a).stop i H ∧ Nx σ H) ∨ ((Itt K a).go i H ∧ ∃ N : L2.St → Hp → Prop, (∀ σ' H', N σ' H' → ∃ m', m' < m ∧ W (i + 1) m' σ' H') ∧ ∀ x H', (Itt K a).yld i H x H' → g x σ H' fun σ2 H2 => tb { nx := N, rt := R, bk := Nx, ct := N } σ2 H2) :=
  ⟨⟨xs, hq⟩, for_tup (D := { nx := Nx, rt := R }) Pv h0 hl hs hd⟩
/-- range(n), range(lo, hi) -/
theorem k_inR {lo : Int} {n : Nat} {g : TG} {tb : TS} {Nx : L2.St → Hp → Prop} {R : VK} (Pv : Nat → L2.St → Hp → Prop) (h0 : Pv 0 σ H)
    (hs : ∀ i σ H, i < n → Pv i σ H → g (.int (lo + i)) σ H fun σ2 H2 => tb { nx := Pv (i + 1), rt := R, bk := Nx, ct := Pv (i + 1) } σ2 H2) (hd : ∀ σ H, Pv n σ H → Nx σ H) :
    ∃ W : Nat → Nat → L2.St → Hp → Prop, (∃ m, W 0 m σ H) ∧ ∀ i m σ H, W i m σ H →
      ((Itr lo n).stop i H ∧ Nx σ H) ∨ ((Itr lo n).go i H ∧ ∃ N : L2.St → Hp → Prop, (∀ σ' H', N σ' H' → ∃ m', m' < m ∧ W (i + 1) m' σ' H') ∧ ∀ x H', (Itr lo n).yld i H x H' → g x σ H' fun σ2 H2 => tb { nx := N, rt := R, bk := Nx, ct := N } σ2 H2) :=
  for_range (D := { nx := Nx, rt := R }) Pv h0 hs hd
theorem k_lenL {B : Addr → List V → Prop} (h1 : SqL K H a xs) (h : B a xs) : ∃ p ys, [V.ref a] = [V.ref p] ∧ (SqL K H p ys ∨ SqT K H p ys) ∧ B p ys := ⟨a, xs, rfl, .inl h1, h⟩
theorem k_lenT {B : Addr → List V → Prop} (h1 : SqT K H a xs) (h : B a xs) : ∃ p ys, [V.ref a] = [V.ref p] ∧ (SqL K H p ys ∨ SqT K H p ys) ∧ B p ys := ⟨a, xs, rfl, .inr h1, h⟩
theorem k_chain {r r' : R2} {tc : TE} (h : ta σ H fun x H1 => tb σ H1 fun y H2 => r x y H2 fun z H3 => ∃ k, z = .bl k ∧ (if k = true then tc σ H3 fun u H4 => r' y u H4 Q else Q (.bl false) H3)) : tChain r r' ta tb tc σ H Q := h
theorem k_expr {sp : Sp} (h : sp [] H Q E) : sp [] H Q E := h
theorem k_tup1 {K : PySem.W.Frag} {n : Nat} {ts : TGs} {Qs : L2.St → Hp → Prop} (h1 : SqT K H a xs) (h2 : xs.length = n) (h : ts xs σ H Qs) : gTup K n ts (.ref a) σ H Qs := ⟨a, xs, rfl, h1, h2, h⟩
theorem k_gCons {g : TG} {gs : TGs} {r : List V} {Qs : L2.St → Hp → Prop} (h : g v σ H fun σ' H' => gs r σ' H' Qs) : gCons g gs (v :: r) σ H Qs := ⟨v, r, rfl, h⟩
theorem k_gNil {Qs : L2.St → Hp → Prop} (h : Qs σ H) : gNil [] σ H Qs := ⟨rfl, h⟩
theorem k_fld {C dx : Addr} {f : Str} {fs : List (Str × V)} (h : ta σ H fun x H1 => ∃ a C dx fs v, x = .ref a ∧ H1 a = some (.ins C dx fs) ∧ Cls K C ∧ NoAttr K C f ∧ fs.lookup f = some v ∧ Q v H1) : tFld K ta f σ H Q := h
theorem Same.get {H H' : Hp} {o : HO} (s : Same H H') (h : H a = some o) : H' a = some o := s _ _ h
theorem SameB.get {b : Addr} {H H' : Hp} {o : HO} (s : SameB b H H') (n : a ≠ b) (h : H a = some o) : H' a = some o := s _ _ n h
theorem ne_upd {b : Addr} {o u : HO} (h : a ≠ b) (e : H a = some u) : upd H b o a = some u := by
  rw [upd_ne h]
  exact e
end
end Lt
/-! list comprehensions -/
namespace Lt
open PySem PySem.Spec PyProof.Rows L2
/-- behind i turns the list at D holds acc -/
def LcP (Pv : Addr → Nat → List V → Hp → Prop) (D : Addr) (i : Nat) (H : Hp) : Prop := ∃ acc, H D = some (.lst acc) ∧ acc.length ≤ i ∧ Pv D i acc H
section
variable {K : PySem.W.Frag} {σ : L2.St} {H : Hp} {Q : VK} {te : TE} {tt : TT} {g : TG} {vs : List Nat} {a : Addr} {xs : List V} {wi : TI}
theorem lc_end {Pv : Addr → Nat → List V → Hp → Prop} {D : Addr} {i : Nat} {y : V} {acc : List V} (h1 : H D = some (.lst acc)) (h2 : acc.length ≤ i) (hi : i < 1000) (h3 : Pv D (i + 1) (acc ++ [y]) (upd H D (.lst (acc ++ [y])))) :
    ∃ acc, H D = some (.lst acc) ∧ acc.length < sizeLine ∧ LcP Pv D (i + 1) (upd H D (.lst (acc ++ [y]))) :=
  ⟨acc, h1, small1000 (by omega), acc ++ [y], upd_same, (by rw [List.length_append, List.length_singleton]; omega), h3⟩
theorem lc_skip {Pv : Addr → Nat → List V → Hp → Prop} {D : Addr} {i : Nat} {acc : List V} (h1 : H D = some (.lst acc)) (h2 : acc.length ≤ i) (h3 : Pv D (i + 1) acc H) : LcP Pv D (i + 1) H := ⟨acc, h1, by omega, h3⟩
theorem k_lc (h : wi σ H fun J H1 => ∀ D, H1 D = none → ∃ W : Nat → Nat → Hp → Prop, (∃ m, W 0 m (upd H1 D (.lst []))) ∧ ∀ i m H, W i m H →
    (J.stop i H ∧ Q (.ref D) H) ∨ (J.go i H ∧ ∃ Nx : Hp → Prop, (∀ H', Nx H' → ∃ m', m' < m ∧ W (i + 1) m' H') ∧ ∀ x H', J.yld i H x H' → g x (wipe σ vs) H' fun σ2 H2 => wipe σ2 vs = wipe σ vs ∧ tt σ2 H2 fun b H3 =>
      if b = true then te σ2 H3 fun y H4 => ∃ acc, H4 D = some (.lst acc) ∧ acc.length < sizeLine ∧ Nx (upd H4 D (.lst (acc ++ [y]))) else Nx H3)) : tLc wi g tt te vs σ H Q := h
theorem k_wipe {σ1 σ2 : L2.St} {ws : List Nat} {A : Prop} (e : wipe σ1 ws = wipe σ2 ws) (h : A) : wipe σ1 ws = wipe σ2 ws ∧ A := ⟨e, h⟩
theorem k_allT {n : Nat} (hx : H a = some (.lst (List.replicate n (V.bl true)))) (h : Q (.bl true) H) : rAll K [.ref a] H Q := by
  refine ⟨a, List.replicate n true, rfl, SqL.of (by rw [hx, List.map_replicate]), ?_⟩
  rw [show (List.replicate n true).all id = true by simp]
  exact h
theorem k_anyF {n : Nat} (hx : H a = some (.lst (List.replicate n (V.bl false)))) (h : Q (.bl false) H) : rAny K [.ref a] H Q := by
  refine ⟨a, List.replicate n false, rfl, SqL.of (by rw [hx, List.map_replicate]), ?_⟩
  rw [show (List.replicate n false).any id = false by simp]
  exact h
theorem int_at {ks : List Int} {i : Nat} {x : V} (h : (ks.map V.int)[i]? = some x) : ∃ k, x = V.int k ∧ ks[i]? = some k := by
  rw [List.getElem?_map] at h
  cases e : ks[i]? with
  | none =>
    rw [e] at h
    cases h
  | some k =>
    rw [e] at h
    exact ⟨k, (Option.some.inj h).symm, rfl⟩
theorem k_yes {Qb : Bool → Hp → Prop} (h : Qb true H) : tYes σ H Qb := h
theorem k_lcL {Qd : Addr → Hp → Prop} (Pv : Addr → Nat → List V → Hp → Prop) (hq : SqL K H a xs) (h0 : ∀ D, H D = none → Pv D 0 [] (upd H D (.lst []))) (hl : ∀ D i acc H', H D = none → H' D = some (.lst acc) → Pv D i acc H' → SqL K H' a xs)
    (hs : ∀ D i x acc H', H D = none → i < xs.length → xs[i]? = some x → H' D = some (.lst acc) → acc.length ≤ i → Pv D i acc H' → g x (wipe σ vs) H' fun σ2 H2 => wipe σ2 vs = wipe σ vs ∧ tt σ2 H2 fun b H3 =>
      if b = true then te σ2 H3 fun y H4 => ∃ acc, H4 D = some (.lst acc) ∧ acc.length < sizeLine ∧ LcP Pv D (i + 1) (upd H4 D (.lst (acc ++ [y]))) else LcP Pv D (i + 1) H3)
    (h : ∀ D acc H', H D = none → H' D = some (.lst acc) → acc.length ≤ xs.length → Pv D xs.length acc H' → Qd D H') :
    (∃ xs, SqL K H a xs) ∧ ∀ D, H D = none → ∃ W : Nat → Nat → Hp → Prop, (∃ m, W 0 m (upd H D (.lst []))) ∧ ∀ i m H, W i m H →
      ((Itl K a).stop i H ∧ Qd D H) ∨ ((Itl K a).go i H ∧ ∃ Nx : Hp → Prop, (∀ H', Nx H' → ∃ m', m' < m ∧ W (i + 1) m' H') ∧ ∀ x H', (Itl K a).yld i H x H' → g x (wipe σ vs) H' fun σ2 H2 => wipe σ2 vs = wipe σ vs ∧ tt σ2 H2 fun b H3 =>
        if b = true then te σ2 H3 fun y H4 => ∃ acc, H4 D = some (.lst acc) ∧ acc.length < sizeLine ∧ Nx (upd H4 D (.lst (acc ++ [y]))) else Nx H3) := by
  refine ⟨⟨xs, hq⟩, fun D nD => lc_list (xs := xs) (LcP Pv D) ⟨[], upd_same, Nat.le_refl _, h0 D nD⟩ (fun i H' _ hp => ?_) (fun i x H' hx hp => ?_) fun H' hp => ?_⟩
  · obtain ⟨acc, e1, _, e3⟩ := hp
    exact hl D i acc H' nD e1 e3
  · obtain ⟨acc, e1, e2, e3⟩ := hp
    exact hs D i x acc H' nD (List.getElem?_eq_some_iff.mp hx).1 hx e1 e2 e3
  · obtain ⟨acc, e1, e2, e3⟩ := hp
    exact h D acc H' nD e1 e2 e3
theorem k_lcT {Qd : Addr → Hp → Prop} (Pv : Addr → Nat → List V → Hp → Prop) (hq : SqT K H a xs) (h0 : ∀ D, H D = none → Pv D 0 [] (upd H D (.lst []))) (hl : ∀ D i acc H', H D = none → H' D = some (.lst acc) → Pv D i acc H' → SqT K H' a xs)
    (hs : ∀ D i x acc H', H D = none → i < xs.length → xs[i]? = some x → H' D = some (.lst acc) → acc.length ≤ i → Pv D i acc H' → g x (wipe σ vs) H' fun σ2 H2 => wipe σ2 vs = wipe σ vs ∧ tt σ2 H2 fun b H3 =>
      if b = true then te σ2 H3 fun y H4 => ∃ acc, H4 D = some (.lst acc) ∧ acc.length < sizeLine ∧ LcP Pv D (i + 1) (upd H4 D (.lst (acc ++ [y]))) else LcP Pv D (i + 1) H3)
    (h : ∀ D acc H', H D = none → H' D = some (.lst acc) → acc.length ≤ xs.length → Pv D xs.length acc H' → Qd D H') :
    (∃ xs, SqT K H a xs) ∧ ∀ D, H D = none → ∃ W : Nat → Nat → Hp → Prop, (∃ m, W 0 m (upd H D (.lst []))) ∧ ∀ i m H, W i m H →
      ((Itt K a).stop i H ∧ Qd D H) ∨ ((Itt K a).go i H ∧ ∃ Nx : Hp → Prop, (∀ H', Nx H' → ∃ m', m' < m ∧ W (i + 1) m' H') ∧ ∀ x H', (Itt K a).yld i H x H' → g x (wipe σ vs) H' fun σ2 H2 => wipe σ2 vs = wipe σ vs ∧ tt σ2 H2 fun b H3 =>
        if b = true then te σ2 H3 fun y H4 => ∃ acc, H4 D = some (.lst acc) ∧ acc.length < sizeLine ∧ Nx (upd H4 D (.lst (acc ++ [y]))) else Nx H3) := by
  refine ⟨⟨xs, hq⟩, fun D nD => lc_tup (xs := xs) (LcP Pv D) ⟨[], upd_same, Nat.le_refl _, h0 D nD⟩ (fun i H' _ hp => ?_) (fun i x H' hx hp => ?_) fun H' hp => ?_⟩
  · obtain ⟨acc, e1, _, e3⟩ := hp
    exact hl D i acc H' nD e1 e3
  · obtain ⟨acc, e1, e2, e3⟩ := hp
    exact hs D i x acc H' nD (List.getElem?_eq_some_iff.mp hx).1 hx e1 e2 e3
  · obtain ⟨acc, e1, e2, e3⟩ := hp
    exact h D acc H' nD e1 e2 e3
theorem k_lcR {Qd : Addr → Hp → Prop} {lo : Int} {n : Nat} (Pv : Addr → Nat → List V → Hp → Prop) (h0 : ∀ D, H D = none → Pv D 0 [] (upd H D (.lst [])))
    (hs : ∀ D i acc H', H D = none → i < n → H' D = some (.lst acc) → acc.length ≤ i → Pv D i acc H' → g (.int (lo + i)) (wipe σ vs) H' fun σ2 H2 => wipe σ2 vs = wipe σ vs ∧ tt σ2 H2 fun b H3 =>
      if b = true then te σ2 H3 fun y H4 => ∃ acc, H4 D = some (.lst acc) ∧ acc.length < sizeLine ∧ LcP Pv D (i + 1) (upd H4 D (.lst (acc ++ [y]))) else LcP Pv D (i + 1) H3)
    (h : ∀ D acc H', H D = none → H' D = some (.lst acc) → acc.length ≤ n → Pv D n acc H' → Qd D H') :
    ∀ D, H D = none → ∃ W : Nat → Nat → Hp → Prop, (∃ m, W 0 m (upd H D (.lst []))) ∧ ∀ i m H, W i m H →
      ((Itr lo n).stop i H ∧ Qd D H) ∨ ((Itr lo n).go i H ∧ ∃ Nx : Hp → Prop, (∀ H', Nx H' → ∃ m', m' < m ∧ W (i + 1) m' H') ∧ ∀ x H', (Itr lo n).yld i H x H' → g x (wipe σ vs) H' fun σ2 H2 => wipe σ2 vs = wipe σ vs ∧ tt σ2 H2 fun b H3 =>
        if b = true then te σ2 H3 fun y H4 => ∃ acc, H4 D = some (.lst acc) ∧ acc.length < sizeLine ∧ Nx (upd H4 D (.lst (acc ++ [y]))) else Nx H3) := by
  intro D nD
  refine lc_range (LcP Pv D) ⟨[], upd_same, Nat.le_refl _, h0 D nD⟩ (fun i H' hi hp => ?_) fun H' hp => ?_
  · obtain ⟨acc, e1, e2, e3⟩ := hp
    exact hs D i acc H' nD hi e1 e2 e3
  · obtain ⟨acc, e1, e2, e3⟩ := hp
    exact h D acc H' nD e1 e2 e3
end
end Lt
/-! lists of things that stand for data -/
namespace Lt
open PySem PySem.Spec PyProof.Rows L2
def AllR {α β : Type} (R : α → β → Prop) : List α → List β → Prop
  | [], [] => True
  | x :: xs, p :: ps => R x p ∧ AllR R xs ps
  | _, _ => False
section
variable {α β : Type} {R R' : α → β → Prop}
theorem AllR.nil : AllR R [] [] := True.intro
theorem AllR.cons {x : α} {p : β} {xs : List α} {ps : List β} (h : R x p) (t : AllR R xs ps) : AllR R (x :: xs) (p :: ps) := ⟨h, t⟩
theorem AllR.length : ∀ {xs : List α} {ps : List β}, AllR R xs ps → xs.length = ps.length
  | [], [], _ => rfl
  | [], _ :: _, h => h.elim
  | _ :: _, [], h => h.elim
  | _ :: xs, _ :: ps, h => congrArg Nat.succ (AllR.length (xs := xs) (ps := ps) h.2)
theorem AllR.mono (f : ∀ x p, R x p → R' x p) : ∀ {xs : List α} {ps : List β}, AllR R xs ps → AllR R' xs ps
  | [], [], _ => True.intro
  | [], _ :: _, h => h.elim
  | _ :: _, [], h => h.elim
  | x :: xs, p :: ps, h => ⟨f x p h.1, AllR.mono f (xs := xs) (ps := ps) h.2⟩
theorem AllR.append : ∀ {xs ys : List α} {ps qs : List β}, AllR R xs ps → AllR R ys qs → AllR R (xs ++ ys) (ps ++ qs)
  | [], _, [], _, _, h => h
  | [], _, _ :: _, _, h, _ => h.elim
  | _ :: _, _, [], _, h, _ => h.elim
  | _ :: xs, _, _ :: ps, _, h, t => ⟨h.1, AllR.append (xs := xs) (ps := ps) h.2 t⟩
theorem AllR.snoc {xs : List α} {ps : List β} {x : α} {p : β} (h : AllR R xs ps) (t : R x p) : AllR R (xs ++ [x]) (ps ++ [p]) := AllR.append h ⟨t, True.intro⟩
theorem AllR.get : ∀ {xs : List α} {ps : List β} {i : Nat} {x : α}, AllR R xs ps → xs[i]? = some x → ∃ p, ps[i]? = some p ∧ R x p
  | [], _, _, _, _, e => by simp at e
  | _ :: _, [], _, _, h, _ => h.elim
  | y :: xs, p :: ps, 0, x, h, e => by
    have e1 : y = x := Option.some.inj (by simpa using e)
    exact ⟨p, rfl, e1 ▸ h.1⟩
  | _ :: xs, _ :: ps, i + 1, x, h, e => by
    obtain ⟨q, h1, h2⟩ := AllR.get (xs := xs) (ps := ps) (i := i) (x := x) h.2 (by simpa using e)
    exact ⟨q, by simpa using h1, h2⟩
theorem AllR.get2 : ∀ {xs : List α} {ps : List β} {i : Nat} {p : β}, AllR R xs ps → ps[i]? = some p → ∃ x, xs[i]? = some x ∧ R x p
  | _, [], _, _, _, e => by simp at e
  | [], _ :: _, _, _, h, _ => h.elim
  | x :: xs, q :: ps, 0, p, h, e => by
    have e1 : q = p := Option.some.inj (by simpa using e)
    exact ⟨x, rfl, e1 ▸ h.1⟩
  | _ :: xs, _ :: ps, i + 1, p, h, e => by
    obtain ⟨y, h1, h2⟩ := AllR.get2 (xs := xs) (ps := ps) (i := i) (p := p) h.2 (by simpa using e)
    exact ⟨y, by simpa using h1, h2⟩
theorem AllR.mem {xs : List α} {ps : List β} {x : α} (h : AllR R xs ps) (m : x ∈ xs) : ∃ p, p ∈ ps ∧ R x p := by
  obtain ⟨i, e⟩ := List.getElem?_of_mem m
  obtain ⟨p, h1, h2⟩ := h.get e
  exact ⟨p, List.mem_of_getElem? h1, h2⟩
/-- the last ones of both -/
theorem AllR.split {xs : List α} {ps : List β} (h : AllR R xs ps) : (xs = [] ∧ ps = []) ∨ ∃ ys y qs q, xs = ys ++ [y] ∧ ps = qs ++ [q] ∧ AllR R ys qs ∧ R y q := by
  induction xs generalizing ps with
  | nil =>
    cases ps with
    | nil => exact .inl ⟨rfl, rfl⟩
    | cons p ps => exact (show False from h).elim
  | cons x xs ih =>
    cases ps with
    | nil => exact (show False from h).elim
    | cons p ps =>
      have h : R x p ∧ AllR R xs ps := h
      rcases ih h.2 with ⟨rfl, rfl⟩ | ⟨ys, y, qs, q, rfl, rfl, t, r⟩
      · exact .inr ⟨[], x, [], p, rfl, rfl, True.intro, h.1⟩
      · exact .inr ⟨x :: ys, y, p :: qs, q, rfl, rfl, ⟨h.1, t⟩, r⟩
end
/-- a tuple of whole numbers -/
def TupAt (H : Hp) (x : V) (p : List Int) : Prop := ∃ t, x = V.ref t ∧ H t = some (.tup (p.map V.int))
/-- a pair of whole numbers -/
def PairAt (H : Hp) (x : V) (p : Int × Int) : Prop := ∃ t, x = V.ref t ∧ H t = some (.tup [.int p.1, .int p.2])
theorem PairAt.keep {H H' : Hp} {x : V} {p : Int × Int} (s : Same H H') (h : PairAt H x p) : PairAt H' x p := by
  obtain ⟨t, e, h1⟩ := h
  exact ⟨t, e, s _ _ h1⟩
/-- a list at o may turn -/
theorem PairAt.updL {H : Hp} {x : V} {p : Int × Int} {o : Addr} {xs ys : List V} (ho : H o = some (.lst xs)) (h : PairAt H x p) : PairAt (upd H o (.lst ys)) x p := by
  obtain ⟨t, e, h1⟩ := h
  refine ⟨t, e, ?_⟩
  rw [upd_ne (ne_of h1 ho (fun z => by cases z))]
  exact h1
abbrev Pairs (H : Hp) : List V → List (Int × Int) → Prop := AllR (PairAt H)
theorem Pairs.keep {H H' : Hp} {xs : List V} {ps : List (Int × Int)} (s : Same H H') (h : Pairs H xs ps) : Pairs H' xs ps := h.mono fun _ _ => PairAt.keep s
theorem Pairs.updL {H : Hp} {xs : List V} {ps : List (Int × Int)} {o : Addr} {us ys : List V} (ho : H o = some (.lst us)) (h : Pairs H xs ps) : Pairs (upd H o (.lst ys)) xs ps := h.mono fun _ _ => PairAt.updL ho
theorem ixN_last {α : Type} (xs : List α) (v : α) : ixN (xs ++ [v]).length (-1) = some xs.length := by
  unfold ixN
  rw [if_neg (by decide), if_pos (by rw [List.length_append, List.length_singleton]; omega), List.length_append, List.length_singleton]
  congr 1
  omega
theorem set_last {α : Type} : ∀ (xs : List α) (v u : α), (xs ++ [v]).set xs.length u = xs ++ [u]
  | [], _, _ => rfl
  | x :: xs, v, u => congrArg (x :: ·) (set_last xs v u)
theorem take_snoc {α : Type} {l : List α} {i : Nat} {x : α} (h : l[i]? = some x) : l.take (i + 1) = l.take i ++ [x] := by
  rw [List.take_add_one, h]
  rfl
end Lt
/-! what is never reached -/
namespace Lt
open PySem PySem.Spec PyProof.Rows L2
section
variable {X : Cx}
theorem pss_no {sts : List Stmt} : PSs X sts (fun _ _ _ => False) := ⟨fun _ _ _ _ _ _ h => False.elim h⟩
theorem ps_no {st : Stmt} : PS X st (fun _ _ _ => False) := ⟨fun _ _ _ _ _ _ h => False.elim h⟩
theorem pe_no {e : Expr} : PE X e (fun _ _ _ => False) := ⟨fun _ _ _ _ _ _ h => False.elim h⟩
theorem hu1 {k : Nat} {A : Around} (r : Room k A) : A.units + 1 < cLine := by
  have := r.units
  omega
end
end Lt
/-! rules with the written part told: for what stands within a comprehension -/
namespace Lt
open PySem PySem.Spec PyProof.Rows L2
section
variable {X : Cx} (K : PySem.W.Frag) (h : X.K = K)
include h
theorem slL_K : SlR X (rSlL K) := by
  subst h
  exact sl_list
theorem slT_K : SlR X (rSlT K) := by
  subst h
  exact sl_tup
theorem ixL_K : IxR X (rIxL K) := by
  subst h
  exact ix_list
theorem ixT_K : IxR X (rIxT K) := by
  subst h
  exact ix_tup
theorem len_K : CallR X (.builtin "len") (fun xs H Q => ∃ p ys, xs = [.ref p] ∧ (SqL K H p ys ∨ SqT K H p ys) ∧ Q (.int ys.length) H) := by
  subst h
  exact call_len_seq
theorem listOf_K : CallR X (.type "list") (fun xs H Q => ∃ p ys, xs = [.ref p] ∧ (SqL K H p ys ∨ SqT K H p ys) ∧ ∀ l, H l = none → Q (.ref l) (upd H l (.lst ys))) := by
  subst h
  exact call_list_of
theorem tupOf_K : CallR X (.type "tuple") (fun xs H Q => ∃ p ys, xs = [.ref p] ∧ ((SqL K H p ys ∧ ∀ l, H l = none → Q (.ref l) (upd H l (.tup ys))) ∨ (SqT K H p ys ∧ Q (.ref p) H))) := by
  subst h
  exact call_tuple_of
end
end Lt
/-! dicts from whole numbers -/
namespace Lt
open PySem PySem.Spec PyProof.Rows L2
section
variable {κ : Type} [DecidableEq κ]
theorem valV_mem : ∀ {kvs : List (κ × V)} {k : κ}, k ∈ kvs.map (·.1) → ∃ v, valV kvs k = some v ∧ (k, v) ∈ kvs
  | [], k, h => by cases h
  | p :: r, k, h => by
    by_cases e : p.1 = k
    · exact ⟨p.2, valV_pos e, by rw [← e]; exact List.mem_cons_self⟩
    · rw [List.map_cons, List.mem_cons] at h
      rcases h with h | h
      · exact absurd h.symm e
      · obtain ⟨v, h1, h2⟩ := valV_mem h
        exact ⟨v, by rw [valV_neg e]; exact h1, List.mem_cons_of_mem _ h2⟩
theorem putK_keys_old {kvs : List (κ × V)} {k : κ} {v : V} (h : k ∈ kvs.map (·.1)) : (putK kvs k v).map (·.1) = kvs.map (·.1) := by
  have e : (kvs.any fun kv => decide (kv.1 = k)) = true := by
    obtain ⟨p, hp, e⟩ := List.mem_map.mp h
    exact List.any_eq_true.mpr ⟨p, hp, decide_eq_true e⟩
  unfold putK
  rw [if_pos e, List.map_map]
  refine List.map_congr_left fun p _ => ?_
  by_cases q : p.1 = k
  · simp [q]
  · simp [q]
theorem putK_new {kvs : List (κ × V)} {k : κ} {v : V} (h : k ∉ kvs.map (·.1)) : putK kvs k v = kvs ++ [(k, v)] := by
  unfold putK
  rw [if_neg]
  intro e
  obtain ⟨p, hp, e⟩ := List.any_eq_true.mp e
  exact h (List.mem_map.mpr ⟨p, hp, of_decide_eq_true e⟩)
theorem putK_mem {kvs : List (κ × V)} {k : κ} {v : V} {p : κ × V} (h : p ∈ putK kvs k v) : p = (k, v) ∨ p ∈ kvs := by
  by_cases hk : k ∈ kvs.map (·.1)
  · have e : (kvs.any fun kv => decide (kv.1 = k)) = true := by
      obtain ⟨p, hp, e⟩ := List.mem_map.mp hk
      exact List.any_eq_true.mpr ⟨p, hp, decide_eq_true e⟩
    unfold putK at h
    rw [if_pos e] at h
    obtain ⟨q, hq, e⟩ := List.mem_map.mp h
    by_cases z : q.1 = k
    · rw [if_pos z] at e
      exact .inl (by rw [← e, z])
    · rw [if_neg z] at e
      exact .inr (e ▸ hq)
  · rw [putK_new hk] at h
    rcases List.mem_append.mp h with h | h
    · exact .inr h
    · exact .inl (List.mem_singleton.mp h)
theorem putK_nd {kvs : List (κ × V)} {k : κ} {v : V} (h : (kvs.map (·.1)).Nodup) : ((putK kvs k v).map (·.1)).Nodup := by
  by_cases hk : k ∈ kvs.map (·.1)
  · rw [putK_keys_old hk]
    exact h
  · rw [putK_new hk, List.map_append]
    refine List.nodup_append.mpr ⟨h, by simp, fun a ha b hb => ?_⟩
    rw [List.map_singleton, List.mem_singleton] at hb
    intro e
    have hb : b = k := hb
    exact hk (hb ▸ e ▸ ha)
theorem dropK_nd {kvs : List (κ × V)} {k : κ} (h : (kvs.map (·.1)).Nodup) : ((dropK kvs k).map (·.1)).Nodup := h.sublist (List.filter_sublist.map _)
end
theorem nodup_le : ∀ (n : Nat) (l : List Nat), l.Nodup → (∀ x ∈ l, x < n) → l.length ≤ n
  | 0, l, _, h => by
    cases l with
    | nil => exact Nat.le_refl 0
    | cons x l => exact absurd (h x List.mem_cons_self) (Nat.not_lt_zero _)
  | n + 1, l, nd, h => by
    by_cases hn : n ∈ l
    · have := nodup_le n (l.erase n) (nd.erase n) fun x hx => by
        have h1 := h x (List.mem_of_mem_erase hx)
        have h2 : x ≠ n := (nd.mem_erase_iff.mp hx).1
        omega
      rw [List.length_erase_of_mem hn] at this
      omega
    · have := nodup_le n l nd fun x hx => by
        have h1 := h x hx
        have h2 : x ≠ n := fun e => hn (e ▸ hx)
        omega
      omega
theorem cut_drop (xs : List V) (n : Nat) : cutV xs (some (n : Int)) none = xs.drop n := by
  unfold cutV
  rw [HT.sIx_none, show HT.sIx xs.length 0 (some (n : Int)) = min n xs.length from HT.sIx_nat _ _ n]
  by_cases h : n ≤ xs.length
  · rw [Nat.min_eq_left h, List.take_of_length_le (by rw [List.length_drop]; omega)]
  · rw [Nat.min_eq_right (by omega), List.drop_eq_nil_of_le (Nat.le_refl _), List.take_nil, List.drop_eq_nil_of_le (by omega)]
theorem cut_drop3 (xs : List V) : cutV xs (some 3) none = xs.drop 3 := cut_drop xs 3
theorem cut_take3 (xs : List V) : cutV xs none (some 3) = xs.take 3 := cut_none xs 3
theorem rgC_pos {c j : Nat} (hj : j ≤ 100000) (h0 : 0 < c) (h1 : c ≤ 1000) : RgC 0 j c ((j + c - 1) / c) := by
  have e : Builtin.Range.rangeSize 0 j c = (((j + c - 1) / c : Nat) : Int) := by
    unfold Builtin.Range.rangeSize
    rw [if_pos (show (c : Int) > 0 by omega)]
    by_cases h : (0 : Int) < j
    · rw [if_pos h]
      have e1 : ((j : Int) - 0 - 1) = ((j - 1 : Nat) : Int) := by omega
      rw [e1, show j + c - 1 = (j - 1) + c by omega, Nat.add_div_right _ h0]
      simp [Int.natCast_ediv]
    · rw [if_neg h, show j + c - 1 = c - 1 by omega, Nat.div_eq_of_lt (by omega)]
      rfl
  have hle : (j + c - 1) / c ≤ 101000 := Nat.le_trans (Nat.div_le_self _ _) (by omega)
  refine ⟨by omega, by omega, ?_, e⟩
  unfold Builtin.Range.small
  rw [e]
  generalize (j + c - 1) / c = m at hle
  have hc : (c : Int) > 0 := by omega
  simp only [Builtin.Range.rangeFitsLong, Bool.and_eq_true, Bool.or_eq_true, decide_eq_true_eq, beq_iff_eq, hc, if_true]
  omega
/-- a map: pages below 60, each a pair -/
def PagesAt (H : Hp) (kvs : List (Key × V)) : Prop := (kvs.map (·.1)).Nodup ∧ ∀ kv ∈ kvs, (∃ k : Int, kv.1 = .inl k ∧ 0 ≤ k ∧ k < 60) ∧ ∃ t b c, kv.2 = V.ref t ∧ H t = some (.tup [.int b, .int c])
namespace PagesAt
variable {H H' : Hp} {kvs : List (Key × V)} {d : Addr} {o : HO}
theorem nil : PagesAt H [] := ⟨List.nodup_nil, fun _ h => nomatch h⟩
theorem keep (s : ∀ a xs, H a = some (.tup xs) → H' a = some (.tup xs)) (h : PagesAt H kvs) : PagesAt H' kvs := ⟨h.1, fun kv hk => by
  obtain ⟨h1, t, b, c, e, ht⟩ := h.2 kv hk
  exact ⟨h1, t, b, c, e, s _ _ ht⟩⟩
theorem same (s : Same H H') (h : PagesAt H kvs) : PagesAt H' kvs := h.keep fun a xs e => s a _ e
/-- the dict itself turns -/
theorem upd {us : List (Key × V)} (hd : H d = some (.dK us)) (h : PagesAt H kvs) : PagesAt (L2.upd H d o) kvs := h.keep fun a xs e => by
  rw [upd_ne (ne_of e hd (fun z => by cases z))]
  exact e
theorem updL {us : List V} (hd : H d = some (.lst us)) (h : PagesAt H kvs) : PagesAt (L2.upd H d o) kvs := h.keep fun a xs e => by
  rw [upd_ne (ne_of e hd (fun z => by cases z))]
  exact e
theorem put {k : Int} {t : Addr} {b c : Int} (h : PagesAt H kvs) (h0 : 0 ≤ k) (h1 : k < 60) (ht : H t = some (.tup [.int b, .int c])) : PagesAt H (putK kvs (.inl k) (.ref t)) := ⟨putK_nd h.1, fun kv hk => by
  rcases putK_mem hk with rfl | hk
  · exact ⟨⟨k, rfl, h0, h1⟩, t, b, c, rfl, ht⟩
  · exact h.2 kv hk⟩
theorem drop {k : Key} (h : PagesAt H kvs) : PagesAt H (dropK kvs k) := ⟨dropK_nd h.1, fun kv hk => h.2 kv (List.mem_filter.mp hk).1⟩
theorem keys (h : PagesAt H kvs) : ∃ ks : List Int, kvs.map (·.1) = ks.map Sum.inl ∧ (∀ k ∈ ks, 0 ≤ k ∧ k < 60) ∧ ks.length = kvs.length := by
  replace h := h.2
  induction kvs with
  | nil => exact ⟨[], rfl, fun _ z => (nomatch z), rfl⟩
  | cons p r ih =>
    obtain ⟨ks, e1, e2, e3⟩ := ih fun kv hk => h kv (List.mem_cons_of_mem _ hk)
    obtain ⟨⟨k, ek, k0, k1⟩, _⟩ := h p List.mem_cons_self
    refine ⟨k :: ks, by rw [List.map_cons, List.map_cons, e1, ek], fun j hj => ?_, by rw [List.length_cons, List.length_cons, e3]⟩
    rcases List.mem_cons.mp hj with rfl | hj
    · exact ⟨k0, k1⟩
    · exact e2 j hj
theorem len (h : PagesAt H kvs) : kvs.length ≤ 60 := by
  obtain ⟨ks, e1, e2, e3⟩ := h.keys
  have nd : (ks.map Int.toNat).Nodup := by
    have nd1 : (ks.map (Sum.inl : Int → Key)).Nodup := e1 ▸ h.1
    unfold List.Nodup at nd1 ⊢
    rw [List.pairwise_map] at nd1 ⊢
    refine nd1.imp_of_mem fun {a b} ha hb hne e => hne (congrArg Sum.inl ?_)
    have := e2 a ha
    have := e2 b hb
    omega
  have := nodup_le 60 (ks.map Int.toNat) nd fun x hx => by
    obtain ⟨k, hk, rfl⟩ := List.mem_map.mp hx
    have := e2 k hk
    omega
  rw [List.length_map, e3] at this
  exact this
theorem get {k : Int} (h : PagesAt H kvs) (hk : (.inl k : Key) ∈ kvs.map (·.1)) : ∃ t b c, valV kvs (.inl k) = some (.ref t) ∧ H t = some (.tup [.int b, .int c]) ∧ 0 ≤ k ∧ k < 60 := by
  obtain ⟨v, h1, h2⟩ := valV_mem hk
  obtain ⟨⟨j, ej, j0, j1⟩, t, b, c, e, ht⟩ := h.2 _ h2
  cases ej
  dsimp only at e
  subst e
  exact ⟨t, b, c, h1, ht, j0, j1⟩
theorem merge : ∀ {more kvs : List (Key × V)}, PagesAt H kvs → (∀ kv ∈ more, (∃ k : Int, kv.1 = .inl k ∧ 0 ≤ k ∧ k < 60) ∧ ∃ t b c, kv.2 = V.ref t ∧ H t = some (.tup [.int b, .int c])) → PagesAt H (mergeK kvs more)
  | [], _, h, _ => h
  | p :: r, kvs, h, hm => by
    obtain ⟨⟨k, ek, k0, k1⟩, t, b, c, e, ht⟩ := hm p List.mem_cons_self
    have h2 := h.put k0 k1 ht
    rw [← ek, ← e] at h2
    exact merge (kvs := putK kvs p.1 p.2) h2 fun kv hk => hm kv (List.mem_cons_of_mem _ hk)
end PagesAt
section
variable {K : PySem.W.Frag} {D : Ends} {σ : L2.St} {H : Hp} {Q : VK} {te td ty tv : TE} {a p : Addr} {xs : List V} {kvs : List (Key × V)} {g : TG} {tt : TT} {vs : List Nat}
theorem k_dget (h : td σ H fun x H1 => ty σ H1 fun y H2 => ∃ a v, x = .ref a ∧ DGet H2 a y (some v) ∧ Q v H2) : tDGet td ty σ H Q := h
theorem k_dgetI {k : Int} {v : V} {B : Addr → V → Prop} (hd : H a = some (.dK kvs)) (hv : valV kvs (.inl k) = some v) (h : B a v) : ∃ b u, V.ref a = .ref b ∧ DGet H b (.int k) (some u) ∧ B b u := ⟨a, v, rfl, .inl ⟨kvs, .inl k, .inl hd, rfl, hv.symm⟩, h⟩
theorem k_dput (h : tv σ H fun v H1 => td σ H1 fun x H2 => ty σ H2 fun y H3 => ∃ a H4, x = .ref a ∧ DPut H3 a y v H4 ∧ D.nx σ H4) : sDPut td ty tv D σ H := h
theorem k_dputI {k : Int} {v : V} {N : Hp → Prop} (hd : H a = some (.dK kvs)) (hl : kvs.length ≤ 1000) (h : N (upd H a (.dK (putK kvs (.inl k) v)))) : ∃ b H4, V.ref a = .ref b ∧ DPut H b (.int k) v H4 ∧ N H4 := ⟨a, _, rfl, .inl ⟨kvs, .inl k, hd, rfl, small1000 hl, rfl⟩, h⟩
theorem k_dpop1 (h : td σ H fun x H1 => ∃ a, x = .ref a ∧ IsD H1 a ∧ ty σ H1 fun y H2 => ∃ kvs k v, H2 a = some (.dK kvs) ∧ y = kV k ∧ valV kvs k = some v ∧ Q v (upd H2 a (.dK (dropK kvs k)))) : tDPop1 td ty σ H Q := h
theorem k_isD {A : Addr → Prop} (hd : H a = some (.dK kvs)) (h : A a) : ∃ b, V.ref a = .ref b ∧ IsD H b ∧ A b := ⟨a, rfl, .inl ⟨kvs, .inl hd⟩, h⟩
theorem k_dpopI {k : Int} {v : V} {B : List (Key × V) → Key → V → Prop} (hd : H a = some (.dK kvs)) (hv : valV kvs (.inl k) = some v) (h : B kvs (.inl k) v) : ∃ us j u, H a = some (.dK us) ∧ V.int k = kV j ∧ valV us j = some u ∧ B us j u := ⟨kvs, .inl k, v, hd, rfl, hv, h⟩
theorem k_lenD {A : Addr → List (Key × V) → Prop} (hd : H a = some (.dK kvs)) (h : A a kvs) : ∃ b us, [V.ref a] = [V.ref b] ∧ H b = some (.dK us) ∧ A b us := ⟨a, kvs, rfl, hd, h⟩
theorem k_tupOf {B : List V → Addr → Prop} {C : Addr → Prop} (hx : SqL K H a xs) (h : ∀ l, H l = none → B xs l) : ∃ p ys, [V.ref a] = [V.ref p] ∧ ((SqL K H p ys ∧ ∀ l, H l = none → B ys l) ∨ (SqT K H p ys ∧ C p)) := ⟨a, xs, rfl, .inl ⟨hx, h⟩⟩
theorem k_sortDI {ks : List Int} {B : List Int → Addr → Prop} (hd : H a = some (.dK kvs)) (hk : kvs.map (·.1) = ks.map Sum.inl) (h64 : ks.length < 64) (h : ∀ (ys : List Int) (p : Addr), ys.Perm ks → ys.Pairwise (· ≤ ·) → H p = none → B ys p) :
    ∃ (b : Addr) (us : List (Key × V)) (ks : List Int), [V.ref a] = [.ref b] ∧ Rd H b (.dK us) ∧ us.map (·.1) = ks.map Sum.inl ∧ ks.length < 64 ∧ ∀ (ys : List Int) (p : Addr), ys.Perm ks → ys.Pairwise (· ≤ ·) → H p = none → B ys p :=
  ⟨a, kvs, ks, rfl, .inl hd, hk, h64, h⟩
theorem k_listD {B : List (Key × V) → Addr → Prop} (hd : H a = some (.dK kvs)) (h : ∀ p, H p = none → B kvs p) : ∃ (b : Addr) (us : List (Key × V)), [V.ref a] = [.ref b] ∧ Rd H b (.dK us) ∧ ∀ p, H p = none → B us p := ⟨a, kvs, rfl, .inl hd, h⟩
theorem k_dictP {B : List (Key × V) → Addr → Prop} {ps : List Addr} (hs : SqL K H a (ps.map V.ref)) (hp : Paired (fun p kv => SqT K H p [kV kv.1, kv.2]) ps kvs) (h : ∀ p, H p = none → B kvs p) :
    ∃ (b : Addr) (ps : List Addr) (kvs : List (Key × V)), [V.ref a] = [.ref b] ∧ SqL K H b (ps.map V.ref) ∧ Paired (fun p kv => SqT K H p [kV kv.1, kv.2]) ps kvs ∧ ∀ p, H p = none → B kvs p := ⟨a, ps, kvs, rfl, hs, hp, h⟩
theorem k_iR3 {ts : TA} {R : It → Hp → Prop} (h : ts σ H fun vs H1 => ∃ (i j c : Int) (n : Nat), vs = [.int i, .int j, .int c] ∧ RgC i j c n ∧ R (Itc i c n) H1) : iRng3 ts σ H R := h
theorem k_rgC {j cn : Nat} {c : Int} {B : Int → Int → Nat → Prop} (hc : c = cn) (hj : j ≤ 100000) (h0 : 0 < cn) (h1 : cn ≤ 1000) (h : B 0 c ((j + cn - 1) / cn)) :
    ∃ (i j' c' : Int) (n : Nat), [V.int 0, V.int j, V.int c] = [.int i, .int j', .int c'] ∧ RgC i j' c' n ∧ B i c' n := ⟨0, j, c, _, rfl, by rw [hc]; exact rgC_pos hj h0 h1, h⟩
theorem k_lcC {Qd : Addr → Hp → Prop} {lo c : Int} {n : Nat} (Pv : Addr → Nat → List V → Hp → Prop) (h0 : ∀ D, H D = none → Pv D 0 [] (upd H D (.lst [])))
    (hs : ∀ D i acc H', H D = none → i < n → H' D = some (.lst acc) → acc.length ≤ i → Pv D i acc H' → g (.int (lo + (i : Nat) * c)) (wipe σ vs) H' fun σ2 H2 => wipe σ2 vs = wipe σ vs ∧ tt σ2 H2 fun b H3 =>
      if b = true then te σ2 H3 fun y H4 => ∃ acc, H4 D = some (.lst acc) ∧ acc.length < sizeLine ∧ LcP Pv D (i + 1) (upd H4 D (.lst (acc ++ [y]))) else LcP Pv D (i + 1) H3)
    (h : ∀ D acc H', H D = none → H' D = some (.lst acc) → acc.length ≤ n → Pv D n acc H' → Qd D H') :
    ∀ D, H D = none → ∃ W : Nat → Nat → Hp → Prop, (∃ m, W 0 m (upd H D (.lst []))) ∧ ∀ i m H, W i m H →
      ((Itc lo c n).stop i H ∧ Qd D H) ∨ ((Itc lo c n).go i H ∧ ∃ Nx : Hp → Prop, (∀ H', Nx H' → ∃ m', m' < m ∧ W (i + 1) m' H') ∧ ∀ x H', (Itc lo c n).yld i H x H' → g x (wipe σ vs) H' fun σ2 H2 => wipe σ2 vs = wipe σ vs ∧ tt σ2 H2 fun b H3 =>
        if b = true then te σ2 H3 fun y H4 => ∃ acc, H4 D = some (.lst acc) ∧ acc.length < sizeLine ∧ Nx (upd H4 D (.lst (acc ++ [y]))) else Nx H3) := by
  intro D nD
  refine lc_it (Qd := Qd D) (walk_rangeC (lo := lo) (c := c) (n := n)) (LcP Pv D) ⟨[], upd_same, Nat.le_refl _, h0 D nD⟩ (fun _ _ _ _ => True.intro) ?_ ?_
  · rintro i x H1 H' hi ⟨acc, e1, e2, e3⟩ ⟨rfl, rfl⟩
    exact hs D i acc _ nD hi e1 e2 e3
  · rintro H' ⟨acc, e1, e2, e3⟩
    exact h D acc H' nD e1 e2 e3
end
end Lt
/-! tactics: rd a step, go steps, hp an object of the heap -/
local macro_rules | `(tactic| walk_at "ne") => `(tactic| first
  | assumption
  | (apply Ne.symm; assumption)
  | exact L2.ne_of_none (by assumption) (by assumption)
  | exact Ne.symm (L2.ne_of_none (by assumption) (by assumption)))
local macro_rules | `(tactic| walk_at "hp") => `(tactic| first
  | assumption
  | exact L2.upd_same
  | exact L2.SqL.of L2.upd_same
  | exact L2.SqT.of L2.upd_same
  | exact L2.SqL.of (by assumption)
  | exact L2.SqT.of (by assumption)
  | exact Lt.ne_upd (by walk_at "ne") (by assumption)
  | exact Lt.ne_upd (by walk_at "ne") L2.upd_same)
local macro_rules | `(tactic| walk_at "ic") => `(tactic| first
  | assumption
  | exact ⟨by decide, by decide, by decide⟩
  | exact ⟨by decide, by decide⟩
  | exact Or.inl ⟨by decide, by decide⟩
  | exact Or.inr ⟨by decide, by decide⟩
  | exact Or.inl ⟨by omega, by omega⟩
  | exact Or.inr ⟨by omega, by omega⟩
  | (show (0 : Int) < _; first | decide | omega)
  | exact ⟨by omega, by omega⟩)
local macro_rules | `(tactic| walk_at "sz") => `(tactic| exact Lt.sz (by first | decide | (simp only [List.length_cons, List.length_nil]; decide)))
local macro_rules | `(tactic| walk_at "ty") => `(tactic| first
  | exact L2.TyX.base (L2.TyOf.int _)
  | exact L2.TyX.base (L2.TyOf.bl _)
  | exact L2.TyX.base (L2.TyOf.str _)
  | exact L2.TyX.base L2.TyOf.non
  | exact L2.TyX.base (L2.TyOf.lst (by walk_at "hp"))
  | exact L2.TyX.base (L2.TyOf.tup (by walk_at "hp"))
  | exact L2.TyX.base (L2.TyOf.dK (by walk_at "hp"))
  | exact L2.TyX.base (L2.TyOf.dT (by walk_at "hp")))
local macro_rules | `(tactic| walk_at "isi") => `(tactic| first
  | exact Lt.isi_ii | exact Lt.isi_ib | exact Lt.isi_bi | exact Lt.isi_bb | exact Lt.isi_is | exact Lt.isi_si | exact Lt.isi_ss | exact Lt.isi_ll | exact Lt.isi_tt | exact Lt.isi_lt | exact Lt.isi_tl | exact Lt.isi_ni | exact Lt.isi_dd)
local macro_rules | `(tactic| walk_at "om") => `(tactic| first
  | omega
  | (simp only [List.length_append, List.length_cons, List.length_nil, List.length_map, List.length_replicate] at *; omega))
local macro_rules | `(tactic| walk_at "rd") => `(tactic| first
  | (with_reducible refine Lt.k_seq ?_)
  | (with_reducible refine Lt.k_next ?_)
  | (with_reducible refine Lt.k_c ?_)
  | (with_reducible refine Lt.k_op ?_)
  | (with_reducible refine Lt.k_I0 ?_)
  | (with_reducible refine Lt.k_ifS ?_)
  | (with_reducible refine Lt.k_tst ?_)
  | (with_reducible refine Lt.k_tB ?_)
  | (with_reducible refine Lt.k_asg ?_)
  | (with_reducible refine Lt.k_gName ?_)
  | (with_reducible refine Lt.k_gSub ?_)
  | (with_reducible refine Lt.k_cb ?_)
  | (with_reducible refine Lt.k_cons ?_)
  | (with_reducible refine Lt.k_nil ?_)
  | (with_reducible refine Lt.k_call ?_)
  | (with_reducible refine Lt.k_ret ?_)
  | (with_reducible refine Lt.k_drop ?_)
  | (with_reducible refine Lt.k_lst ?_)
  | (with_reducible refine Lt.k_tup ?_)
  | (with_reducible refine Lt.k_and ?_)
  | (with_reducible refine Lt.k_or ?_)
  | (with_reducible refine Lt.k_not ?_)
  | (with_reducible refine Lt.k_andV ?_)
  | (with_reducible refine Lt.k_orV ?_)
  | (with_reducible refine Lt.k_notV ?_)
  | (with_reducible refine Lt.k_ifE ?_)
  | (with_reducible refine Lt.k_augS ?_)
  | (with_reducible refine Lt.k_ipI ?_)
  | (with_reducible refine Lt.k_un ?_)
  | (with_reducible refine Lt.k_U ?_)
  | (with_reducible refine Lt.k_sl ?_)
  | (with_reducible refine Lt.k_noPart ?_)
  | (with_reducible refine Lt.k_part ?_)
  | (with_reducible refine Lt.k_for ?_)
  | (with_reducible refine Lt.k_iL ?_)
  | (with_reducible refine Lt.k_iT ?_)
  | (with_reducible refine Lt.k_iR1 ?_)
  | (with_reducible refine Lt.k_iR2 ?_)
  | (with_reducible refine Lt.k_lc ?_)
  | (with_reducible refine Lt.k_yes ?_)
  | (with_reducible refine Lt.k_bm ?_)
  | (with_reducible refine Lt.k_bm0 ?_)
  | ((with_reducible refine' Lt.k_tyL ?h1 ?_); (case h1 => walk_at "hp"))
  | ((with_reducible refine' Lt.k_app ?h1 ?h2 ?_); (case h1 => walk_at "hp"); (case h2 => walk_at "om"))
  | (with_reducible refine Lt.k_lstRg ?_)
  | (with_reducible refine Lt.k_rg1 ?_)
  | (with_reducible refine Lt.k_rg2 ?_)
  | ((with_reducible refine' Lt.k_tup1 ?h1 ?h2 ?_); (case h1 => walk_at "hp"); (case h2 => exact rfl))
  | (with_reducible refine Lt.k_rfl ?_)
  | (with_reducible refine Lt.k_ite0 ?_)
  | (with_reducible refine Lt.k_ite1 ?_)
  | (with_reducible refine Lt.k_iteN1 ?_)
  | (with_reducible refine Lt.k_iteN0 ?_)
  | (with_reducible refine Lt.k_gCons ?_)
  | (with_reducible refine Lt.k_gNil ?_)
  | ((with_reducible refine' Lt.k_var ?h1 ?_); (case h1 => exact rfl))
  | ((with_reducible refine' Lt.k_I ?hc ?_); (case hc => walk_at "ic"))
  | ((with_reducible refine' Lt.k_isi ?ht ?hk ?_); (case ht => walk_at "ty"); (case hk => walk_at "isi"))
  | (with_reducible refine Lt.k_chain ?_)
  | (with_reducible refine Lt.k_callN ?_)
  | ((with_reducible refine' Lt.k_aug ?h1 ?_); (case h1 => exact rfl))
  | ((with_reducible refine' Lt.k_eqV ?h1 ?_); (case h1 => exact rfl))
  | ((with_reducible refine' Lt.k_neV ?h1 ?_); (case h1 => exact rfl))
  | ((with_reducible refine' Lt.k_ixL ?h1 ?h2 ?_); (case h1 => walk_at "hp"); (case h2 => first | exact rfl | exact L2.atI_last _ _))
  | ((with_reducible refine' Lt.k_ixT ?h1 ?h2 ?_); (case h1 => walk_at "hp"); (case h2 => exact rfl))
  | ((with_reducible refine' Lt.k_getL ?h1 ?h0 ?h2 ?_); (case h1 => walk_at "hp"); (case h0 => decide); (case h2 => exact rfl))
  | ((with_reducible refine' Lt.k_setL ?h1 ?h2 ?_); (case h1 => walk_at "hp"); (case h2 => first | exact rfl | exact Lt.ixN_last _ _))
  | ((with_reducible refine' Lt.k_wipe ?h1 ?_); (case h1 => exact rfl))
  | ((with_reducible refine' Lt.k_lenL ?h1 ?_); (case h1 => walk_at "hp"))
  | ((with_reducible refine' Lt.k_lenT ?h1 ?_); (case h1 => walk_at "hp"))
  | ((with_reducible refine' ⟨_, _, rfl, Or.inl ?h1, ?_⟩); (case h1 => walk_at "hp"))
  | ((with_reducible refine' ⟨_, _, rfl, Or.inr ?h1, ?_⟩); (case h1 => walk_at "hp"))
  | (with_reducible refine ⟨_, rfl, ?_⟩)
  | (with_reducible refine ⟨_, _, rfl, rfl, ?_⟩)
  | (with_reducible refine Lt.k_iteE ?_)
  | (with_reducible refine Lt.k_iteNE ?_)
  | ((with_reducible refine' Lt.k_iteT ?h1 ?_); (case h1 => first | decide | (simp; done)))
  | ((with_reducible refine' Lt.k_iteF ?h1 ?_); (case h1 => first | decide | (simp; done)))
  | ((with_reducible refine' Lt.k_iteD1 ?h1 ?_); (case h1 => walk_at "om"))
  | ((with_reducible refine' Lt.k_iteD2 ?h1 ?_); (case h1 => walk_at "om"))
  | ((with_reducible refine' Lt.k_iteNN ?h1 ?_); (case h1 => (intro z; cases z)))
  | ((with_reducible refine' Lt.k_iteD2 ?h1 ?_); (case h1 => (intro z; cases z)))
  | refine ⟨rfl, rfl, ?_⟩)
local macro_rules | `(tactic| walk_at "go") => `(tactic| ((repeat walk_at "rd"); try dsimp only))
local macro_rules | `(tactic| walk_at "rdD") => `(tactic| first
  | walk_at "rd"
  | (with_reducible refine Lt.k_dget ?_)
  | (with_reducible refine Lt.k_dput ?_)
  | (with_reducible refine Lt.k_dpop1 ?_)
  | ((with_reducible refine' Lt.k_isD ?h1 ?_); (case h1 => walk_at "hp"))
  | ((with_reducible refine' Lt.k_lenD ?h1 ?_); (case h1 => walk_at "hp"))
  | ((with_reducible refine' Lt.k_tupOf ?h1 ?_); (case h1 => walk_at "hp"))
  | (with_reducible refine Lt.k_iR3 ?_))
local macro_rules | `(tactic| walk_at "gd") => `(tactic| ((repeat walk_at "rdD"); try dsimp only))
namespace K13
open PySem PySem.Spec PyProof.Rows L2 Lt
def topS (i : Nat) : Stmt := PySem.Challenge.pw_latestow_k13_whole_no_map_beyond_the_wor.main.body.getD i (.Pass ⟨0, 0, 0, 0⟩)
abbrev s_worst : Stmt := topS 3
abbrev N_worst : List Str := ["pages", "node", "sheet"]
theorem sc_worst : FnScope N_worst ["pages", "node", "sheet"] (defScope s_worst) := ⟨rfl, rfl, rfl, by decide +kernel, rfl, by decide +kernel, by decide +kernel⟩
abbrev s_runs_of : Stmt := topS 4
abbrev N_runs_of : List Str := ["places", "out", "page", "block", "kind", "first", "begin", "many", "sort"]
theorem sc_runs_of : FnScope N_runs_of ["places"] (defScope s_runs_of) := ⟨rfl, rfl, rfl, by decide +kernel, rfl, by decide +kernel, by decide +kernel⟩
abbrev s_packed : Stmt := topS 5
abbrev N_packed : List Str := ["runs", "rest", "sheets", "k"]
theorem sc_packed : FnScope N_packed ["runs"] (defScope s_packed) := ⟨rfl, rfl, rfl, by decide +kernel, rfl, by decide +kernel, by decide +kernel⟩
abbrev s_law_bag : Stmt := topS 7
abbrev N_law_bag : List Str := ["_law_script"]
theorem sc_law_bag : FnScope N_law_bag ["_law_script"] (defScope s_law_bag) := ⟨rfl, rfl, rfl, by decide +kernel, rfl, by decide +kernel, by decide +kernel⟩
abbrev s_law_pull : Stmt := topS 8
abbrev N_law_pull : List Str := ["_law_bag_here", "_law_top", "_law_cell", "_law_got"]
theorem sc_law_pull : FnScope N_law_pull ["_law_bag_here", "_law_top"] (defScope s_law_pull) := ⟨rfl, rfl, rfl, by decide +kernel, rfl, by decide +kernel, by decide +kernel⟩
abbrev s_law_int : Stmt := topS 9
abbrev N_law_int : List Str := ["_law_one"]
theorem sc_law_int : FnScope N_law_int ["_law_one"] (defScope s_law_int) := ⟨rfl, rfl, rfl, by decide +kernel, rfl, by decide +kernel, by decide +kernel⟩
abbrev s_law_rows : Stmt := topS 10
abbrev N_law_rows : List Str := ["_law_told", "_law_size", "_law_row", "_law_one"]
theorem sc_law_rows : FnScope N_law_rows ["_law_told", "_law_size"] (defScope s_law_rows) := ⟨rfl, rfl, rfl, by decide +kernel, rfl, by decide +kernel, by decide +kernel⟩
abbrev s_law_segments : Stmt := topS 11
abbrev N_law_segments : List Str := ["_law_bag_here", "_law_many", "_law_rows_here", "_law_page", "_law_block", "_law_k", "_law_size", "_law_kind", "_law_jump"]
theorem sc_law_segments : FnScope N_law_segments ["_law_bag_here", "_law_many"] (defScope s_law_segments) := ⟨rfl, rfl, rfl, by decide +kernel, rfl, by decide +kernel, by decide +kernel⟩
abbrev s_law_places : Stmt := topS 12
abbrev N_law_places : List Str := ["_law_rows_here", "_law_turned", "_law_pairs", "_law_page", "_law_block", "_law_size", "_law_kind", "_law_k"]
theorem sc_law_places : FnScope N_law_places ["_law_rows_here", "_law_turned"] (defScope s_law_places) := ⟨rfl, rfl, rfl, by decide +kernel, rfl, by decide +kernel, by decide +kernel⟩
abbrev s_law_bounded : Stmt := topS 13
abbrev N_law_bounded : List Str := ["_law_places_here", "_law_runs", "_law_sheets"]
theorem sc_law_bounded : FnScope N_law_bounded ["_law_places_here"] (defScope s_law_bounded) := ⟨rfl, rfl, rfl, by decide +kernel, rfl, by decide +kernel, by decide +kernel⟩
abbrev s_law : Stmt := topS 14
abbrev N_law : List Str := ["_law_script", "_law_bag_here", "_law_places_here", "_law_page", "_law_turn", "_law_pages"]
theorem sc_law : FnScope N_law ["_law_script"] (defScope s_law) := ⟨rfl, rfl, rfl, by decide +kernel, rfl, by decide +kernel, by decide +kernel⟩
structure Txt (K : PySem.W.Frag) (mg : Str → Option Value) where
  f_worst : Addr
  d_worst : FuncData
  F_worst : FunD K "worst" "worst" (defArgs s_worst) (defBody s_worst) (defScope s_worst) [] [("node", V.int 3), ("sheet", V.int 6)] f_worst d_worst
  g_worst : mg "worst" = some (.ref f_worst)
  f_runs_of : Addr
  d_runs_of : FuncData
  F_runs_of : FunD K "runs_of" "runs_of" (defArgs s_runs_of) (defBody s_runs_of) (defScope s_runs_of) [] [] f_runs_of d_runs_of
  g_runs_of : mg "runs_of" = some (.ref f_runs_of)
  f_packed : Addr
  d_packed : FuncData
  F_packed : FunD K "packed" "packed" (defArgs s_packed) (defBody s_packed) (defScope s_packed) [] [] f_packed d_packed
  g_packed : mg "packed" = some (.ref f_packed)
  f_law_bag : Addr
  d_law_bag : FuncData
  F_law_bag : FunD K "_law_bag" "_law_bag" (defArgs s_law_bag) (defBody s_law_bag) (defScope s_law_bag) [] [] f_law_bag d_law_bag
  g_law_bag : mg "_law_bag" = some (.ref f_law_bag)
  f_law_pull : Addr
  d_law_pull : FuncData
  F_law_pull : FunD K "_law_pull" "_law_pull" (defArgs s_law_pull) (defBody s_law_pull) (defScope s_law_pull) [] [] f_law_pull d_law_pull
  g_law_pull : mg "_law_pull" = some (.ref f_law_pull)
  f_law_int : Addr
  d_law_int : FuncData
  F_law_int : FunD K "_law_int" "_law_int" (defArgs s_law_int) (defBody s_law_int) (defScope s_law_int) [] [] f_law_int d_law_int
  g_law_int : mg "_law_int" = some (.ref f_law_int)
  f_law_rows : Addr
  d_law_rows : FuncData
  F_law_rows : FunD K "_law_rows" "_law_rows" (defArgs s_law_rows) (defBody s_law_rows) (defScope s_law_rows) [] [] f_law_rows d_law_rows
  g_law_rows : mg "_law_rows" = some (.ref f_law_rows)
  f_law_segments : Addr
  d_law_segments : FuncData
  F_law_segments : FunD K "_law_segments" "_law_segments" (defArgs s_law_segments) (defBody s_law_segments) (defScope s_law_segments) [] [] f_law_segments d_law_segments
  g_law_segments : mg "_law_segments" = some (.ref f_law_segments)
  f_law_places : Addr
  d_law_places : FuncData
  F_law_places : FunD K "_law_places" "_law_places" (defArgs s_law_places) (defBody s_law_places) (defScope s_law_places) [] [] f_law_places d_law_places
  g_law_places : mg "_law_places" = some (.ref f_law_places)
  f_law_bounded : Addr
  d_law_bounded : FuncData
  F_law_bounded : FunD K "_law_bounded" "_law_bounded" (defArgs s_law_bounded) (defBody s_law_bounded) (defScope s_law_bounded) [] [] f_law_bounded d_law_bounded
  g_law_bounded : mg "_law_bounded" = some (.ref f_law_bounded)
  f_law : Addr
  d_law : FuncData
  F_law : FunD K "law" "law" (defArgs s_law) (defBody s_law) (defScope s_law) [] [] f_law d_law
  g_law : mg "law" = some (.ref f_law)
  c_NODE : ∃ u, mg "NODE" = some u ∧ RelV (.int 3) u
  c_SHEET : ∃ u, mg "SHEET" = some u ∧ RelV (.int 6) u
  z_all : mg "all" = none
  z_bool : mg "bool" = none
  z_dict : mg "dict" = none
  z_int : mg "int" = none
  z_isinstance : mg "isinstance" = none
  z_len : mg "len" = none
  z_list : mg "list" = none
  z_range : mg "range" = none
  z_sorted : mg "sorted" = none
  z_tuple : mg "tuple" = none
theorem Txt.b1_worst {K : PySem.W.Frag} {mg : Str → Option Value} (T : Txt K mg) : ∃ ds, Vals [V.int 3, V.int 6] ds ∧ Binds K T.d_worst ["pages", "node", "sheet"] ds := T.F_worst.binds0 1 (fun z => nomatch z) rfl fun D _ _ _ _ _ us vs h1 h2 => match us, vs, h1, h2 with | [_], [_, _], _, _ => ⟨_, _, _, _, _, _, rfl, rfl, ⟨_, _, _, _, _, _, rfl, rfl, rfl⟩⟩
theorem Txt.k_worst {K : PySem.W.Frag} {mg : Str → Option Value} (T : Txt K mg) : PySem.W.keepIn K (.ref T.f_worst) = true := T.F_worst.kp
theorem Txt.b_runs_of {K : PySem.W.Frag} {mg : Str → Option Value} (T : Txt K mg) : Binds K T.d_runs_of ["places"] [] := T.F_runs_of.bindsN fun _ _ _ _ _ _ us hl => match us, hl with | [_], _ => rfl
theorem Txt.k_runs_of {K : PySem.W.Frag} {mg : Str → Option Value} (T : Txt K mg) : PySem.W.keepIn K (.ref T.f_runs_of) = true := T.F_runs_of.kp
theorem Txt.b_packed {K : PySem.W.Frag} {mg : Str → Option Value} (T : Txt K mg) : Binds K T.d_packed ["runs"] [] := T.F_packed.bindsN fun _ _ _ _ _ _ us hl => match us, hl with | [_], _ => rfl
theorem Txt.k_packed {K : PySem.W.Frag} {mg : Str → Option Value} (T : Txt K mg) : PySem.W.keepIn K (.ref T.f_packed) = true := T.F_packed.kp
theorem Txt.b_law_bag {K : PySem.W.Frag} {mg : Str → Option Value} (T : Txt K mg) : Binds K T.d_law_bag ["_law_script"] [] := T.F_law_bag.bindsN fun _ _ _ _ _ _ us hl => match us, hl with | [_], _ => rfl
theorem Txt.k_law_bag {K : PySem.W.Frag} {mg : Str → Option Value} (T : Txt K mg) : PySem.W.keepIn K (.ref T.f_law_bag) = true := T.F_law_bag.kp
theorem Txt.b_law_pull {K : PySem.W.Frag} {mg : Str → Option Value} (T : Txt K mg) : Binds K T.d_law_pull ["_law_bag_here", "_law_top"] [] := T.F_law_pull.bindsN fun _ _ _ _ _ _ us hl => match us, hl with | [_, _], _ => rfl
theorem Txt.k_law_pull {K : PySem.W.Frag} {mg : Str → Option Value} (T : Txt K mg) : PySem.W.keepIn K (.ref T.f_law_pull) = true := T.F_law_pull.kp
theorem Txt.b_law_int {K : PySem.W.Frag} {mg : Str → Option Value} (T : Txt K mg) : Binds K T.d_law_int ["_law_one"] [] := T.F_law_int.bindsN fun _ _ _ _ _ _ us hl => match us, hl with | [_], _ => rfl
theorem Txt.k_law_int {K : PySem.W.Frag} {mg : Str → Option Value} (T : Txt K mg) : PySem.W.keepIn K (.ref T.f_law_int) = true := T.F_law_int.kp
theorem Txt.b_law_rows {K : PySem.W.Frag} {mg : Str → Option Value} (T : Txt K mg) : Binds K T.d_law_rows ["_law_told", "_law_size"] [] := T.F_law_rows.bindsN fun _ _ _ _ _ _ us hl => match us, hl with | [_, _], _ => rfl
theorem Txt.k_law_rows {K : PySem.W.Frag} {mg : Str → Option Value} (T : Txt K mg) : PySem.W.keepIn K (.ref T.f_law_rows) = true := T.F_law_rows.kp
theorem Txt.b_law_segments {K : PySem.W.Frag} {mg : Str → Option Value} (T : Txt K mg) : Binds K T.d_law_segments ["_law_bag_here", "_law_many"] [] := T.F_law_segments.bindsN fun _ _ _ _ _ _ us hl => match us, hl with | [_, _], _ => rfl
theorem Txt.k_law_segments {K : PySem.W.Frag} {mg : Str → Option Value} (T : Txt K mg) : PySem.W.keepIn K (.ref T.f_law_segments) = true := T.F_law_segments.kp
theorem Txt.b_law_places {K : PySem.W.Frag} {mg : Str → Option Value} (T : Txt K mg) : Binds K T.d_law_places ["_law_rows_here", "_law_turned"] [] := T.F_law_places.bindsN fun _ _ _ _ _ _ us hl => match us, hl with | [_, _], _ => rfl
theorem Txt.k_law_places {K : PySem.W.Frag} {mg : Str → Option Value} (T : Txt K mg) : PySem.W.keepIn K (.ref T.f_law_places) = true := T.F_law_places.kp
theorem Txt.b_law_bounded {K : PySem.W.Frag} {mg : Str → Option Value} (T : Txt K mg) : Binds K T.d_law_bounded ["_law_places_here"] [] := T.F_law_bounded.bindsN fun _ _ _ _ _ _ us hl => match us, hl with | [_], _ => rfl
theorem Txt.k_law_bounded {K : PySem.W.Frag} {mg : Str → Option Value} (T : Txt K mg) : PySem.W.keepIn K (.ref T.f_law_bounded) = true := T.F_law_bounded.kp
theorem Txt.b_law {K : PySem.W.Frag} {mg : Str → Option Value} (T : Txt K mg) : Binds K T.d_law ["_law_script"] [] := T.F_law.bindsN fun _ _ _ _ _ _ us hl => match us, hl with | [_], _ => rfl
theorem Txt.k_law {K : PySem.W.Frag} {mg : Str → Option Value} (T : Txt K mg) : PySem.W.keepIn K (.ref T.f_law) = true := T.F_law.kp
def sp_law (K : PySem.W.Frag) : Sp := fun vs H Q _ => ∃ (a : Addr) (ns : List Int), vs = [.ref a] ∧ SqL K H a (ns.map V.int) ∧ ns.length ≤ 63 ∧ ∀ H', Q (.bl true) H'
section
variable {P : Program} {w : World} {K : PySem.W.Frag} {mg : Str → Option Value} {base : Heap}
/-! the bag, a draw, is it a whole number -/
def sp_law_bag (K : PySem.W.Frag) : Sp := fun vs H Q _ => ∃ (a : Addr) (ns : List Int), vs = [.ref a] ∧ SqL K H a (ns.map V.int) ∧ ns.length ≤ 63 ∧ ∀ H' b l, Same H H' → H b = none → H l = none → Bag H' b l ns → Q (.ref b) H'
theorem cut63 (ns : List Int) (h : ns.length ≤ 63) : cutV (ns.map V.int) none (some 63) = ns.map V.int := by
  unfold cutV
  rw [HT.sIx_none, show HT.sIx (ns.map V.int).length (ns.map V.int).length (some 63) = min 63 (ns.map V.int).length from HT.sIx_nat _ _ 63, List.length_map, Nat.min_eq_right h]
  rw [List.drop_zero, Nat.sub_zero, show ns.length = (ns.map V.int).length from (List.length_map ..).symm, List.take_length]
theorem ok_law_bag (T : Txt K mg) : FnOk P w K mg base (L2.CX P w) 1 T.f_law_bag T.d_law_bag ["_law_script"] (sp_law_bag K) := by
  refine T.F_law_bag.ok sc_law_bag (fun vs H Q E h => ?_) (fun cdv A outer s H vs Q E hr h => ?_)
  · obtain ⟨a, ns, rfl, _⟩ := h
    rfl
  · obtain ⟨a, ns, rfl, hS, hl, q⟩ := h
    refine ⟨_, PSs.nox (pss_one (ps_ret (pe_lst (pa_cons (pe_callTy call_list_of (by rfl) T.z_list (by decide +kernel) (pa_cons (pe_slice sl_list (pv 0) po_none (po_some pe_int)) pa_nil)) (pa_cons pe_int (pa_cons pe_int (pa_cons pe_int pa_nil))))))), ?_⟩
    refine ⟨_, rfl, _, rfl, _, _, rfl, hS, fun c nc => ⟨c, _, rfl, .inl (SqL.of upd_same), fun l nl => ⟨(by show 4 ≤ sizeLine; decide), fun b nb => ?_⟩⟩⟩
    rw [cut63 ns hl] at nl nb ⊢
    have nlc : c ≠ l := ne_of_none upd_same nl
    have nbl : l ≠ b := ne_of_none upd_same nb
    have s1 := same_new (o := .lst (ns.map V.int)) nc
    have s2 := Same.new (o := .lst (ns.map V.int)) s1 nl
    refine q _ b l (Same.new s2 nb) (s2.free nb) (s1.free nl) ⟨0, 0, 7, by decide, upd_same, by rw [upd_ne nbl, upd_same], hl⟩
def sp_law_pull : Sp := fun vs H Q _ => ∃ (b l : Addr) (ns : List Int) (top : Int), vs = [.ref b, .int top] ∧ Bag H b l ns ∧ 0 < top ∧ top ≤ 1000000000000000000000000000000 ∧ ∀ H' v, 0 ≤ v → v < top → SameB b H H' → Bag H' b l ns → Q (.int v) H'
theorem ok_law_pull (T : Txt K mg) : FnOk P w K mg base (L2.CX P w) 1 T.f_law_pull T.d_law_pull ["_law_bag_here", "_law_top"] sp_law_pull := by
  refine T.F_law_pull.ok sc_law_pull (fun vs H Q E h => ?_) (fun cdv A outer s H vs Q E hr h => ?_)
  · obtain ⟨b, l, ns, top, rfl, _⟩ := h
    rfl
  · obtain ⟨b, l, ns, top, rfl, hB, h0, hT, q⟩ := h
    have hlb := hB.ne
    obtain ⟨i, r, z, hi, hb, hl, hn⟩ := hB
    refine ⟨_, PSs.nox (pss_cons (ps_if (pt_cmpR op_lt (pe_ix ix_list (pv 0) pe_int (fun _ _ => rfl)) pe_int (nomark _))
 (pss_cons (ps_set (i := 2) sc_law_pull.nd rfl (Or.inl rfl) pe_int)
 (pss_mid (ps_if (pt_cmpR op_lt (pe_ix ix_list (pv 0) pe_int (fun _ _ => rfl)) (pe_callB call_len_seq (by rfl) T.z_len (by decide +kernel) (pa_cons (pe_ix ix_list (pv 0) pe_int (fun _ _ => rfl)) pa_nil)) (nomark _))
 (pss_one (ps_set (i := 2) sc_law_pull.nd rfl (Or.inl rfl) (pe_ix ix_list (pe_ix ix_list (pv 0) pe_int (fun _ _ => rfl)) (pe_ix ix_list (pv 0) pe_int (fun _ _ => rfl)) (fun _ _ => rfl))))
 pss_nil)
 (pss_cons (ps_augL (pv 0) pe_int pe_int iop_add)
 (pss_cons (ps_if (pt_cmpR op_lt (pv 2) (pe_op op_pow pe_int pe_int) (nomark _))
 (pss_cons (ps_asg (pe_op op_mod (pe_op op_add (pe_op op_add (pe_op op_mul (pe_ix ix_list (pv 0) pe_int (fun _ _ => rfl)) pe_int) (pe_op op_mul (pv 2) pe_int)) pe_int) pe_int) (pg_sub (pv 0) pe_int set_list))
 (pss_one (ps_ret (pe_op op_mod (pe_op op_fdiv (pe_ix ix_list (pv 0) pe_int (fun _ _ => rfl)) pe_int) (pv 1)))))
 pss_nil)
 (pss_one (ps_asg (pe_op op_sub (pv 2) (pe_op op_pow pe_int pe_int)) (pg_sub (pv 0) pe_int set_list)))))))
 pss_nil)
 (pss_cons (ps_set (i := 3) sc_law_pull.nd rfl (Or.inl rfl) (pe_op op_mod (pe_ix ix_list (pv 0) pe_int (fun _ _ => rfl)) (pv 1)))
 (pss_cons (ps_asg (pe_op op_fdivW (pe_ix ix_list (pv 0) pe_int (fun _ _ => rfl)) (pv 1)) (pg_sub (pv 0) pe_int set_list))
 (pss_one (ps_ret (pv 3)))))), ?_⟩
    have hT' : CDivW r top := wide_div (b := 100) h0 (by omega) (by decide) (by decide)
    walk_at "go"
    refine k_iteD (fun hr1 => ?_) (fun hr1 => ?_)
    · walk_at "go"
      -- a cell is taken
      refine ⟨fun σ1 H1 => H1 = H ∧ ∃ c : Int, σ1 = [some (.ref b), some (.int top), some (.int c), none], ?_, ?_⟩
      · walk_at "go"
        refine k_iteD (fun h1 => ?_) (fun h1 => ?_)
        · obtain ⟨c, hc⟩ : ∃ c, ns[i.toNat]? = some c := by
            rw [List.length_map] at h1
            exact ⟨ns[i.toNat]'(by omega), List.getElem?_eq_getElem (by omega)⟩
          walk_at "go"
          refine k_ixL (v := .int c) (SqL.of hl) (at_of (j := i.toNat) (by omega) (by rw [List.getElem?_map, hc]; rfl)) ?_
          walk_at "go"
          exact ⟨rfl, c, rfl⟩
        · walk_at "go"
          exact ⟨rfl, 0, rfl⟩
      · rintro σ1 H1 ⟨rfl, c, rfl⟩
        walk_at "go"
        refine k_iteD (fun h2 => ?_) (fun h2 => ?_)
        · walk_at "go"
          have hne : l ≠ b := hlb
          refine q _ _ (Int.emod_nonneg _ (by omega)) (Int.emod_lt_of_pos _ h0) (SameB.upd (SameB.upd (SameB.refl b H1))) (Bag.mk (i := i + 1) (by omega) upd_same ?_ hn)
          rw [upd_ne hne, upd_ne hne]
          exact hl
        · walk_at "go"
          have hne : l ≠ b := hlb
          refine q _ _ (Int.emod_nonneg _ (by omega)) (Int.emod_lt_of_pos _ h0) (SameB.upd (SameB.upd (SameB.upd (SameB.refl b H1)))) (Bag.mk (i := i + 1) (by omega) upd_same ?_ hn)
          rw [upd_ne hne, upd_ne hne, upd_ne hne]
          exact hl
    · walk_at "go"
      refine q _ _ (Int.emod_nonneg _ (by omega)) (Int.emod_lt_of_pos _ h0) (SameB.upd (SameB.refl b H)) (Bag.mk hi upd_same ?_ hn)
      rw [upd_ne hlb]
      exact hl
theorem k_pull {b l : Addr} {ns : List Int} {top : Int} {H : Hp} {Q : VK} {E : XK} (hB : Bag H b l ns) (h0 : 0 < top) (h1 : top ≤ 1000000000000000000000000000000)
    (h : ∀ H' v, 0 ≤ v → v < top → SameB b H H' → Bag H' b l ns → Q (.int v) H') : sp_law_pull ([.ref b, .int top] ++ []) H Q E := ⟨b, l, ns, top, rfl, hB, h0, h1, h⟩
/-- [x, ..][pull(bag, n)]: ints between lo and hi -/
theorem k_menu {K : PySem.W.Frag} {b l : Addr} {ns : List Int} {i : Nat} {n : Int} {xs : List V} {σ : L2.St} {H : Hp} {Q : VK} {E : XK} (lo hi : Int) (hσ : σ[i]? = some (some (.ref b))) (hB : Bag H b l ns) (hn : n = (xs.length : Int)) (h0 : 0 < n) (hz : xs.length ≤ 1000)
    (hP : ∀ x ∈ xs, ∃ t, x = V.int t ∧ lo ≤ t ∧ t ≤ hi) (h : ∀ H' t, lo ≤ t → t ≤ hi → SameB b H H' → Bag H' b l ns → Q (.int t) H') :
    xs.length ≤ sizeLine ∧ ∀ p, H p = none → tCall sp_law_pull [] E (tCons (tVar i) (tCons (tC (.int n)) tNil)) σ (upd H p (.lst xs)) fun y H2 => rIxL K (.ref p) y H2 Q := by
  refine ⟨sz hz, fun p np => ⟨.ref b, hσ, ?_⟩⟩
  show sp_law_pull ([.ref b, .int n] ++ []) (upd H p (.lst xs)) (fun y H2 => rIxL K (.ref p) y H2 Q) E
  refine k_pull (hB.keep (same_new np)) h0 (by omega) fun H2 v v0 v1 b2 hB2 => ?_
  obtain ⟨t, e1, t0, t1⟩ := pull_pick lo hi v0 v1 hn hP
  have npb : p ≠ b := fun z => by
    obtain ⟨_, _, _, _, hb, _⟩ := hB
    rw [z, hb] at np
    cases np
  exact k_ixL (SqL.of (b2.get npb upd_same)) e1 (h _ t t0 t1 (fun c o nc hc => b2 c o nc (same_new np c o hc)) hB2)
/-- [x, ..][pull(bag, n)]: any ints -/
theorem k_menuZ {K : PySem.W.Frag} {b l : Addr} {ns : List Int} {i : Nat} {n : Int} {xs : List V} {σ : L2.St} {H : Hp} {Q : VK} {E : XK} (hσ : σ[i]? = some (some (.ref b))) (hB : Bag H b l ns) (hn : n = (xs.length : Int)) (h0 : 0 < n) (hz : xs.length ≤ 1000)
    (hP : ∀ x ∈ xs, ∃ t, x = V.int t) (h : ∀ H' t, SameB b H H' → Bag H' b l ns → Q (.int t) H') :
    xs.length ≤ sizeLine ∧ ∀ p, H p = none → tCall sp_law_pull [] E (tCons (tVar i) (tCons (tC (.int n)) tNil)) σ (upd H p (.lst xs)) fun y H2 => rIxL K (.ref p) y H2 Q := by
  refine ⟨sz hz, fun p np => ⟨.ref b, hσ, ?_⟩⟩
  show sp_law_pull ([.ref b, .int n] ++ []) (upd H p (.lst xs)) (fun y H2 => rIxL K (.ref p) y H2 Q) E
  refine k_pull (hB.keep (same_new np)) h0 (by omega) fun H2 v v0 v1 b2 hB2 => ?_
  obtain ⟨x, e1, t, rfl⟩ := atI_pick (fun x => ∃ t, x = V.int t) v0 (by omega) hP
  have npb : p ≠ b := fun z => by
    obtain ⟨_, _, _, _, hb, _⟩ := hB
    rw [z, hb] at np
    cases np
  exact k_ixL (SqL.of (b2.get npb upd_same)) e1 (h _ t (fun c o nc hc => b2 c o nc (same_new np c o hc)) hB2)
theorem menu_in {xs : List V} {lo hi : Int} (h : xs.all (fun x => match x with | .int t => decide (lo ≤ t) && decide (t ≤ hi) | _ => false) = true) : ∀ x ∈ xs, ∃ t, x = V.int t ∧ lo ≤ t ∧ t ≤ hi := by
  intro x hx
  have q := List.all_eq_true.mp h x hx
  cases x with
  | int t =>
    simp only [Bool.and_eq_true, decide_eq_true_eq] at q
    exact ⟨t, rfl, q⟩
  | _ => cases q
/-! is it a whole number -/
def sp_law_int : Sp := fun vs H Q _ => ∃ (n : Int), vs = [.int n] ∧ Q (.bl true) H
theorem ok_law_int (T : Txt K mg) : FnOk P w K mg base (L2.CX P w) 1 T.f_law_int T.d_law_int ["_law_one"] sp_law_int := by
  refine T.F_law_int.ok sc_law_int (fun vs H Q E h => ?_) (fun cdv A outer s H vs Q E hr h => ?_)
  · obtain ⟨n, rfl, _⟩ := h
    rfl
  · obtain ⟨n, rfl, q⟩ := h
    refine ⟨_, PSs.nox (pss_one (ps_ret (pe_and (pe_callB call_isi (by rfl) T.z_isinstance (by decide +kernel) (pa_cons (pv 0) (pa_cons (pe_bltn (v := .ty "int") (by rfl) T.z_int (by decide +kernel) rfl) pa_nil))) (pe_one (pe_not (pe_callB call_isi (by rfl) T.z_isinstance (by decide +kernel) (pa_cons (pv 0) (pa_cons (pe_bltn (v := .ty "bool") (by rfl) T.z_bool (by decide +kernel) rfl) pa_nil)))))))), ?_⟩
    walk_at "go"
    exact q
/-- the sheets that so many rows need -/
def worstZ (p n s : Int) : Int := if p ≤ n then 0 else (p - n + s - 1) / s
def sp_worst : Sp := fun vs H Q _ => ∃ (p n s : Int), vs = [.int p, .int n, .int s] ∧ 0 < s ∧ s ≤ 1000000000000000000000000000000 ∧ Q (.int (worstZ p n s)) H
theorem ok_worst (T : Txt K mg) : FnOk P w K mg base (L2.CX P w) 1 T.f_worst T.d_worst ["pages", "node", "sheet"] sp_worst := by
  refine T.F_worst.ok sc_worst (fun vs H Q E h => ?_) (fun cdv A outer s H vs Q E hr h => ?_)
  · obtain ⟨p, n, z, rfl, _⟩ := h
    rfl
  · obtain ⟨p, n, z, rfl, h0, hz, q⟩ := h
    refine ⟨_, PSs.nox (pss_cons (ps_if (pt_cmpR op_le (pv 0) (pv 1) (nomark _))
 (pss_one (ps_ret pe_int))
 pss_nil)
 (pss_one (ps_ret (pe_op op_fdivW (pe_op op_sub (pe_op op_add (pe_op op_sub (pv 0) (pv 1)) (pv 2)) pe_int) (pv 2))))), ?_⟩
    have hw : ∀ i, CDivW i z := fun i => wide_div (b := 100) h0 (by omega) (by decide) (by decide)
    walk_at "go"
    refine k_iteD (fun h1 => ?_) (fun h1 => ?_)
    · walk_at "go"
      rw [worstZ, if_pos h1] at q
      exact q
    · walk_at "go"
      refine k_I (hw _) ?_
      rw [worstZ, if_neg h1] at q
      exact q
theorem k_worst {p n z : Int} {H : Hp} {Q : VK} {E : XK} (h0 : 0 < z) (h1 : z ≤ 1000000000000000000000000000000) (h : Q (.int (worstZ p n z)) H) : sp_worst [.int p, .int n, .int z] H Q E := ⟨p, n, z, rfl, h0, h1, h⟩
/-- a list of tuples of so many whole numbers -/
def IsRows (H : Hp) (xs : List V) (n : Nat) : Prop := ∀ x ∈ xs, ∃ t ks, x = V.ref t ∧ H t = some (.tup (ks.map V.int)) ∧ (ks : List Int).length = n
def sp_law_rows : Sp := fun vs H Q _ => ∃ (a : Addr) (xs : List V) (n : Nat), vs = [.ref a, .int n] ∧ H a = some (.lst xs) ∧ IsRows H xs n ∧ n ≤ 500 ∧ ∀ H', Same H H' → Q (.bl true) H'
theorem ok_law_rows (T : Txt K mg) : FnOk P w K mg base (L2.CX P w) 2 T.f_law_rows T.d_law_rows ["_law_told", "_law_size"] sp_law_rows := by
  refine T.F_law_rows.ok sc_law_rows (fun vs H Q E h => ?_) (fun cdv A outer s H vs Q E hr h => ?_)
  · obtain ⟨a, xs, n, rfl, _⟩ := h
    rfl
  · obtain ⟨a, xs, n, rfl, ha, hR, hn, q⟩ := h
    refine ⟨_, PSs.nox (pss_cons (ps_if (pt_not (pt_val (pe_callB call_isi (by rfl) T.z_isinstance (by decide +kernel) (pa_cons (pv 0) (pa_cons (pe_bltn (v := .ty "list") (by rfl) T.z_list (by decide +kernel) rfl) pa_nil)))))
 (pss_one (ps_ret pe_bl))
 pss_nil)
 (pss_cons (ps_for PassesOwn.never rfl (pi_list (pv 0)) (pg_name (i := 2) sc_law_rows.nd rfl (Or.inl rfl))
 (pss_one (ps_if (PW.pt (pw_or (pt_not (pt_val (pe_callB call_isi (by rfl) T.z_isinstance (by decide +kernel) (pa_cons (pv 2) (pa_cons (pe_bltn (v := .ty "tuple") (by rfl) T.z_tuple (by decide +kernel) rfl) pa_nil))))) (pw_or (pt_cmpR op_ne (pe_callB call_len_seq (by rfl) T.z_len (by decide +kernel) (pa_cons (pv 2) pa_nil)) (pv 1) (nomark _)) (pw_or1 (pt_not (pt_val (pe_callB (cr_all rfl) (by rfl) T.z_all (by decide +kernel) (pa_cons (pe_lc (own := [("_law_one", 3)]) (g := gName 3) (tt := tYes) (by rfl) sc_law_rows.nd (pi_tup (pv 2)) (blkOk_by (own := [("_law_one", 3)]) (N := N_law_rows) (sc := defScope s_law_rows) (by decide +kernel)) (fun _ _ _ _ _ => (pg_name (i := 3) sc_law_rows.nd rfl (Or.inl rfl))) (fun _ _ _ _ _ => pts_nil) (fun _ _ _ _ _ => (pe_call (ok_law_int T) (hr.mono (by decide)) (by rfl) T.g_law_int T.k_law_int T.b_law_int .nil passL (pa_cons (pv 3) pa_nil)))) pa_nil))))))))
 (pss_one (ps_ret pe_bl))
 pss_nil)))
 (pss_one (ps_ret pe_bl)))), ?_⟩
    walk_at "go"
    refine k_inL (fun i σ H' => (∃ y z, σ = [some (.ref a), some (.int n), y, z]) ∧ Same H H') (SqL.of ha) ⟨⟨_, _, rfl⟩, Same.refl H⟩ (fun i σ H' _ h => SqL.of (h.2 _ _ ha)) ?_ ?_
    · rintro i x σ H' hx ⟨⟨y, z, rfl⟩, s1⟩
      obtain ⟨t, ks, rfl, ht, hk⟩ := hR x (List.mem_of_getElem? hx)
      have ht' := s1 _ _ ht
      walk_at "go"
      rw [List.length_map, hk, decide_eq_true rfl]
      walk_at "go"
      refine k_lcT (xs := ks.map V.int) (fun D i acc H1 => Same H' H1 ∧ acc = List.replicate i (V.bl true)) (SqT.of ht') (fun D nD => ⟨same_new nD, rfl⟩) (fun D i acc H1 _ _ h => SqT.of (h.1 _ _ ht')) ?_ ?_
      · rintro D i x acc H1 nD hi hx hD ha ⟨s2, rfl⟩
        obtain ⟨k, rfl, _⟩ := int_at hx
        walk_at "go"
        refine ⟨k, rfl, ?_⟩
        walk_at "go"
        refine lc_end hD ha (by rw [List.length_map] at hi; omega) ⟨Same.mut s2 nD, ?_⟩
        rw [List.replicate_succ']
      · rintro D acc H1 nD hD hl ⟨s2, rfl⟩
        walk_at "go"
        refine k_allT hD ?_
        walk_at "go"
        exact ⟨⟨_, _, rfl⟩, s1.trans s2⟩
    · rintro σ H' ⟨⟨y, z, rfl⟩, s1⟩
      walk_at "go"
      exact q _ s1
/-! rows of a map -/
def sp_runs_of : Sp := fun vs H Q _ => ∃ (d : Addr) (kvs : List (Key × V)), vs = [.ref d] ∧ H d = some (.dK kvs) ∧ PagesAt H kvs ∧ ∀ H' p xs, Same H H' → H p = none → H' p = some (.lst xs) → IsRows H' xs 4 → xs.length ≤ kvs.length → Q (.ref p) H'
theorem ok_runs_of (T : Txt K mg) : FnOk P w K mg base (L2.CX P w) 1 T.f_runs_of T.d_runs_of ["places"] sp_runs_of := by
  refine T.F_runs_of.ok sc_runs_of (fun vs H Q E h => ?_) (fun cdv A outer s H vs Q E hr h => ?_)
  · obtain ⟨d, kvs, rfl, _⟩ := h
    rfl
  · obtain ⟨d, kvs, rfl, hd, hP, q⟩ := h
    refine ⟨_, PSs.nox (pss_cons (ps_set (i := 1) sc_runs_of.nd rfl (Or.inl rfl) (pe_lst pa_nil))
 (pss_cons (ps_for PassesOwn.never rfl (pi_list (pe_callB (call_sortedDI rfl) (by rfl) T.z_sorted (by decide +kernel) (pa_cons (pv 0) pa_nil))) (pg_name (i := 2) sc_runs_of.nd rfl (Or.inl rfl))
 (pss_cons (ps_asg (pe_dget (hu1 hr) (pv 0) (pv 2) (fun _ _ => rfl)) (pg_tup rfl (pgs_cons (pg_name (i := 3) sc_runs_of.nd rfl (Or.inl rfl)) (pgs_cons (pg_name (i := 4) sc_runs_of.nd rfl (Or.inl rfl)) pgs_nil))))
 (pss_mid (ps_if (pt_cmpR op_gt (pe_callB call_len_seq (by rfl) T.z_len (by decide +kernel) (pa_cons (pv 1) pa_nil)) pe_int (nomark _))
 (pss_cons (ps_asg (pe_ix ix_list (pv 1) (pe_un un_neg pe_int) (fun _ _ => rfl)) (pg_tup rfl (pgs_cons (pg_name (i := 5) sc_runs_of.nd rfl (Or.inl rfl)) (pgs_cons (pg_name (i := 6) sc_runs_of.nd rfl (Or.inl rfl)) (pgs_cons (pg_name (i := 7) sc_runs_of.nd rfl (Or.inl rfl)) (pgs_cons (pg_name (i := 8) sc_runs_of.nd rfl (Or.inl rfl)) pgs_nil))))))
 (pss_one (ps_if (PW.pt (pw_and (pt_cmpR op_eq (pe_op op_add (pv 5) (pv 7)) (pv 2) (nomark _)) (pw_and (pt_cmpR op_eq (pe_op op_add (pv 6) (pv 7)) (pv 3) (nomark _)) (pw_and1 (pt_cmpR op_eq (pv 8) (pv 4) (nomark _))))))
 (pss_cons (ps_asg (pe_tup (pa_cons (pv 5) (pa_cons (pv 6) (pa_cons (pe_op op_add (pv 7) pe_int) (pa_cons (pv 8) pa_nil))))) (pg_sub (pv 1) (pe_un un_neg pe_int) set_list))
 (pss_one ps_continue))
 pss_nil)))
 pss_nil)
 (pss_one (ps_expr (pe_bm PySem.F.plainAttrs_list PySem.F.slot_list_append PySem.F.type_list_append mt_append (pv 1) (pa_cons (pe_tup (pa_cons (pv 2) (pa_cons (pv 3) (pa_cons pe_int (pa_cons (pv 4) pa_nil))))) pa_nil)))))))
 (pss_one (ps_ret (pv 1))))), ?_⟩
    walk_at "gd"
    refine ⟨by walk_at "sz", fun o no => ?_⟩
    walk_at "gd"
    obtain ⟨ks, hk, hk2, hkl⟩ := hP.keys
    have h60 := hP.len
    have s0 := same_new (o := .lst []) no
    refine k_sortDI (s0 _ _ hd) hk (by omega) fun ys p hp _ np => ?_
    have npo : p ≠ o := (ne_of_none upd_same np).symm
    walk_at "gd"
    refine k_inL (fun i σ H' => (∃ y2 y3 y4 y5 y6 y7 y8, σ = [some (.ref d), some (.ref o), y2, y3, y4, y5, y6, y7, y8]) ∧ Same H H' ∧ H' p = some (.lst (ys.map V.int)) ∧ ∃ xs, H' o = some (.lst xs) ∧ IsRows H' xs 4 ∧ xs.length ≤ i) (SqL.of upd_same)
      ⟨⟨_, _, _, _, _, _, _, rfl⟩, Same.new s0 np, upd_same, [], same_new np _ _ upd_same, (fun x h => nomatch h), Nat.le_refl _⟩ (fun i σ H' _ h => SqL.of h.2.2.1) ?_ ?_
    · rintro i x σ H' hx ⟨⟨y2, y3, y4, y5, y6, y7, y8, rfl⟩, s2, hp', xs, ho, hR, hl⟩
      obtain ⟨k, rfl, hki⟩ := int_at hx
      have hi : i < ks.length := by
        rw [← hp.length_eq]
        exact (List.getElem?_eq_some_iff.mp hki).1
      have hkm : (.inl k : Key) ∈ kvs.map (·.1) := by
        rw [hk]
        exact List.mem_map.mpr ⟨k, hp.mem_iff.mp (List.mem_of_getElem? hki), rfl⟩
      obtain ⟨t, b, c, hv, ht, _⟩ := hP.get hkm
      have hd' := s2 _ _ hd
      have ht' := s2 _ _ ht
      walk_at "gd"
      refine k_dgetI hd' hv ?_
      walk_at "gd"
      refine ⟨fun σ1 H1 => H1 = H' ∧ ∃ y5 y6 y7 y8, σ1 = [some (.ref d), some (.ref o), some (.int k), some (.int b), some (.int c), y5, y6, y7, y8], ?_, ?_⟩
      · walk_at "gd"
        refine k_iteD (fun h1 => ?_) (fun h1 => ?_)
        · obtain ⟨zs, z, rfl⟩ : ∃ zs z, xs = zs ++ [z] := ⟨xs.dropLast, xs.getLast (by intro e; rw [e] at h1; simp at h1), (List.dropLast_concat_getLast _).symm⟩
          obtain ⟨t2, js, rfl, ht2, hj⟩ := hR z (by simp)
          obtain ⟨f, b2, m, g, rfl⟩ : ∃ f b2 m g, js = [f, b2, m, g] := by
            match js, hj with
            | [f, b2, m, g], _ => exact ⟨f, b2, m, g, rfl⟩
          replace ht2 : H' t2 = some (.tup [.int f, .int b2, .int m, .int g]) := ht2
          walk_at "gd"
          have fall : H' = H' ∧ ∃ y5 y6 y7 y8, [some (V.ref d), some (V.ref o), some (V.int k), some (V.int b), some (V.int c), some (V.int f), some (V.int b2), some (V.int m), some (V.int g)] = [some (V.ref d), some (V.ref o), some (V.int k), some (V.int b), some (V.int c), y5, y6, y7, y8] := ⟨rfl, _, _, _, _, rfl⟩
          refine k_iteD (fun h2 => ?_) (fun h2 => ?_)
          · walk_at "gd"
            refine k_iteD (fun h3 => ?_) (fun h3 => ?_)
            · walk_at "gd"
              refine k_iteD (fun h4 => ?_) (fun h4 => ?_)
              · walk_at "gd"
                refine ⟨by walk_at "sz", fun t3 nt3 => ?_⟩
                have ho3 := same_new (o := .tup [V.int f, V.int b2, V.int (m + 1), V.int g]) nt3 _ _ ho
                walk_at "gd"
                rw [set_last]
                refine ⟨⟨_, _, _, _, _, _, _, rfl⟩, Same.mut (Same.new s2 nt3) no, ?_, _, upd_same, fun x hx => ?_, ?_⟩
                · rw [upd_ne npo]
                  exact same_new nt3 _ _ hp'
                · rcases List.mem_append.mp hx with hx | hx
                  · obtain ⟨t4, j4, e4, ht4, hl4⟩ := hR x (List.mem_append_left _ hx)
                    exact ⟨t4, j4, e4, by rw [upd_ne (ne_of (same_new nt3 _ _ ht4) ho3 (fun z => by cases z))]; exact same_new nt3 _ _ ht4, hl4⟩
                  · rw [List.mem_singleton.mp hx]
                    exact ⟨t3, [f, b2, m + 1, g], rfl, by rw [upd_ne (ne_of_none ho nt3).symm, upd_same]; rfl, rfl⟩
                · simp only [List.length_append, List.length_singleton] at hl ⊢
                  omega
              · walk_at "gd"
                exact fall
            · walk_at "gd"
              exact fall
          · walk_at "gd"
            exact fall
        · walk_at "gd"
          exact ⟨rfl, _, _, _, _, rfl⟩
      · rintro σ1 H1 ⟨rfl, y5, y6, y7, y8, rfl⟩
        walk_at "gd"
        refine ⟨by walk_at "sz", fun t3 nt3 => ?_⟩
        have ho3 := same_new (o := .tup [V.int k, V.int b, V.int 1, V.int c]) nt3 _ _ ho
        walk_at "gd"
        refine ⟨⟨_, _, _, _, _, _, _, rfl⟩, Same.mut (Same.new s2 nt3) no, ?_, _, upd_same, fun x hx => ?_, ?_⟩
        · rw [upd_ne npo]
          exact same_new nt3 _ _ hp'
        · rcases List.mem_append.mp hx with hx | hx
          · obtain ⟨t4, j4, e4, ht4, hl4⟩ := hR x hx
            exact ⟨t4, j4, e4, by rw [upd_ne (ne_of (same_new nt3 _ _ ht4) ho3 (fun z => by cases z))]; exact same_new nt3 _ _ ht4, hl4⟩
          · rw [List.mem_singleton.mp hx]
            exact ⟨t3, [k, b, 1, c], rfl, by rw [upd_ne (ne_of_none ho nt3).symm, upd_same]; rfl, rfl⟩
        · simp only [List.length_append, List.length_singleton]
          omega
    · rintro σ H' ⟨⟨y2, y3, y4, y5, y6, y7, y8, rfl⟩, s2, hp', xs, ho, hR, hl⟩
      walk_at "gd"
      rw [List.length_map, hp.length_eq, hkl] at hl
      exact q _ o xs s2 no ho hR hl
def sp_packed (K : PySem.W.Frag) : Sp := fun vs H Q _ => ∃ (a : Addr) (xs : List V), vs = [.ref a] ∧ SqL K H a xs ∧ xs.length ≤ 200 ∧
  ∀ H' p f s fs ss, Same H H' → H p = none → H s = none → H' p = some (.tup [.ref f, .ref s]) → H' f = some (.tup fs) → H' s = some (.lst ss) → fs = xs.take 3 → ss.length = (xs.length - 3 + 5) / 6 → Q (.ref p) H'
theorem ok_packed (T : Txt K mg) : FnOk P w K mg base (L2.CX P w) 1 T.f_packed T.d_packed ["runs"] (sp_packed K) := by
  refine T.F_packed.ok sc_packed (fun vs H Q E h => ?_) (fun cdv A outer s H vs Q E hr h => ?_)
  · obtain ⟨a, xs, rfl, _⟩ := h
    rfl
  · obtain ⟨a, xs, rfl, hS, hl, q⟩ := h
    refine ⟨_, PSs.nox (pss_cons (ps_set (i := 1) sc_packed.nd rfl (Or.inr rfl) (pe_slice sl_list (pv 0) (po_some (pe_gl (by rfl) T.c_NODE)) po_none))
 (pss_cons (ps_setLc (i := 2) (own := [("k", 3)]) (g := gName 3) (tt := tYes) (by rfl) sc_packed.nd rfl rfl (sw_true rfl rfl rfl (by decide +kernel)) (pi_range3 (by rfl) T.z_range (pa_cons pe_int (pa_cons (pe_callB call_len_seq (by rfl) T.z_len (by decide +kernel) (pa_cons (pv 1) pa_nil)) (pa_cons (pe_gl (by rfl) T.c_SHEET) pa_nil)))) (blkOk_by (own := [("k", 3)]) (N := N_packed) (sc := defScope s_packed) (by decide +kernel)) (fun _ _ _ _ _ => (pg_name (i := 3) sc_packed.nd rfl (Or.inl rfl))) (fun _ _ _ _ _ => pts_nil) (fun _ _ _ _ _ => (pe_callTy (tupOf_K K rfl) (by rfl) T.z_tuple (by decide +kernel) (pa_cons (pe_slice (slL_K K rfl) (pv 1) (po_some (pv 3)) (po_some (pe_op op_add (pv 3) (pe_gl (by rfl) T.c_SHEET)))) pa_nil))))
 (pss_one (ps_ret (pe_tup (pa_cons (pe_callTy call_tuple_of (by rfl) T.z_tuple (by decide +kernel) (pa_cons (pe_slice sl_list (pv 0) po_none (po_some (pe_gl (by rfl) T.c_NODE))) pa_nil)) (pa_cons (pv 2) pa_nil))))))), ?_⟩
    walk_at "gd"
    refine k_slL hS fun r nr => ?_
    rw [cut_drop3]
    have s1 := same_new (o := .lst (xs.drop 3)) nr
    walk_at "gd"
    refine k_rgC (cn := 6) rfl (by rw [List.length_drop]; omega) (by decide) (by decide) ?_
    refine k_lcC (fun D i acc H' => Same (upd H r (.lst (xs.drop 3))) H' ∧ acc.length = i) (fun D nD => ⟨same_new nD, rfl⟩) ?_ ?_
    · rintro D i acc H' nD hi hD ha ⟨s2, hA⟩
      walk_at "gd"
      have hr' := s2 _ _ (upd_same (H := H) (a := r) (o := .lst (xs.drop 3)))
      refine k_slL (SqL.of hr') fun r2 nr2 => ?_
      walk_at "gd"
      intro r3 nr3
      have nd2 : D ≠ r2 := ne_of_none hD nr2
      have hD2 := same_new (o := .lst (cutV (xs.drop 3) (some (0 + (i : Int) * 6)) (some (0 + (i : Int) * 6 + 6)))) nr2 _ _ hD
      have hD3 := same_new (o := .tup (cutV (xs.drop 3) (some (0 + (i : Int) * 6)) (some (0 + (i : Int) * 6 + 6)))) nr3 _ _ hD2
      refine lc_end hD3 ha ?_ ⟨Same.mut (Same.new (Same.new s2 nr2) nr3) nD, by simp [hA]⟩
      rw [List.length_drop] at hi
      omega
    · rintro D acc H' nD hD hal ⟨s2, hA⟩
      walk_at "gd"
      have s3 := s1.trans s2
      refine k_slL (s3.seq hS) fun r2 nr2 => ?_
      rw [cut_take3]
      walk_at "gd"
      intro f nf
      walk_at "gd"
      refine ⟨by walk_at "sz", fun p np => ?_⟩
      have s4 := Same.new (o := .lst (xs.take 3)) s3 nr2
      have s5 := Same.new (o := .tup (xs.take 3)) s4 nf
      have nDH : H D = none := s1.free nD
      refine q _ p f D _ acc (Same.new s5 np) (s5.free np) nDH upd_same ?_ ?_ rfl ?_
      · rw [upd_ne (ne_of_none upd_same np)]
        exact upd_same
      · exact same_new np _ _ (same_new nf _ _ (same_new nr2 _ _ hD))
      · rw [hA, List.length_drop]
        omega
/-- rows (page, block, size, kind) that lie within 60 pages -/
def SegOk (xs : List V) (H : Hp) : Prop := ∀ x ∈ xs, ∃ t p b n c, x = V.ref t ∧ H t = some (.tup [.int p, .int b, .int n, .int c]) ∧ 0 ≤ p ∧ 1 ≤ n ∧ n ≤ 4 ∧ p + n ≤ 60
def sp_law_segments : Sp := fun vs H Q _ => ∃ (b l : Addr) (ns : List Int) (n : Int), vs = [.ref b, .int n] ∧ Bag H b l ns ∧ 0 ≤ n ∧ n ≤ 20 ∧ ∀ H' p xs, SameB b H H' → Bag H' b l ns → H p = none → H' p = some (.lst xs) → SegOk xs H' → xs.length ≤ 20 → Q (.ref p) H'
theorem ok_law_segments (T : Txt K mg) : FnOk P w K mg base (L2.CX P w) 2 T.f_law_segments T.d_law_segments ["_law_bag_here", "_law_many"] sp_law_segments := by
  refine T.F_law_segments.ok sc_law_segments (fun vs H Q E h => ?_) (fun cdv A outer s H vs Q E hr h => ?_)
  · obtain ⟨b, l, ns, n, rfl, _⟩ := h
    rfl
  · obtain ⟨b, l, ns, n, rfl, hB, n0, n1, q⟩ := h
    refine ⟨_, PSs.nox (pss_cons (ps_set (i := 2) sc_law_segments.nd rfl (Or.inl rfl) (pe_lst pa_nil))
 (pss_cons (ps_set (i := 3) sc_law_segments.nd rfl (Or.inl rfl) (pe_call (ok_law_pull T) (hr.mono (by decide)) (by rfl) T.g_law_pull T.k_law_pull T.b_law_pull .nil passL (pa_cons (pv 0) (pa_cons pe_int pa_nil))))
 (pss_cons (ps_set (i := 4) sc_law_segments.nd rfl (Or.inl rfl) (pe_call (ok_law_pull T) (hr.mono (by decide)) (by rfl) T.g_law_pull T.k_law_pull T.b_law_pull .nil passL (pa_cons (pv 0) (pa_cons pe_int pa_nil))))
 (pss_cons (ps_for PassesOwn.never rfl (pi_range1 (by rfl) T.z_range (pa_cons (pv 1) pa_nil)) (pg_name (i := 5) sc_law_segments.nd rfl (Or.inl rfl))
 (pss_cons (ps_set (i := 6) sc_law_segments.nd rfl (Or.inl rfl) (pe_op op_add pe_int (pe_call (ok_law_pull T) (hr.mono (by decide)) (by rfl) T.g_law_pull T.k_law_pull T.b_law_pull .nil passL (pa_cons (pv 0) (pa_cons pe_int pa_nil)))))
 (pss_cons (ps_set (i := 7) sc_law_segments.nd rfl (Or.inl rfl) (pe_call (ok_law_pull T) (hr.mono (by decide)) (by rfl) T.g_law_pull T.k_law_pull T.b_law_pull .nil passL (pa_cons (pv 0) (pa_cons pe_int pa_nil))))
 (pss_mid (ps_if (pt_cmpR op_le (pe_op op_add (pv 3) (pv 6)) pe_int (nomark _))
 (pss_one (ps_expr (pe_bm PySem.F.plainAttrs_list PySem.F.slot_list_append PySem.F.type_list_append mt_append (pv 2) (pa_cons (pe_tup (pa_cons (pv 3) (pa_cons (pv 4) (pa_cons (pv 6) (pa_cons (pv 7) pa_nil))))) pa_nil))))
 pss_nil)
 (pss_cons (ps_aug (i := 3) sc_law_segments.nd rfl (Or.inl rfl) (pe_op op_add (pv 6) (pe_ix ix_list (pe_lst (pa_cons pe_int (pa_cons pe_int (pa_cons pe_int (pa_cons pe_int pa_nil))))) (pe_call (ok_law_pull T) (hr.mono (by decide)) (by rfl) T.g_law_pull T.k_law_pull T.b_law_pull .nil passL (pa_cons (pv 0) (pa_cons pe_int pa_nil))) (fun _ _ => rfl))) ip_add)
 (pss_cons (ps_set (i := 8) sc_law_segments.nd rfl (Or.inl rfl) (pe_call (ok_law_pull T) (hr.mono (by decide)) (by rfl) T.g_law_pull T.k_law_pull T.b_law_pull .nil passL (pa_cons (pv 0) (pa_cons pe_int pa_nil))))
 (pss_one (ps_set (i := 4) sc_law_segments.nd rfl (Or.inl rfl) (pe_ix ix_list (pe_lst (pa_cons (pe_op op_add (pv 4) (pv 6)) (pa_cons (pe_op op_add (pv 4) (pv 6)) (pa_cons (pv 4) (pa_cons (pv 8) pa_nil))))) (pe_call (ok_law_pull T) (hr.mono (by decide)) (by rfl) T.g_law_pull T.k_law_pull T.b_law_pull .nil passL (pa_cons (pv 0) (pa_cons pe_int pa_nil))) (fun _ _ => rfl))))))))))
 (pss_one (ps_ret (pv 2))))))), ?_⟩
    walk_at "gd"
    refine ⟨by walk_at "sz", fun o no => ?_⟩
    walk_at "gd"
    have b0 : SameB b H (upd H o (.lst [])) := Same.toB (same_new no)
    refine k_pull (hB.keep (same_new no)) (by decide) (by decide) fun H1 pg p0 p1 b1 hB1 => ?_
    walk_at "gd"
    refine k_pull hB1 (by decide) (by decide) fun H2 bl k0 k1 b2 hB2 => ?_
    walk_at "gd"
    refine ⟨by omega, by omega, ?_⟩
    have nob := (hB.fresh no).1
    have nol := (hB.fresh no).2
    have o2 := b2.get nob (b1.get nob (upd_same (H := H) (a := o) (o := .lst [])))
    refine k_inR (fun i σ H' => (∃ pg bl y5 y6 y7 y8, σ = [some (.ref b), some (.int n), some (.ref o), some (.int pg), some (.int bl), y5, y6, y7, y8] ∧ 0 ≤ pg) ∧ SameB b H H' ∧ Bag H' b l ns ∧ ∃ xs, H' o = some (.lst xs) ∧ SegOk xs H' ∧ xs.length ≤ i)
      ⟨⟨pg, bl, _, _, _, _, rfl, p0⟩, (b0.trans b1).trans b2, hB2, [], o2, (fun x h => nomatch h), Nat.le_refl _⟩ ?_ ?_
    · rintro i σ H' hi ⟨⟨pg, bl, y5, y6, y7, y8, rfl, hpg⟩, b3, hB3, xs, ho, hSg, hl⟩
      walk_at "gd"
      refine k_pull hB3 (by decide) (by decide) fun H4 sz z0 z1 b4 hB4 => ?_
      walk_at "gd"
      refine k_pull hB4 (by decide) (by decide) fun H5 kd d0 d1 b5 hB5 => ?_
      walk_at "gd"
      have b35 := (b3.trans b4).trans b5
      have o5 := b5.get nob (b4.get nob ho)
      have sg5 : SegOk xs H5 := fun x hx => by
        obtain ⟨t, pg', bl', n', c', e, ht, r⟩ := hSg x hx
        exact ⟨t, pg', bl', n', c', e, (b4.trans b5).get (fun z => by
          obtain ⟨_, _, _, _, hb, _⟩ := hB3
          rw [z, hb] at ht
          cases ht) ht, r⟩
      refine ⟨fun σ1 H1 => (∃ y5 y8, σ1 = [some (.ref b), some (.int n), some (.ref o), some (.int pg), some (.int bl), y5, some (.int (1 + sz)), some (.int kd), y8]) ∧ SameB b H H1 ∧ Bag H1 b l ns ∧ ∃ xs, H1 o = some (.lst xs) ∧ SegOk xs H1 ∧ xs.length ≤ i + 1, ?_, ?_⟩
      · walk_at "gd"
        refine k_iteD (fun h1 => ?_) (fun h1 => ?_)
        · walk_at "gd"
          refine ⟨by walk_at "sz", fun t3 nt3 => ?_⟩
          have o6 := same_new (o := .tup [V.int pg, V.int bl, V.int (1 + sz), V.int kd]) nt3 _ _ o5
          walk_at "gd"
          refine ⟨⟨_, _, rfl⟩, (b35.new nt3).mut no, (hB5.keep (same_new nt3)).updL o6 nob nol, _, upd_same, fun x hx => ?_, by simp; omega⟩
          have k6 : ∀ a u, H5 a = some (.tup u) → upd (upd H5 t3 (.tup [V.int pg, V.int bl, V.int (1 + sz), V.int kd])) o (.lst (xs ++ [V.ref t3])) a = some (.tup u) := fun a u e => by
            rw [upd_ne (ne_of (same_new nt3 _ _ e) o6 (fun z => by cases z))]
            exact same_new nt3 _ _ e
          rcases List.mem_append.mp hx with hx | hx
          · obtain ⟨t, pg', bl', n', c', e, ht, r⟩ := sg5 x hx
            exact ⟨t, pg', bl', n', c', e, k6 _ _ ht, r⟩
          · rw [List.mem_singleton.mp hx]
            exact ⟨t3, pg, bl, 1 + sz, kd, rfl, by rw [upd_ne (ne_of_none o5 nt3).symm, upd_same], hpg, by omega, by omega, by omega⟩
        · walk_at "gd"
          exact ⟨⟨_, _, rfl⟩, b35, hB5, xs, o5, sg5, by omega⟩
      · rintro σ1 H1 ⟨⟨y5', y8', rfl⟩, b6, hB6, xs6, o6, sg6, hl6⟩
        have carry : ∀ {H2 H3 : Hp} {us : List V}, SameB b H2 H3 → Bag H2 b l ns → SegOk us H2 → SegOk us H3 := fun s hB h x hx => by
          obtain ⟨t, pg', bl', n', c', e, ht, r⟩ := h x hx
          exact ⟨t, pg', bl', n', c', e, s.get (fun z => by
            obtain ⟨_, _, _, _, hb, _⟩ := hB
            rw [z, hb] at ht
            cases ht) ht, r⟩
        walk_at "gd"
        refine k_menu 0 5 rfl hB6 rfl (by decide) (by decide) (menu_in (by decide)) fun H7 j j0 j1 b7 hB7 => ?_
        walk_at "gd"
        refine k_pull hB7 (by decide) (by decide) fun H8 jm m0 m1 b8 hB8 => ?_
        walk_at "gd"
        refine k_menuZ rfl hB8 rfl (by decide) (by simp) ?_ fun H9 bl9 b9 hB9 => ?_
        · intro x hx
          simp only [List.mem_cons, List.not_mem_nil, or_false] at hx
          rcases hx with rfl | rfl | rfl | rfl <;> exact ⟨_, rfl⟩
        walk_at "gd"
        have b79 := (b7.trans b8).trans b9
        exact ⟨⟨_, _, _, _, _, _, rfl, by omega⟩, b6.trans b79, hB9, xs6, b79.get nob o6, carry b79 hB6 sg6, hl6⟩
    · rintro σ H' ⟨⟨pg, bl, y5, y6, y7, y8, rfl, hpg⟩, b3, hB3, xs, ho, hSg, hl⟩
      walk_at "gd"
      exact q _ o xs b3 hB3 no ho hSg (by omega)
/-- pairs of a page and its pair -/
def PairList (H : Hp) : List Addr → List (Key × V) → Prop := AllR fun p kv => ∃ k t b c, kv = (.inl k, V.ref t) ∧ H p = some (.tup [.int k, .ref t]) ∧ H t = some (.tup [.int b, .int c]) ∧ 0 ≤ k ∧ k < 60
theorem PairList.keep {H H' : Hp} {ps : List Addr} {kvs : List (Key × V)} (s : Same H H') (h : PairList H ps kvs) : PairList H' ps kvs := AllR.mono (fun p kv => by
  rintro ⟨k, t, b, c, e, h1, h2, h3⟩
  exact ⟨k, t, b, c, e, s _ _ h1, s _ _ h2, h3⟩) h
theorem PairList.paired {K : PySem.W.Frag} {H : Hp} : ∀ {ps : List Addr} {kvs : List (Key × V)}, PairList H ps kvs → Paired (fun p kv => SqT K H p [kV kv.1, kv.2]) ps kvs
  | [], [], _ => .nil
  | [], _ :: _, h => (show False from h).elim
  | _ :: _, [], h => (show False from h).elim
  | p :: ps, kv :: kvs, h => by
    obtain ⟨k, t, b, c, e, h1, _⟩ := h.1
    exact .cons (by rw [e]; exact SqT.of h1) (PairList.paired (ps := ps) (kvs := kvs) h.2)
theorem PairList.all {H : Hp} : ∀ {ps : List Addr} {kvs : List (Key × V)}, PairList H ps kvs → ∀ kv ∈ kvs, (∃ k : Int, kv.1 = .inl k ∧ 0 ≤ k ∧ k < 60) ∧ ∃ t b c, kv.2 = V.ref t ∧ H t = some (.tup [.int b, .int c])
  | [], [], _, _, h => nomatch h
  | [], _ :: _, h, _, _ => (show False from h).elim
  | _ :: _, [], h, _, _ => (show False from h).elim
  | p :: ps, kv :: kvs, h, u, hu => by
    rcases List.mem_cons.mp hu with rfl | hu
    · obtain ⟨k, t, b, c, e, h1, h2, h3⟩ := h.1
      rw [e]
      exact ⟨⟨k, rfl, h3⟩, t, b, c, rfl, h2⟩
    · exact PairList.all (ps := ps) (kvs := kvs) h.2 u hu
def sp_law_places : Sp := fun vs H Q _ => ∃ (a : Addr) (xs : List V), vs = [.ref a, .int 0] ∧ H a = some (.lst xs) ∧ SegOk xs H ∧ xs.length ≤ 20 ∧ ∀ H' d kvs, Same H H' → H d = none → H' d = some (.dK kvs) → PagesAt H' kvs → Q (.ref d) H'
theorem ok_law_places (T : Txt K mg) : FnOk P w K mg base (L2.CX P w) 1 T.f_law_places T.d_law_places ["_law_rows_here", "_law_turned"] sp_law_places := by
  refine T.F_law_places.ok sc_law_places (fun vs H Q E h => ?_) (fun cdv A outer s H vs Q E hr h => ?_)
  · obtain ⟨a, xs, rfl, _⟩ := h
    rfl
  · obtain ⟨a, xs, rfl, ha, hSg, hl, q⟩ := h
    refine ⟨_, PSs.nox (pss_cons (ps_set (i := 2) sc_law_places.nd rfl (Or.inl rfl) (pe_lst pa_nil))
 (pss_cons (ps_for PassesOwn.never rfl (pi_list (pv 0)) (pg_tup rfl (pgs_cons (pg_name (i := 3) sc_law_places.nd rfl (Or.inr rfl)) (pgs_cons (pg_name (i := 4) sc_law_places.nd rfl (Or.inr rfl)) (pgs_cons (pg_name (i := 5) sc_law_places.nd rfl (Or.inl rfl)) (pgs_cons (pg_name (i := 6) sc_law_places.nd rfl (Or.inr rfl)) pgs_nil)))))
 (pss_one (ps_set (i := 2) sc_law_places.nd rfl (Or.inl rfl) (pe_op op_cat (pv 2) (pe_lc (own := [("_law_k", 7)]) (g := gName 7) (tt := tYes) (by rfl) sc_law_places.nd (pi_range1 (by rfl) T.z_range (pa_cons (pv 5) pa_nil)) (blkOk_by (own := [("_law_k", 7)]) (N := N_law_places) (sc := defScope s_law_places) (by decide +kernel)) (fun _ _ _ _ _ => (pg_name (i := 7) sc_law_places.nd rfl (Or.inl rfl))) (fun _ _ _ _ _ => pts_nil) (fun _ _ _ _ _ => (pe_tup (pa_cons (pe_op op_add (pv 3) (pv 7)) (pa_cons (pe_tup (pa_cons (pe_op op_add (pv 4) (pv 7)) (pa_cons (pv 6) pa_nil))) pa_nil)))))))))
 (pss_cons (ps_if (pt_cmpR op_eq (pv 1) pe_int (nomark _))
 (pss_one (ps_set (i := 2) sc_law_places.nd rfl (Or.inl rfl) (pe_revL (pv 2))))
 pss_nil)
 (pss_cons (ps_if (pt_cmpR op_eq (pv 1) pe_int (nomark _)) pss_no pss_nil)
 (pss_one (ps_ret (pe_callTy (call_dictP rfl) (by rfl) T.z_dict (by decide +kernel) (pa_cons (pv 2) pa_nil)))))))), ?_⟩
    walk_at "gd"
    refine ⟨by walk_at "sz", fun o no => ?_⟩
    walk_at "gd"
    have s0 := same_new (o := .lst []) no
    refine k_inL (fun i σ H' => ∃ (o' : Addr) (y3 y4 y5 y6 : Option V), σ = [some (.ref a), some (.int 0), some (.ref o'), y3, y4, y5, y6, none] ∧ Same H H' ∧ ∃ ps kvs, H' o' = some (.lst (ps.map V.ref)) ∧ PairList H' ps kvs ∧ ps.length ≤ 4 * i)
      (SqL.of (s0 _ _ ha)) ⟨o, none, none, none, none, rfl, s0, [], [], upd_same, True.intro, Nat.le_refl _⟩ (fun i σ H' _ h => ?_) ?_ ?_
    · obtain ⟨_, _, _, _, _, _, s1, _⟩ := h
      exact SqL.of (s1 _ _ ha)
    · rintro i x σ H' hx ⟨o', y3, y4, y5, y6, rfl, s1, ps, kvs, ho, hL, hpl⟩
      obtain ⟨t, pg, bl, n, c, rfl, ht, p0, n1, n4, pn⟩ := hSg x (List.mem_of_getElem? hx)
      have hi := (List.getElem?_eq_some_iff.mp hx).1
      have ht' := s1 _ _ ht
      walk_at "gd"
      refine ⟨by omega, by omega, ?_⟩
      refine k_lcR (fun D j acc H1 => Same H' H1 ∧ ∃ qs kv2, acc = qs.map V.ref ∧ PairList H1 qs kv2) (fun D nD => ⟨same_new nD, [], [], rfl, True.intro⟩) ?_ ?_
      · rintro D j acc H1 nD hj hD hal ⟨s2, qs, kv2, rfl, hQ⟩
        walk_at "gd"
        refine ⟨by walk_at "sz", fun t1 nt1 => ?_⟩
        walk_at "gd"
        refine ⟨by walk_at "sz", fun t2 nt2 => ?_⟩
        have hD2 := same_new (o := .tup [V.int (pg + (0 + ↑j)), V.ref t1]) nt2 _ _ (same_new (o := .tup [V.int (bl + (0 + ↑j)), V.int c]) nt1 _ _ hD)
        refine lc_end hD2 hal (by omega) ⟨Same.mut (Same.new (Same.new s2 nt1) nt2) nD, qs ++ [t2], kv2 ++ [(.inl (pg + (0 + ↑j)), .ref t1)], by simp, ?_⟩
        have kp : ∀ a u, upd (upd H1 t1 (.tup [V.int (bl + (0 + ↑j)), V.int c])) t2 (.tup [V.int (pg + (0 + ↑j)), V.ref t1]) a = some (.tup u) → upd (upd (upd H1 t1 (.tup [V.int (bl + (0 + ↑j)), V.int c])) t2 (.tup [V.int (pg + (0 + ↑j)), V.ref t1])) D (.lst (qs.map V.ref ++ [V.ref t2])) a = some (.tup u) := fun a u e => by
          rw [upd_ne (ne_of e hD2 (fun z => by cases z))]
          exact e
        refine AllR.snoc (AllR.mono (fun p kv => ?_) hQ) ⟨pg + (0 + ↑j), t1, bl + (0 + ↑j), c, rfl, kp _ _ upd_same, kp _ _ ?_, by omega, by omega⟩
        · rintro ⟨k, t, b, c, e, h1, h2, h3⟩
          exact ⟨k, t, b, c, e, kp _ _ (same_new nt2 _ _ (same_new nt1 _ _ h1)), kp _ _ (same_new nt2 _ _ (same_new nt1 _ _ h2)), h3⟩
        · exact same_new nt2 _ _ upd_same
      · rintro D acc H1 nD hD hal ⟨s2, qs, kv2, rfl, hQ⟩
        rw [List.length_map] at hal
        refine k_cat (s2 _ _ ho) hD (by rw [List.length_map, List.length_map]; omega) fun r nr => ?_
        walk_at "gd"
        refine ⟨r, _, _, _, _, rfl, Same.new (s1.trans s2) nr, ps ++ qs, kvs ++ kv2, by rw [upd_same, List.map_append], ?_, by rw [List.length_append]; omega⟩
        exact AllR.append ((PairList.keep s2 hL).keep (same_new nr)) (PairList.keep (same_new nr) hQ)
    · rintro σ H' ⟨o', y3, y4, y5, y6, rfl, s1, ps, kvs, ho, hL, hpl⟩
      walk_at "gd"
      refine k_dictP (SqL.of ho) (PairList.paired hL) fun d nd => ?_
      walk_at "gd"
      exact q _ d _ (Same.new s1 nd) (s1.free nd) upd_same ((PagesAt.nil.merge (PairList.all hL)).same (same_new nd))
/-! k13 -/
theorem worst_nat (m : Nat) : worstZ (m : Int) 3 6 = (((m - 3 + 5) / 6 : Nat) : Int) := by
  unfold worstZ
  split <;> omega
def sp_law_bounded : Sp := fun vs H Q _ => ∃ (d : Addr) (kvs : List (Key × V)), vs = [.ref d] ∧ H d = some (.dK kvs) ∧ PagesAt H kvs ∧ ∀ H', Same H H' → Q (.bl true) H'
theorem ok_law_bounded (T : Txt K mg) : FnOk P w K mg base (L2.CX P w) 3 T.f_law_bounded T.d_law_bounded ["_law_places_here"] sp_law_bounded := by
  refine T.F_law_bounded.ok sc_law_bounded (fun vs H Q E h => ?_) (fun cdv A outer s H vs Q E hr h => ?_)
  · obtain ⟨d, kvs, rfl, _⟩ := h
    rfl
  · obtain ⟨d, kvs, rfl, hd, hP, q⟩ := h
    refine ⟨_, PSs.nox (pss_cons (ps_set (i := 1) sc_law_bounded.nd rfl (Or.inl rfl) (pe_call (ok_runs_of T) (hr.mono (by decide)) (by rfl) T.g_runs_of T.k_runs_of T.b_runs_of .nil passL (pa_cons (pv 0) pa_nil)))
 (pss_cons (ps_set (i := 2) sc_law_bounded.nd rfl (Or.inl rfl) (pe_ix ix_tup (pe_call (ok_packed T) (hr.mono (by decide)) (by rfl) T.g_packed T.k_packed T.b_packed .nil passL (pa_cons (pv 1) pa_nil)) pe_int (fun _ _ => rfl)))
 (pss_cons (ps_if (PW.pt (pw_or (pt_not (pt_val (pe_call (ok_law_rows T) (hr.mono (by decide)) (by rfl) T.g_law_rows T.k_law_rows T.b_law_rows .nil passL (pa_cons (pv 1) (pa_cons pe_int pa_nil))))) (pw_or1 (pt_cmpR op_gt (pe_callB call_len_seq (by rfl) T.z_len (by decide +kernel) (pa_cons (pv 2) pa_nil)) (pe_call (ok_worst T) (hr.mono (by decide)) (by rfl) T.g_worst T.k_worst T.b1_worst.choose_spec.2 T.b1_worst.choose_spec.1 passL (pa_cons (pe_callB call_lenD (by rfl) T.z_len (by decide +kernel) (pa_cons (pv 0) pa_nil)) pa_nil)) (nomark _)))))
 (pss_one (ps_ret pe_bl))
 pss_nil)
 (pss_cons (ps_if (PW.pt (pw_and (pt_cmpR op_eq (pe_callB call_len_seq (by rfl) T.z_len (by decide +kernel) (pa_cons (pv 1) pa_nil)) (pe_callB call_lenD (by rfl) T.z_len (by decide +kernel) (pa_cons (pv 0) pa_nil)) (nomark _)) (pw_and1 (pt_cmpR op_ne (pe_callB call_len_seq (by rfl) T.z_len (by decide +kernel) (pa_cons (pv 2) pa_nil)) (pe_call (ok_worst T) (hr.mono (by decide)) (by rfl) T.g_worst T.k_worst T.b1_worst.choose_spec.2 T.b1_worst.choose_spec.1 passL (pa_cons (pe_callB call_lenD (by rfl) T.z_len (by decide +kernel) (pa_cons (pv 0) pa_nil)) pa_nil)) (nomark _)))))
 (pss_one (ps_ret pe_bl))
 pss_nil)
 (pss_one (ps_ret (pe_and (pe_cmpR op_le (pe_callB call_len_seq (by rfl) T.z_len (by decide +kernel) (pa_cons (pv 1) pa_nil)) (pe_callB call_lenD (by rfl) T.z_len (by decide +kernel) (pa_cons (pv 0) pa_nil)) (nomark _)) (pe_one (pe_chain op_le op_le (pe_call (ok_worst T) (hr.mono (by decide)) (by rfl) T.g_worst T.k_worst T.b1_worst.choose_spec.2 T.b1_worst.choose_spec.1 passL (pa_cons (pe_callB call_lenD (by rfl) T.z_len (by decide +kernel) (pa_cons (pv 0) pa_nil)) pa_nil)) (pe_call (ok_worst T) (hr.mono (by decide)) (by rfl) T.g_worst T.k_worst T.b1_worst.choose_spec.2 T.b1_worst.choose_spec.1 passL (pa_cons (pe_op op_add (pe_callB call_lenD (by rfl) T.z_len (by decide +kernel) (pa_cons (pv 0) pa_nil)) pe_int) pa_nil)) (pe_op op_add (pe_call (ok_worst T) (hr.mono (by decide)) (by rfl) T.g_worst T.k_worst T.b1_worst.choose_spec.2 T.b1_worst.choose_spec.1 passL (pa_cons (pe_callB call_lenD (by rfl) T.z_len (by decide +kernel) (pa_cons (pv 0) pa_nil)) pa_nil)) pe_int)))))))))), ?_⟩
    have hm := hP.len
    have wo : ∀ (m : Int) (H : Hp) (Q : VK) (E : XK), Q (.int (worstZ m 3 6)) H → sp_worst ([.int m] ++ [.int 3, .int 6]) H Q E := fun m H Q E q => ⟨m, 3, 6, rfl, by decide, by decide, q⟩
    walk_at "gd"
    refine ⟨d, kvs, rfl, hd, hP, fun H1 p xs s1 np hp hR hl => ?_⟩
    walk_at "gd"
    refine ⟨p, xs, rfl, SqL.of hp, by omega, fun H2 p2 f s2' fs ss s2 np2 ns2 hp2 hf hs hfs hss => ?_⟩
    walk_at "gd"
    refine ⟨p, xs, 4, rfl, s2 _ _ hp, ?_, by decide, fun H3 s3 => ?_⟩
    · intro x hx
      obtain ⟨t, ks, e, ht, hk⟩ := hR x hx
      exact ⟨t, ks, e, s2 _ _ ht, hk⟩
    have hs3 := s3 _ _ hs
    have hd3 := s3 _ _ (s2 _ _ (s1 _ _ hd))
    have hp3 := s3 _ _ (s2 _ _ hp)
    walk_at "gd"
    refine wo _ _ _ _ ?_
    rw [worst_nat]
    walk_at "gd"
    refine k_iteD (fun h5 => ?_) (fun h5 => ?_)
    · have h6 : (xs.length : Int) = kvs.length := V.int.inj h5
      walk_at "gd"
      refine wo _ _ _ _ ?_
      rw [worst_nat]
      walk_at "gd"
      refine k_iteNY (congrArg V.int (by omega)) ?_
      walk_at "gd"
      refine wo _ _ _ _ ?_
      rw [worst_nat]
      walk_at "gd"
      refine wo _ _ _ _ ?_
      rw [show (kvs.length : Int) + 1 = ((kvs.length + 1 : Nat) : Int) from rfl, worst_nat]
      walk_at "gd"
      refine wo _ _ _ _ ?_
      rw [worst_nat]
      walk_at "gd"
      rw [decide_eq_true (by omega)]
      exact q _ ((s1.trans s2).trans s3)
    · walk_at "gd"
      refine wo _ _ _ _ ?_
      rw [worst_nat]
      walk_at "gd"
      refine wo _ _ _ _ ?_
      rw [show (kvs.length : Int) + 1 = ((kvs.length + 1 : Nat) : Int) from rfl, worst_nat]
      walk_at "gd"
      refine wo _ _ _ _ ?_
      rw [worst_nat]
      walk_at "gd"
      rw [decide_eq_true (by omega)]
      exact q _ ((s1.trans s2).trans s3)
theorem ok_law (T : Txt K mg) : FnOk P w K mg base (L2.CX P w) 5 T.f_law T.d_law ["_law_script"] (sp_law K) := by
  refine T.F_law.ok sc_law (fun vs H Q E h => ?_) (fun cdv A outer s H vs Q E hr h => ?_)
  · obtain ⟨a, ns, rfl, _⟩ := h
    rfl
  · obtain ⟨a, ns, rfl, hS, hl, q⟩ := h
    refine ⟨_, PSs.nox (pss_cons (ps_set (i := 1) sc_law.nd rfl (Or.inl rfl) (pe_call (ok_law_bag T) (hr.mono (by decide)) (by rfl) T.g_law_bag T.k_law_bag T.b_law_bag .nil passL (pa_cons (pv 0) pa_nil)))
 (pss_cons (ps_set (i := 2) sc_law.nd rfl (Or.inl rfl) (pe_call (ok_law_places T) (hr.mono (by decide)) (by rfl) T.g_law_places T.k_law_places T.b_law_places .nil passL (pa_cons (pe_call (ok_law_segments T) (hr.mono (by decide)) (by rfl) T.g_law_segments T.k_law_segments T.b_law_segments .nil passL (pa_cons (pv 1) (pa_cons (pe_call (ok_law_pull T) (hr.mono (by decide)) (by rfl) T.g_law_pull T.k_law_pull T.b_law_pull .nil passL (pa_cons (pv 1) (pa_cons pe_int pa_nil))) pa_nil))) (pa_cons pe_int pa_nil))))
 (pss_mid (ps_if (pt_cmpR op_eq (pe_call (ok_law_pull T) (hr.mono (by decide)) (by rfl) T.g_law_pull T.k_law_pull T.b_law_pull .nil passL (pa_cons (pv 1) (pa_cons pe_int pa_nil))) pe_int (nomark _))
 (pss_cons (ps_for PassesOwn.never rfl (pi_list (pe_callTy (call_listD rfl) (by rfl) T.z_list (by decide +kernel) (pa_cons (pv 2) pa_nil))) (pg_name (i := 3) sc_law.nd rfl (Or.inl rfl))
 (pss_one (ps_dput (hu1 hr) (pv 2) (pv 3) (pe_tup (pa_cons (pe_op op_mod (pe_op op_mul pe_int (pv 3)) pe_int) (pa_cons (pe_ix ix_tup (pe_dget (hu1 hr) (pv 2) (pv 3) (fun _ _ => rfl)) pe_int (fun _ _ => rfl)) pa_nil))) rfl)))
 (pss_one (ps_for PassesOwn.never rfl (pi_range1 (by rfl) T.z_range (pa_cons (pe_call (ok_law_pull T) (hr.mono (by decide)) (by rfl) T.g_law_pull T.k_law_pull T.b_law_pull .nil passL (pa_cons (pv 1) (pa_cons pe_int pa_nil))) pa_nil)) (pg_name (i := 3) sc_law.nd rfl (Or.inl rfl))
 (pss_one (ps_dput (hu1 hr) (pv 2) (pv 3) (pe_tup (pa_cons (pe_op op_mul pe_int (pv 3)) (pa_cons pe_int pa_nil))) rfl)))))
 pss_nil)
 (pss_cons (ps_if (pt_not (pt_val (pe_call (ok_law_bounded T) (hr.mono (by decide)) (by rfl) T.g_law_bounded T.k_law_bounded T.b_law_bounded .nil passL (pa_cons (pv 2) pa_nil))))
 (pss_one (ps_ret pe_bl))
 pss_nil)
 (pss_cons (ps_for PassesOwn.never rfl (pi_range1 (by rfl) T.z_range (pa_cons (pe_call (ok_law_pull T) (hr.mono (by decide)) (by rfl) T.g_law_pull T.k_law_pull T.b_law_pull .nil passL (pa_cons (pv 1) (pa_cons pe_int pa_nil))) pa_nil)) (pg_name (i := 4) sc_law.nd rfl (Or.inl rfl))
 (pss_cons (ps_set (i := 5) sc_law.nd rfl (Or.inl rfl) (pe_callB (call_sortedDI rfl) (by rfl) T.z_sorted (by decide +kernel) (pa_cons (pv 2) pa_nil)))
 (pss_mid (ps_if (pt_cmpR op_gt (pe_callB call_len_seq (by rfl) T.z_len (by decide +kernel) (pa_cons (pv 5) pa_nil)) pe_int (nomark _))
 (pss_one (ps_expr (pe_dpop1 (pv 2) (pe_ix ix_list (pv 5) (pe_call (ok_law_pull T) (hr.mono (by decide)) (by rfl) T.g_law_pull T.k_law_pull T.b_law_pull .nil passL (pa_cons (pv 1) (pa_cons (pe_callB call_len_seq (by rfl) T.z_len (by decide +kernel) (pa_cons (pv 5) pa_nil)) pa_nil))) (fun _ _ => rfl)) (by exact ⟨by rfl, by rfl, by rfl, by rfl⟩))))
 pss_nil)
 (pss_one (ps_if (pt_not (pt_val (pe_call (ok_law_bounded T) (hr.mono (by decide)) (by rfl) T.g_law_bounded T.k_law_bounded T.b_law_bounded .nil passL (pa_cons (pv 2) pa_nil))))
 (pss_one (ps_ret pe_bl))
 pss_nil)))))
 (pss_one (ps_ret pe_bl))))))), ?_⟩
    walk_at "gd"
    refine ⟨a, ns, rfl, hS, hl, fun H1 b l s1 _ _ hB1 => ?_⟩
    walk_at "gd"
    refine k_pull hB1 (by decide) (by decide) fun H2 n n0 n1 b2 hB2 => ?_
    walk_at "gd"
    refine ⟨b, l, ns, n, rfl, hB2, n0, by omega, fun H3 p xs b3 hB3 np hp hSg hxl => ?_⟩
    walk_at "gd"
    refine ⟨p, xs, rfl, hp, hSg, hxl, fun H4 d kvs s4 nd hd hP => ?_⟩
    have nd3 := hB3.fresh nd
    have hB4 := hB3.keep s4
    walk_at "gd"
    refine ⟨fun σ H' => (∃ y, σ = [some (.ref a), some (.ref b), some (.ref d), y, none, none]) ∧ Bag H' b l ns ∧ ∃ kvs, H' d = some (.dK kvs) ∧ PagesAt H' kvs, ?_, ?_⟩
    · walk_at "gd"
      refine k_pull hB4 (by decide) (by decide) fun H5 c c0 c1 b5 hB5 => ?_
      have hd5 := b5.get nd3.1 hd
      have hP5 := hP.keep fun a u e => hB4.tup b5 e
      walk_at "gd"
      refine k_iteD (fun h1 => ?_) (fun h1 => ?_)
      · walk_at "gd"
        obtain ⟨ks, hk, hk2, hkl⟩ := hP5.keys
        have ek : (kvs.map fun kv => kV kv.1) = ks.map V.int := by
          rw [show (kvs.map fun kv => kV kv.1) = (kvs.map (·.1)).map kV by rw [List.map_map]; rfl, hk, List.map_map]
          rfl
        refine k_listD hd5 fun p6 np6 => ?_
        rw [ek]
        walk_at "gd"
        have nd6 : p6 ≠ d := (ne_of_none hd5 np6).symm
        refine k_inL (fun i σ H' => (∃ y, σ = [some (.ref a), some (.ref b), some (.ref d), y, none, none]) ∧ Bag H' b l ns ∧ H' p6 = some (.lst (ks.map V.int)) ∧ ∃ kv2, H' d = some (.dK kv2) ∧ PagesAt H' kv2 ∧ kv2.map (·.1) = ks.map Sum.inl) (SqL.of upd_same)
          ⟨⟨_, rfl⟩, hB5.keep (same_new np6), upd_same, kvs, same_new np6 _ _ hd5, hP5.same (same_new np6), hk⟩ (fun i σ H' _ h => SqL.of h.2.2.1) ?_ ?_
        · rintro i x σ H' hx ⟨⟨y, rfl⟩, hB6, hp6, kv2, hd6, hP6, hk6⟩
          obtain ⟨k, rfl, hki⟩ := int_at hx
          have km : (.inl k : Key) ∈ kv2.map (·.1) := by
            rw [hk6]
            exact List.mem_map.mpr ⟨k, List.mem_of_getElem? hki, rfl⟩
          obtain ⟨t, u, c', hv, ht, k0, k1⟩ := hP6.get km
          walk_at "gd"
          refine k_dgetI hd6 hv ?_
          walk_at "gd"
          refine ⟨by walk_at "sz", fun t7 nt7 => ?_⟩
          have hd7 := same_new (o := .tup [V.int (2 * k % 200), V.int c']) nt7 _ _ hd6
          have hP7 := (hP6.same (same_new (o := .tup [V.int (2 * k % 200), V.int c']) nt7)).put k0 k1 upd_same
          walk_at "gd"
          refine k_dputI hd7 (by have := hP6.len; omega) ?_
          refine ⟨⟨_, rfl⟩, (hB6.keep (same_new nt7)).put nd3.1 nd3.2, ?_, _, upd_same, hP7.upd hd7, by rw [putK_keys_old km, hk6]⟩
          rw [upd_ne nd6]
          exact same_new nt7 _ _ hp6
        rintro σ H6 ⟨⟨y, rfl⟩, hB6, hp6, kv2, hd6, hP6, hk6⟩
        walk_at "gd"
        refine k_pull hB6 (by decide) (by decide) fun H7 m m0 m1 b7 hB7 => ?_
        walk_at "gd"
        refine ⟨by omega, by omega, ?_⟩
        refine k_inR (fun i σ H' => (∃ y, σ = [some (.ref a), some (.ref b), some (.ref d), y, none, none]) ∧ Bag H' b l ns ∧ ∃ kvs, H' d = some (.dK kvs) ∧ PagesAt H' kvs) ⟨⟨_, rfl⟩, hB7, kv2, b7.get nd3.1 hd6, hP6.keep fun a u e => hB6.tup b7 e⟩ ?_ ?_
        · rintro i σ H' hi ⟨⟨y, rfl⟩, hB8, kv3, hd8, hP8⟩
          walk_at "gd"
          refine ⟨by walk_at "sz", fun t7 nt7 => ?_⟩
          have hd7 := same_new (o := .tup [V.int (3 * (0 + ↑i)), V.int 1]) nt7 _ _ hd8
          have hP7 := (hP8.same (same_new (o := .tup [V.int (3 * (0 + ↑i)), V.int 1]) nt7)).put (k := 0 + ↑i) (by omega) (by omega) upd_same
          walk_at "gd"
          refine k_dputI hd7 (by have := hP8.len; omega) ?_
          exact ⟨⟨_, rfl⟩, (hB8.keep (same_new nt7)).put nd3.1 nd3.2, _, upd_same, hP7.upd hd7⟩
        · rintro σ H' h
          exact h
      · walk_at "gd"
        exact ⟨⟨_, rfl⟩, hB5, kvs, hd5, hP5⟩
    rintro σ H5 ⟨⟨y, rfl⟩, hB5, kvs5, hd5, hP5⟩
    walk_at "gd"
    refine ⟨d, kvs5, rfl, hd5, hP5, fun H6 s6 => ?_⟩
    walk_at "gd"
    refine k_pull (hB5.keep s6) (by decide) (by decide) fun H7 m m0 m1 b7 hB7 => ?_
    walk_at "gd"
    refine ⟨by omega, by omega, ?_⟩
    refine k_inR (fun i σ H' => (∃ y z u, σ = [some (.ref a), some (.ref b), some (.ref d), y, z, u]) ∧ Bag H' b l ns ∧ ∃ kvs, H' d = some (.dK kvs) ∧ PagesAt H' kvs) ⟨⟨_, _, _, rfl⟩, hB7, kvs5, b7.get nd3.1 (s6 _ _ hd5), (hP5.same s6).keep fun a u e => (hB5.keep s6).tup b7 e⟩ ?_ ?_
    · rintro i σ H' hi ⟨⟨y, z, u, rfl⟩, hB8, kv3, hd8, hP8⟩
      walk_at "gd"
      obtain ⟨ks, hk, hk2, hkl⟩ := hP8.keys
      have h60 := hP8.len
      refine k_sortDI hd8 hk (by omega) fun ys p8 hp _ np8 => ?_
      have hd9 := same_new (o := .lst (ys.map V.int)) np8 _ _ hd8
      have hP9 := hP8.same (same_new (o := .lst (ys.map V.int)) np8)
      have hB9 := hB8.keep (same_new (o := .lst (ys.map V.int)) np8)
      walk_at "gd"
      refine ⟨fun σ H' => (∃ y z u, σ = [some (.ref a), some (.ref b), some (.ref d), y, z, u]) ∧ Bag H' b l ns ∧ ∃ kvs, H' d = some (.dK kvs) ∧ PagesAt H' kvs, ?_, ?_⟩
      · walk_at "gd"
        refine k_iteD (fun h1 => ?_) (fun h1 => ?_)
        · walk_at "gd"
          have hyl : ys.length ≤ 60 := by
            rw [hp.length_eq]
            omega
          refine ⟨.inl ⟨kv3, .inl hd9⟩, ?_⟩
          walk_at "gd"
          have hml : (ys.map V.int).length = ys.length := List.length_map ..
          rw [hml]
          refine k_pull hB9 (by omega) (by omega) fun H10 v v0 v1 b10 hB10 => ?_
          have p10 := b10.get ((hB8.fresh np8).1) (upd_same (H := H') (a := p8) (o := .lst (ys.map V.int)))
          have hv : v.toNat < ys.length := by omega
          have ea : atI (ys.map V.int) v = some (V.int ys[v.toNat]) := by
            have e := atI_nat (xs := ys.map V.int) (j := v.toNat) (show (ys.map V.int)[v.toNat]? = some (V.int ys[v.toNat]) by rw [List.getElem?_map, List.getElem?_eq_getElem hv]; rfl)
            rw [Int.toNat_of_nonneg v0] at e
            exact e
          refine k_ixL (SqL.of p10) ea ?_
          have hd10 := b10.get nd3.1 hd9
          have hP10 : PagesAt H10 kv3 := hP9.keep fun a u e => hB9.tup b10 e
          obtain ⟨t, u', c', hv', ht, _⟩ := hP10.get (k := ys[v.toNat]) (by rw [hk]; exact List.mem_map.mpr ⟨_, hp.mem_iff.mp (List.getElem_mem hv), rfl⟩)
          refine k_dpopI hd10 hv' ?_
          walk_at "gd"
          exact ⟨⟨_, _, _, rfl⟩, hB10.put nd3.1 nd3.2, _, upd_same, hP10.drop.upd hd10⟩
        · walk_at "gd"
          exact ⟨⟨_, _, _, rfl⟩, hB9, kv3, hd9, hP9⟩
      rintro σ H11 ⟨⟨y, z, u, rfl⟩, hB11, kv4, hd11, hP11⟩
      walk_at "gd"
      refine ⟨d, kv4, rfl, hd11, hP11, fun H12 s12 => ?_⟩
      walk_at "gd"
      exact ⟨⟨_, _, _, rfl⟩, hB11.keep s12, kv4, s12 _ _ hd11, hP11.same s12⟩
    · rintro σ H' _
      walk_at "gd"
      exact q _
end
theorem all_mk {l : PySem.W.OpenLaw} {w : World} {K : PySem.W.Frag} {h : Heap} {mg : Str → Option Value} {fa : Addr} (X : K.In h) (G : h.Ns mainGlobals mg) (hfa : mg "law" = some (.ref fa))
  {f1 : Addr} {od1 an1 : Option Addr} {sl1 : Array (Option Value)} {oc1 dc1 pm1 cd1 ct1 : Value}
  {kD1 : Addr}
  {kt1_0 : Tok}
  {kt1_1 : Tok}
  {f2 : Addr} {od2 an2 : Option Addr} {sl2 : Array (Option Value)} {oc2 kV2 dc2 pm2 cd2 ct2 : Value}
  {f3 : Addr} {od3 an3 : Option Addr} {sl3 : Array (Option Value)} {oc3 kV3 dc3 pm3 cd3 ct3 : Value}
  {f4 : Addr} {od4 an4 : Option Addr} {sl4 : Array (Option Value)} {oc4 kV4 dc4 pm4 cd4 ct4 : Value}
  {f5 : Addr} {od5 an5 : Option Addr} {sl5 : Array (Option Value)} {oc5 kV5 dc5 pm5 cd5 ct5 : Value}
  {f6 : Addr} {od6 an6 : Option Addr} {sl6 : Array (Option Value)} {oc6 kV6 dc6 pm6 cd6 ct6 : Value}
  {f7 : Addr} {od7 an7 : Option Addr} {sl7 : Array (Option Value)} {oc7 kV7 dc7 pm7 cd7 ct7 : Value}
  {f8 : Addr} {od8 an8 : Option Addr} {sl8 : Array (Option Value)} {oc8 kV8 dc8 pm8 cd8 ct8 : Value}
  {f9 : Addr} {od9 an9 : Option Addr} {sl9 : Array (Option Value)} {oc9 kV9 dc9 pm9 cd9 ct9 : Value}
  {f10 : Addr} {od10 an10 : Option Addr} {sl10 : Array (Option Value)} {oc10 kV10 dc10 pm10 cd10 ct10 : Value}
  {f11 : Addr} {od11 an11 : Option Addr} {sl11 : Array (Option Value)} {oc11 kV11 dc11 pm11 cd11 ct11 : Value}
  {ct_NODE : Tok}
  {ct_SHEET : Tok}
  (kw1_0 : PySem.W.nsIn K kD1 "node" = some (some (.int 3 kt1_0)))
  (kw1_1 : PySem.W.nsIn K kD1 "sheet" = some (some (.int 6 kt1_1)))
  (a1 : PySem.W.nsIn K mainGlobals "worst" = some (some (.ref f1)))
  (l1 : K.lookup f1 = some ⟨oc1, od1, .func (PySem.W.fnOf "worst" "worst" (defArgs s_worst) (defBody s_worst) (defScope s_worst) .none (.ref kD1) dc1 pm1 an1 cd1 ct1), sl1⟩)
  (c1 : PySem.W.codeIn K cd1 "worst" = true)
  (k1 : PySem.W.keepIn K (.ref f1) = true)
  (a2 : PySem.W.nsIn K mainGlobals "runs_of" = some (some (.ref f2)))
  (l2 : K.lookup f2 = some ⟨oc2, od2, .func (PySem.W.fnOf "runs_of" "runs_of" (defArgs s_runs_of) (defBody s_runs_of) (defScope s_runs_of) .none kV2 dc2 pm2 an2 cd2 ct2), sl2⟩)
  (c2 : PySem.W.codeIn K cd2 "runs_of" = true)
  (k2 : PySem.W.keepIn K (.ref f2) = true)
  (a3 : PySem.W.nsIn K mainGlobals "packed" = some (some (.ref f3)))
  (l3 : K.lookup f3 = some ⟨oc3, od3, .func (PySem.W.fnOf "packed" "packed" (defArgs s_packed) (defBody s_packed) (defScope s_packed) .none kV3 dc3 pm3 an3 cd3 ct3), sl3⟩)
  (c3 : PySem.W.codeIn K cd3 "packed" = true)
  (k3 : PySem.W.keepIn K (.ref f3) = true)
  (a4 : PySem.W.nsIn K mainGlobals "_law_bag" = some (some (.ref f4)))
  (l4 : K.lookup f4 = some ⟨oc4, od4, .func (PySem.W.fnOf "_law_bag" "_law_bag" (defArgs s_law_bag) (defBody s_law_bag) (defScope s_law_bag) .none kV4 dc4 pm4 an4 cd4 ct4), sl4⟩)
  (c4 : PySem.W.codeIn K cd4 "_law_bag" = true)
  (k4 : PySem.W.keepIn K (.ref f4) = true)
  (a5 : PySem.W.nsIn K mainGlobals "_law_pull" = some (some (.ref f5)))
  (l5 : K.lookup f5 = some ⟨oc5, od5, .func (PySem.W.fnOf "_law_pull" "_law_pull" (defArgs s_law_pull) (defBody s_law_pull) (defScope s_law_pull) .none kV5 dc5 pm5 an5 cd5 ct5), sl5⟩)
  (c5 : PySem.W.codeIn K cd5 "_law_pull" = true)
  (k5 : PySem.W.keepIn K (.ref f5) = true)
  (a6 : PySem.W.nsIn K mainGlobals "_law_int" = some (some (.ref f6)))
  (l6 : K.lookup f6 = some ⟨oc6, od6, .func (PySem.W.fnOf "_law_int" "_law_int" (defArgs s_law_int) (defBody s_law_int) (defScope s_law_int) .none kV6 dc6 pm6 an6 cd6 ct6), sl6⟩)
  (c6 : PySem.W.codeIn K cd6 "_law_int" = true)
  (k6 : PySem.W.keepIn K (.ref f6) = true)
  (a7 : PySem.W.nsIn K mainGlobals "_law_rows" = some (some (.ref f7)))
  (l7 : K.lookup f7 = some ⟨oc7, od7, .func (PySem.W.fnOf "_law_rows" "_law_rows" (defArgs s_law_rows) (defBody s_law_rows) (defScope s_law_rows) .none kV7 dc7 pm7 an7 cd7 ct7), sl7⟩)
  (c7 : PySem.W.codeIn K cd7 "_law_rows" = true)
  (k7 : PySem.W.keepIn K (.ref f7) = true)
  (a8 : PySem.W.nsIn K mainGlobals "_law_segments" = some (some (.ref f8)))
  (l8 : K.lookup f8 = some ⟨oc8, od8, .func (PySem.W.fnOf "_law_segments" "_law_segments" (defArgs s_law_segments) (defBody s_law_segments) (defScope s_law_segments) .none kV8 dc8 pm8 an8 cd8 ct8), sl8⟩)
  (c8 : PySem.W.codeIn K cd8 "_law_segments" = true)
  (k8 : PySem.W.keepIn K (.ref f8) = true)
  (a9 : PySem.W.nsIn K mainGlobals "_law_places" = some (some (.ref f9)))
  (l9 : K.lookup f9 = some ⟨oc9, od9, .func (PySem.W.fnOf "_law_places" "_law_places" (defArgs s_law_places) (defBody s_law_places) (defScope s_law_places) .none kV9 dc9 pm9 an9 cd9 ct9), sl9⟩)
  (c9 : PySem.W.codeIn K cd9 "_law_places" = true)
  (k9 : PySem.W.keepIn K (.ref f9) = true)
  (a10 : PySem.W.nsIn K mainGlobals "_law_bounded" = some (some (.ref f10)))
  (l10 : K.lookup f10 = some ⟨oc10, od10, .func (PySem.W.fnOf "_law_bounded" "_law_bounded" (defArgs s_law_bounded) (defBody s_law_bounded) (defScope s_law_bounded) .none kV10 dc10 pm10 an10 cd10 ct10), sl10⟩)
  (c10 : PySem.W.codeIn K cd10 "_law_bounded" = true)
  (k10 : PySem.W.keepIn K (.ref f10) = true)
  (a11 : PySem.W.nsIn K mainGlobals "law" = some (some (.ref f11)))
  (l11 : K.lookup f11 = some ⟨oc11, od11, .func (PySem.W.fnOf "law" "law" (defArgs s_law) (defBody s_law) (defScope s_law) .none kV11 dc11 pm11 an11 cd11 ct11), sl11⟩)
  (c11 : PySem.W.codeIn K cd11 "law" = true)
  (k11 : PySem.W.keepIn K (.ref f11) = true)
  (aK_NODE : PySem.W.nsIn K mainGlobals "NODE" = some (some (.int 3 ct_NODE)))
  (aK_SHEET : PySem.W.nsIn K mainGlobals "SHEET" = some (some (.int 6 ct_SHEET)))
  (z_all : PySem.W.nsIn K mainGlobals "all" = some none)
  (z_bool : PySem.W.nsIn K mainGlobals "bool" = some none)
  (z_dict : PySem.W.nsIn K mainGlobals "dict" = some none)
  (z_int : PySem.W.nsIn K mainGlobals "int" = some none)
  (z_isinstance : PySem.W.nsIn K mainGlobals "isinstance" = some none)
  (z_len : PySem.W.nsIn K mainGlobals "len" = some none)
  (z_list : PySem.W.nsIn K mainGlobals "list" = some none)
  (z_range : PySem.W.nsIn K mainGlobals "range" = some none)
  (z_sorted : PySem.W.nsIn K mainGlobals "sorted" = some none)
  (z_tuple : PySem.W.nsIn K mainGlobals "tuple" = some none) :
  ∃ fd : FuncData, (∀ (s : Shared) (v : Value), BindsTo s fd ⟨[v], []⟩ [("_law_script", v)]) ∧ ∀ base : Heap, K.In base → base.Ns mainGlobals mg → FnOk l.prog w K mg base (L2.CX l.prog w) 5 fa fd ["_law_script"] (sp_law K) := by
  have e : f11 = fa := (Value.ref.inj (Option.some.inj (hfa.symm.trans (PySem.W.mg_of X G a11)))).symm
  subst e
  let T : Txt K mg := {
  g_worst := PySem.W.mg_of X G a1,
  f_worst := f1,
  d_worst := PySem.W.fnOf "worst" "worst" (defArgs s_worst) (defBody s_worst) (defScope s_worst) .none (.ref kD1) dc1 pm1 an1 cd1 ct1,
  F_worst := ⟨⟨oc1, od1, .none, (.ref kD1), dc1, pm1, an1, cd1, ct1, sl1, rfl, l1, c1, .inl ⟨rfl, rfl⟩, .inr ⟨kD1, rfl, List.forall_mem_cons.mpr ⟨⟨_, kw1_0, ⟨_, rfl⟩⟩, List.forall_mem_cons.mpr ⟨⟨_, kw1_1, ⟨_, rfl⟩⟩, fun q hq => nomatch hq⟩⟩⟩⟩, k1⟩,
  g_runs_of := PySem.W.mg_of X G a2,
  f_runs_of := f2,
  d_runs_of := PySem.W.fnOf "runs_of" "runs_of" (defArgs s_runs_of) (defBody s_runs_of) (defScope s_runs_of) .none kV2 dc2 pm2 an2 cd2 ct2,
  F_runs_of := ⟨⟨oc2, od2, .none, kV2, dc2, pm2, an2, cd2, ct2, sl2, rfl, l2, c2, .inl ⟨rfl, rfl⟩, .inl rfl⟩, k2⟩,
  g_packed := PySem.W.mg_of X G a3,
  f_packed := f3,
  d_packed := PySem.W.fnOf "packed" "packed" (defArgs s_packed) (defBody s_packed) (defScope s_packed) .none kV3 dc3 pm3 an3 cd3 ct3,
  F_packed := ⟨⟨oc3, od3, .none, kV3, dc3, pm3, an3, cd3, ct3, sl3, rfl, l3, c3, .inl ⟨rfl, rfl⟩, .inl rfl⟩, k3⟩,
  g_law_bag := PySem.W.mg_of X G a4,
  f_law_bag := f4,
  d_law_bag := PySem.W.fnOf "_law_bag" "_law_bag" (defArgs s_law_bag) (defBody s_law_bag) (defScope s_law_bag) .none kV4 dc4 pm4 an4 cd4 ct4,
  F_law_bag := ⟨⟨oc4, od4, .none, kV4, dc4, pm4, an4, cd4, ct4, sl4, rfl, l4, c4, .inl ⟨rfl, rfl⟩, .inl rfl⟩, k4⟩,
  g_law_pull := PySem.W.mg_of X G a5,
  f_law_pull := f5,
  d_law_pull := PySem.W.fnOf "_law_pull" "_law_pull" (defArgs s_law_pull) (defBody s_law_pull) (defScope s_law_pull) .none kV5 dc5 pm5 an5 cd5 ct5,
  F_law_pull := ⟨⟨oc5, od5, .none, kV5, dc5, pm5, an5, cd5, ct5, sl5, rfl, l5, c5, .inl ⟨rfl, rfl⟩, .inl rfl⟩, k5⟩,
  g_law_int := PySem.W.mg_of X G a6,
  f_law_int := f6,
  d_law_int := PySem.W.fnOf "_law_int" "_law_int" (defArgs s_law_int) (defBody s_law_int) (defScope s_law_int) .none kV6 dc6 pm6 an6 cd6 ct6,
  F_law_int := ⟨⟨oc6, od6, .none, kV6, dc6, pm6, an6, cd6, ct6, sl6, rfl, l6, c6, .inl ⟨rfl, rfl⟩, .inl rfl⟩, k6⟩,
  g_law_rows := PySem.W.mg_of X G a7,
  f_law_rows := f7,
  d_law_rows := PySem.W.fnOf "_law_rows" "_law_rows" (defArgs s_law_rows) (defBody s_law_rows) (defScope s_law_rows) .none kV7 dc7 pm7 an7 cd7 ct7,
  F_law_rows := ⟨⟨oc7, od7, .none, kV7, dc7, pm7, an7, cd7, ct7, sl7, rfl, l7, c7, .inl ⟨rfl, rfl⟩, .inl rfl⟩, k7⟩,
  g_law_segments := PySem.W.mg_of X G a8,
  f_law_segments := f8,
  d_law_segments := PySem.W.fnOf "_law_segments" "_law_segments" (defArgs s_law_segments) (defBody s_law_segments) (defScope s_law_segments) .none kV8 dc8 pm8 an8 cd8 ct8,
  F_law_segments := ⟨⟨oc8, od8, .none, kV8, dc8, pm8, an8, cd8, ct8, sl8, rfl, l8, c8, .inl ⟨rfl, rfl⟩, .inl rfl⟩, k8⟩,
  g_law_places := PySem.W.mg_of X G a9,
  f_law_places := f9,
  d_law_places := PySem.W.fnOf "_law_places" "_law_places" (defArgs s_law_places) (defBody s_law_places) (defScope s_law_places) .none kV9 dc9 pm9 an9 cd9 ct9,
  F_law_places := ⟨⟨oc9, od9, .none, kV9, dc9, pm9, an9, cd9, ct9, sl9, rfl, l9, c9, .inl ⟨rfl, rfl⟩, .inl rfl⟩, k9⟩,
  g_law_bounded := PySem.W.mg_of X G a10,
  f_law_bounded := f10,
  d_law_bounded := PySem.W.fnOf "_law_bounded" "_law_bounded" (defArgs s_law_bounded) (defBody s_law_bounded) (defScope s_law_bounded) .none kV10 dc10 pm10 an10 cd10 ct10,
  F_law_bounded := ⟨⟨oc10, od10, .none, kV10, dc10, pm10, an10, cd10, ct10, sl10, rfl, l10, c10, .inl ⟨rfl, rfl⟩, .inl rfl⟩, k10⟩,
  g_law := PySem.W.mg_of X G a11,
  f_law := f11,
  d_law := PySem.W.fnOf "law" "law" (defArgs s_law) (defBody s_law) (defScope s_law) .none kV11 dc11 pm11 an11 cd11 ct11,
  F_law := ⟨⟨oc11, od11, .none, kV11, dc11, pm11, an11, cd11, ct11, sl11, rfl, l11, c11, .inl ⟨rfl, rfl⟩, .inl rfl⟩, k11⟩,
  c_NODE := ⟨_, PySem.W.mg_of X G aK_NODE, ⟨_, rfl⟩⟩,
  c_SHEET := ⟨_, PySem.W.mg_of X G aK_SHEET, ⟨_, rfl⟩⟩,
  z_all := PySem.W.mg_none_of X G z_all,
  z_bool := PySem.W.mg_none_of X G z_bool,
  z_dict := PySem.W.mg_none_of X G z_dict,
  z_int := PySem.W.mg_none_of X G z_int,
  z_isinstance := PySem.W.mg_none_of X G z_isinstance,
  z_len := PySem.W.mg_none_of X G z_len,
  z_list := PySem.W.mg_none_of X G z_list,
  z_range := PySem.W.mg_none_of X G z_range,
  z_sorted := PySem.W.mg_none_of X G z_sorted,
  z_tuple := PySem.W.mg_none_of X G z_tuple }
  exact ⟨T.d_law, fun s v => T.F_law.bindsA (ps := ["_law_script"]) (fun _ _ _ _ _ _ us hl => match us, hl with | [_], _ => rfl) s [v] rfl, fun base _ _ => ok_law T⟩
end K13
open PySem PySem.W PyProof.Rows
set_option maxRecDepth 100000 in
set_option maxHeartbeats 0 in
theorem PySem.Challenge.cw_latestow_k13_whole_no_map_beyond_the_wor_holds : PySem.Challenge.rw_latestow_k13_whole_no_map_beyond_the_wor.Holds := by
  w_on; o_law; k_head; (case hw => w_witness2)
  k_fill
  refine L2.walk_of (l := PySem.Challenge.rw_latestow_k13_whole_no_map_beyond_the_wor) (n := 63) (k := 5) (x := "_law_script") (CX := fun w => L2.CX PySem.Challenge.rw_latestow_k13_whole_no_map_beyond_the_wor.prog w) (sp := fun w => K13.sp_law _) rfl (by decide) rfl ⟨rfl, by decide, by decide⟩ (fun w h Y => PySem.W.kIn_of Y) ?F (fun _ _ a ns hl _ hS => ⟨a, ns, rfl, hS, hl, fun _ => rfl⟩) (fun w _ _ _ _ h => Lt.cx_no h)
  case F =>
    intro w mg fa h KX G hmg
    refine' K13.all_mk KX G hmg ?kw1_0 ?kw1_1 ?a1 ?l1 ?c1 ?k1 ?a2 ?l2 ?c2 ?k2 ?a3 ?l3 ?c3 ?k3 ?a4 ?l4 ?c4 ?k4 ?a5 ?l5 ?c5 ?k5 ?a6 ?l6 ?c6 ?k6 ?a7 ?l7 ?c7 ?k7 ?a8 ?l8 ?c8 ?k8 ?a9 ?l9 ?c9 ?k9 ?a10 ?l10 ?c10 ?k10 ?a11 ?l11 ?c11 ?k11 ?aK_NODE ?aK_SHEET ?z_all ?z_bool ?z_dict ?z_int ?z_isinstance ?z_len ?z_list ?z_range ?z_sorted ?z_tuple
    (case a1 => k_is)
    (case l1 => k_is)
    (case a2 => k_is)
    (case l2 => k_is)
    (case a3 => k_is)
    (case l3 => k_is)
    (case a4 => k_is)
    (case l4 => k_is)
    (case a5 => k_is)
    (case l5 => k_is)
    (case a6 => k_is)
    (case l6 => k_is)
    (case a7 => k_is)
    (case l7 => k_is)
    (case a8 => k_is)
    (case l8 => k_is)
    (case a9 => k_is)
    (case l9 => k_is)
    (case a10 => k_is)
    (case l10 => k_is)
    (case a11 => k_is)
    (case l11 => k_is)
    (case kw1_0 => k_is)
    (case kw1_1 => k_is)
    (case c1 => k_is)
    (case k1 => k_is)
    (case c2 => k_is)
    (case k2 => k_is)
    (case c3 => k_is)
    (case k3 => k_is)
    (case c4 => k_is)
    (case k4 => k_is)
    (case c5 => k_is)
    (case k5 => k_is)
    (case c6 => k_is)
    (case k6 => k_is)
    (case c7 => k_is)
    (case k7 => k_is)
    (case c8 => k_is)
    (case k8 => k_is)
    (case c9 => k_is)
    (case k9 => k_is)
    (case c10 => k_is)
    (case k10 => k_is)
    (case c11 => k_is)
    (case k11 => k_is)
    (case aK_NODE => k_is)
    (case aK_SHEET => k_is)
    (case z_all => k_is)
    (case z_bool => k_is)
    (case z_dict => k_is)
    (case z_int => k_is)
    (case z_isinstance => k_is)
    (case z_len => k_is)
    (case z_list => k_is)
    (case z_range => k_is)
    (case z_sorted => k_is)
    (case z_tuple => k_is)
#print axioms PySem.Challenge.cw_latestow_k13_whole_no_map_beyond_the_wor_holds
