import PyProof.Rows.All
import Wide.All
import OpenK.AllK
import Wide.FinOn
import HandS.ForMost
import HandS.Exc
import HandS.WordsExc
import HandS.Wide
import HandS.IsInst
import HandS.Defaults
import HandS.MakeKwOnly
import HandS.Flow
import HandS.SortInts
import HandS.Conv
import HandS.SetFor
import HandS.Strs
import HandS.Walk
import HandS.Style
import HandS.OwnEq
import HandS.NamedTupSort
import KE.KCallOwn
import KE.KExcIs
import KE.KMinKey
import KE.KNestM
import HandS.Lambda
import HandS.EndTab
import HandS.SortKw
import HandS.Codes
import HandS.AnyAll
import HandS.HotCalls
import HandS.ClsMeth
import HandS.ExcInit
import HandS.ExcField
import HandS.ExcIs
import HandS.ExcCtx
import HandS.CallSlots
import HandS.TryMany
import HandS.Rev
import HandS.Defaults
import HandS.ListItems
import HandS.MakeKw
import HandS.MakeKwOnly
import KE.KDictCopyH
import HandS.RaiseMore
import HandS.TryOnly
import HandS.DictComp
import HandS.Finally
import HandS.SortRule
import HandS.Conv
import KE.KItemsList
import HandS.Zip
import HandS.RepeatKit
import HandS.ExcValue
import HandS.Small
import HandS.TupMul
import HandS.DictEq
import HandS.WordsDict
import HandS.More
import HandS.DictTup
import HandS.RaiseFrom
import HandS.FStr
import PySem.Challenge.RW_latestow_k02_a_set_of_blocks
set_option Elab.async false
set_option linter.all false
set_option maxRecDepth 100000
set_option maxHeartbeats 4000000
/-! own rules over the hand layer -/
namespace Lt
open PySem PySem.Spec PyProof.Rows L2

theorem cx_no {P : Program} {w : World} {H : Hp} {s : Shared} {e : Value} {s' : Shared} (h : L2.CX P w [] H s (fun _ _ _ => False) e s') : False := by
  obtain ⟨_, _, _, _, _, _, _, _, _, _, _, _, z⟩ := h
  exact z

section
variable {X : Cx}
/-- a constant of the module -/
theorem pe_gl {x : Str} {v : V} {pos : Pos} (hg : Gl X x) (hm : ∃ u, X.mg x = some u ∧ RelV v u) (hd : (x == ("__debug__" : Str)) = false := by decide) : PE X (.Name x pos) (tC v) := by
  obtain ⟨u, h1, h2⟩ := hm
  exact pe_glob hg h1 h2 hd
/-- xs[k], 0 ≤ k, for xs[k] op= e -/
def rGetL (K : PySem.W.Frag) : V → V → Hp → VK → Prop := fun o i H Q => ∃ (p : Addr) (xs : List V) (k : Int) (v : V), o = .ref p ∧ i = .int k ∧ SqL K H p xs ∧ 0 ≤ k ∧ xs[k.toNat]? = some v ∧ Q v H
theorem gt_list : PGet X (rGetL X.K) := by
  intro pins s σ H o i ov iv Q I ro ri hw
  obtain ⟨p, xs, k, v, rfl, rfl, hx, h0, hv, hq⟩ := hw
  cases ro
  obtain ⟨tk, rfl⟩ := ri
  obtain ⟨its, rv, pl, hz⟩ := I.list hx
  obtain ⟨u, hu, ru⟩ := rv.get hv
  have hlt : k.toNat < xs.length := (List.getElem?_eq_some_iff.mp hv).1
  have hs : (sizeLine : Nat) < 2 ^ 63 := line63
  exact PySem.wpAny_getItem_list pl.isList h0 (by omega) (by simpa using hu) ⟨v, H, I, ru, hq⟩
theorem ip_of {op : Operator} {t : TIp} (h : OpR X (inplaceOp op) t) : PIp X op t := fun pins s σ H x y v u Q I rx ry q => h pins s σ H x y v u Q I rx ry q
theorem ps_augL {o i e : Expr} {to ti te : TE} {tip : TIp} {op : Operator} {tpos pos : Pos} (ho : PE X o to) (hi : PE X i ti) (he : PE X e te) (hp : OpR X (inplaceOp op) tip)
    (ha : ∀ ov iv new, augStore i ov iv new = (do holding [new, ov, iv] (setItem ov iv new); release [new, ov, iv] []; pure .next) := by intros; rfl) : PS X (.AugAssign (.Subscript o i tpos) op e pos) (tAugS to ti te (rGetL X.K) tip rSetL) :=
  ps_augS ho hi gt_list he (ip_of hp) set_list ha
/-- a statement, then a word of the state, then what follows from the word -/
def tMid (t u : TS) : TS := fun D σ H => ∃ M : L2.St → Hp → Prop, t { D with nx := M } σ H ∧ ∀ σ1 H1, M σ1 H1 → u D σ1 H1
theorem pss_mid {st : Stmt} {rest : List Stmt} {t u : TS} (hs : PS X st t) (hr : PSs X rest u) : PSs X (st :: rest) (tMid t u) := by
  refine ⟨fun pins s σ H D I hw => ?_⟩
  obtain ⟨M, h1, h2⟩ := hw
  exact wpAny_execs_cons (thn (hs.run pins s σ H { D with nx := M } I h1) fun f s1 hf => by
    cases f
    case next =>
      obtain ⟨σ1, H1, I1, m⟩ := hf
      exact hr.run pins s1 σ1 H1 D I1 (h2 σ1 H1 m)
    all_goals exact hf)
end

/-! ### heaps: all but b as it was -/
def SameB (b : Addr) (H H' : Hp) : Prop := ∀ a o, a ≠ b → H a = some o → H' a = some o
theorem SameB.refl (b : Addr) (H : Hp) : SameB b H H := fun _ _ _ h => h
theorem SameB.trans {b : Addr} {H H1 H2 : Hp} (x : SameB b H H1) (y : SameB b H1 H2) : SameB b H H2 := fun a o n h => y a o n (x a o n h)
theorem Same.toB {b : Addr} {H H' : Hp} (x : Same H H') : SameB b H H' := fun a o _ h => x a o h
theorem SameB.upd {b : Addr} {H H' : Hp} {o : HO} (x : SameB b H H') : SameB b H (upd H' b o) := fun a u n h => by rw [upd_ne n]; exact x a u n h
theorem SameB.new {b p : Addr} {H H' : Hp} {o : HO} (x : SameB b H H') (hp : H' p = none) : SameB b H (L2.upd H' p o) := fun a u n h => by
  have h1 := x a u n h
  rw [upd_ne (ne_of_none h1 hp)]
  exact h1
theorem SameB.mut {b p : Addr} {H H' : Hp} {o : HO} (x : SameB b H H') (hp : H p = none) : SameB b H (L2.upd H' p o) := fun a u n h => by
  rw [upd_ne (ne_of_none h hp)]
  exact x a u n h
theorem SameB.free {b p : Addr} {H H' : Hp} (x : SameB b H H') (n : p ≠ b) (hp : H' p = none) : H p = none := by
  cases e : H p with
  | none => rfl
  | some o =>
    have q := x p o n e
    rw [hp] at q
    cases q
theorem same_new {H : Hp} {p : Addr} {o : HO} (h : H p = none) : Same H (upd H p o) := fun b x e => by
  rw [upd_ne (ne_of_none e h)]
  exact e
theorem Same.new {p : Addr} {H H' : Hp} {o : HO} (x : Same H H') (hp : H' p = none) : Same H (L2.upd H' p o) := fun a u h => by
  have h1 := x a u h
  rw [upd_ne (ne_of_none h1 hp)]
  exact h1
/-- an object that H does not know may be written -/
theorem Same.mut {p : Addr} {H H' : Hp} {o : HO} (x : Same H H') (hp : H p = none) : Same H (L2.upd H' p o) := fun a u h => by
  rw [upd_ne (ne_of_none h hp)]
  exact x a u h
theorem SameB.seq {K : PySem.W.Frag} {b a : Addr} {H H' : Hp} {xs : List V} (x : SameB b H H') (n : a ≠ b) (h : SqL K H a xs) : SqL K H' a xs := by
  rcases h with (h | ⟨o, h⟩) | h
  · exact .inl (.inl (x _ _ n h))
  · exact .inl (.inr ⟨o, x _ _ n h⟩)
  · exact .inr h

/-! ### the bag of draws -/
/-- the bag at b over the numbers at l -/
def Bag (H : Hp) (b l : Addr) (ns : List Int) : Prop := ∃ (i r z : Int), 0 ≤ i ∧ H b = some (.lst [.ref l, .int i, .int r, .int z]) ∧ H l = some (.lst (ns.map V.int)) ∧ ns.length ≤ 63
theorem Bag.ne {H : Hp} {b l : Addr} {ns : List Int} (h : Bag H b l ns) : l ≠ b := by
  obtain ⟨i, r, z, _, h1, h2, _⟩ := h
  intro e
  subst e
  rw [h1] at h2
  cases ns with
  | nil => cases h2
  | cons n ns => cases h2
theorem Bag.mk {H : Hp} {b l : Addr} {ns : List Int} {i r z : Int} (h0 : 0 ≤ i) (h1 : H b = some (.lst [.ref l, .int i, .int r, .int z])) (h2 : H l = some (.lst (ns.map V.int))) (h3 : ns.length ≤ 63) : Bag H b l ns := ⟨i, r, z, h0, h1, h2, h3⟩
theorem Bag.keep {H H' : Hp} {b l : Addr} {ns : List Int} (h : Bag H b l ns) (s : Same H H') : Bag H' b l ns := by
  obtain ⟨i, r, z, h0, h1, h2, h3⟩ := h
  exact ⟨i, r, z, h0, s _ _ h1, s _ _ h2, h3⟩
/-- another list may turn -/
theorem Bag.updL {H : Hp} {b l D : Addr} {ns : List Int} {xs ys : List V} (h : Bag H b l ns) (hD : H D = some (.lst xs)) (n : D ≠ b) (n2 : D ≠ l := by first | assumption | skip) : Bag (upd H D (.lst ys)) b l ns := by
  obtain ⟨i, r, z, h0, h1, h2, h3⟩ := h
  exact ⟨i, r, z, h0, by rw [upd_ne n.symm]; exact h1, by rw [upd_ne n2.symm]; exact h2, h3⟩
theorem Bag.fresh {H : Hp} {b l D : Addr} {ns : List Int} (h : Bag H b l ns) (nD : H D = none) : D ≠ b ∧ D ≠ l := by
  obtain ⟨i, r, z, h0, h1, h2, h3⟩ := h
  exact ⟨(ne_of_none h1 nD).symm, (ne_of_none h2 nD).symm⟩
theorem Bag.put {H : Hp} {b l D : Addr} {ns : List Int} {o : HO} (h : Bag H b l ns) (n : D ≠ b) (n2 : D ≠ l) : Bag (L2.upd H D o) b l ns := by
  obtain ⟨i, r, z, h0, h1, h2, h3⟩ := h
  exact ⟨i, r, z, h0, by rw [upd_ne n.symm]; exact h1, by rw [upd_ne n2.symm]; exact h2, h3⟩
/-- what is no list stays where the bag alone turns -/
theorem Bag.tup {H H' : Hp} {a b l : Addr} {ns : List Int} {u : List V} (h : Bag H b l ns) (s : SameB b H H') (e : H a = some (.tup u)) : H' a = some (.tup u) := s a _ (fun z => by
  obtain ⟨i, r, z', h0, h1, h2, h3⟩ := h
  rw [z, h1] at e
  cases e) e
theorem cut_none (xs : List V) (n : Nat) : cutV xs none (some (n : Int)) = xs.take n := by
  unfold cutV
  rw [HT.sIx_none, show HT.sIx xs.length xs.length (some (n : Int)) = min n xs.length from HT.sIx_nat _ _ n, List.drop_zero, Nat.sub_zero]
  by_cases h : n ≤ xs.length
  · rw [Nat.min_eq_left h]
  · rw [Nat.min_eq_right (by omega), List.take_length, List.take_of_length_le (by omega)]
theorem sz {n : Nat} (h : n ≤ 1000) : n ≤ sizeLine := Nat.le_trans h (by decide)
theorem pull_pick {xs : List V} {v n : Int} (lo hi : Int) (h0 : 0 ≤ v) (h1 : v < n) (hn : n = (xs.length : Int)) (hP : ∀ x ∈ xs, ∃ t, x = V.int t ∧ lo ≤ t ∧ t ≤ hi) : ∃ t, atI xs v = some (.int t) ∧ lo ≤ t ∧ t ≤ hi := by
  have hl : v.toNat < xs.length := by omega
  have e : (v.toNat : Int) = v := Int.toNat_of_nonneg h0
  obtain ⟨t, et, h2⟩ := hP _ (List.getElem_mem hl)
  refine ⟨t, ?_, h2⟩
  have q := atI_nat (xs := xs) (List.getElem?_eq_getElem hl)
  rw [e, et] at q
  exact q
theorem atI_pick {xs : List V} {v : Int} (P : V → Prop) (h0 : 0 ≤ v) (h1 : v < (xs.length : Int)) (hP : ∀ x ∈ xs, P x) : ∃ x, atI xs v = some x ∧ P x := by
  have hl : v.toNat < xs.length := by omega
  have e : (v.toNat : Int) = v := Int.toNat_of_nonneg h0
  refine ⟨xs[v.toNat], ?_, hP _ (List.getElem_mem hl)⟩
  have q := atI_nat (xs := xs) (List.getElem?_eq_getElem hl)
  rw [e] at q
  exact q
end Lt
namespace Lt
open PySem PySem.Spec PyProof.Rows L2
/-! the readings, one combinator a step -/
section
variable {K : PySem.W.Frag} {D : Ends} {σ : L2.St} {H : Hp} {Q : VK} {ta tb te tx : TE} {t u : TS} {c : TT} {i j : Int} {v x y : V} {p a : Addr} {xs : List V} {E : XK}
theorem k_seq (h : t { D with nx := u D } σ H) : tSeq t u D σ H := h
theorem k_next (h : D.nx σ H) : tNext D σ H := h
theorem k_ifS (h : c σ H fun b H1 => if b = true then t D σ H1 else u D σ H1) : tIfS c t u D σ H := h
theorem k_ret (h : te σ H D.rt) : tRet te D σ H := h
theorem k_drop (h : te σ H fun _ H1 => D.nx σ H1) : tDrop te D σ H := h
theorem k_asg {g : TG} (h : te σ H fun x H1 => g x σ H1 D.nx) : tAsg te g D σ H := h
theorem k_gName {n : Nat} {Qs : L2.St → Hp → Prop} (h : Qs (σ.set n (some v)) H) : gName n v σ H Qs := h
theorem k_gSub {to ti : TE} {tt : TSet} {Qs : L2.St → Hp → Prop} (h : to σ H fun o H1 => ti σ H1 fun i H2 => tt o i v H2 fun H3 => Qs σ H3) : gSub to ti tt v σ H Qs := h
theorem k_setL {xs : List V} {k : Int} {n : Nat} {Qh : Hp → Prop} (h1 : H p = some (.lst xs)) (h2 : ixN xs.length k = some n) (h : Qh (upd H p (.lst (xs.set n v)))) : rSetL (.ref p) (.int k) v H Qh := ⟨p, xs, k, n, rfl, rfl, h1, h2, h⟩
theorem k_var {n : Nat} (h1 : σ[n]? = some (some v)) (h : Q v H) : tVar n σ H Q := ⟨v, h1, h⟩
theorem k_c (h : Q v H) : tC v σ H Q := h
theorem k_op {r : R2} (h : ta σ H fun x H1 => tb σ H1 fun y H2 => r x y H2 Q) : tOp r ta tb σ H Q := h
theorem k_un {r : V → Hp → VK → Prop} (h : ta σ H fun x H1 => r x H1 Q) : tUn r ta σ H Q := h
theorem k_I0 {g : Int → Int → V} (h : Q (g i j) H) : rI0 g (.int i) (.int j) H Q := ⟨i, j, rfl, rfl, h⟩
theorem k_I {C : Int → Int → Prop} {g : Int → Int → V} (hc : C i j) (h : Q (g i j) H) : rI C g (.int i) (.int j) H Q := ⟨i, j, rfl, rfl, hc, h⟩
theorem k_U {g : Int → V} (h : Q (g i) H) : rU g (.int i) H Q := ⟨i, rfl, h⟩
theorem k_ixL (h1 : SqL K H p xs) (h2 : atI xs i = some v) (h : Q v H) : rIxL K (.ref p) (.int i) H Q := ⟨p, xs, i, v, rfl, rfl, h1, h2, h⟩
theorem k_ixT (h1 : SqT K H p xs) (h2 : atI xs i = some v) (h : Q v H) : rIxT K (.ref p) (.int i) H Q := ⟨p, xs, i, v, rfl, rfl, h1, h2, h⟩
theorem k_getL {k : Int} (h1 : SqL K H p xs) (h0 : 0 ≤ k) (h2 : xs[k.toNat]? = some v) (h : Q v H) : rGetL K (.ref p) (.int k) H Q := ⟨p, xs, k, v, rfl, rfl, h1, h0, h2, h⟩
theorem k_tst {Qb : Bool → Hp → Prop} (h : te σ H fun x H' => ∃ k, x = .bl k ∧ Qb k H') : tTest te σ H Qb := h
theorem k_tB {Qb : Bool → Hp → Prop} (h : te σ H fun x H' => ∃ k, x = .bl k ∧ Qb k H') : tB te σ H Qb := h
theorem k_bl {b : Bool} {Qb : Bool → Hp → Prop} (h : Qb b H) : ∃ k, V.bl b = .bl k ∧ Qb k H := ⟨b, rfl, h⟩
theorem k_cb {r : List V → Hp → VK → Prop} {ts : TA} (h : ts σ H fun vs H1 => r vs H1 Q) : tCB r ts σ H Q := h
theorem k_cons {ts : TA} {Ql : List V → Hp → Prop} (h : te σ H fun x H1 => ts σ H1 fun xs H2 => Ql (x :: xs) H2) : tCons te ts σ H Ql := h
theorem k_nil {Ql : List V → Hp → Prop} (h : Ql [] H) : tNil σ H Ql := h
theorem k_call {sp : Sp} {dvs : List V} {ts : TA} (h : ts σ H fun vs H1 => sp (vs ++ dvs) H1 Q E) : tCall sp dvs E ts σ H Q := h
theorem k_callN {n m : Nat} {sp : Sp} {gV : List V → List V → List V} {t1 t2 : TA} (h : t1 σ H fun vs H1 => t2 σ H1 fun zs H2 => vs.length = n ∧ zs.length = m ∧ sp (gV vs zs) H2 Q E) : tCallN n m sp gV E t1 t2 σ H Q := h
theorem k_isi {b : Bool} {n m : String} (ht : TyX K H x (.type m)) (hk : kitB m n = some b) (h : Q (.bl b) H) : rIsi K [x, .ty n] H Q := ⟨x, .ty n, _, _, b, rfl, .ty n, ht, kit_ty hk, h⟩
theorem isi_ii : kitB "int" "int" = some true := by decide +kernel
theorem isi_ib : kitB "int" "bool" = some false := by decide +kernel
theorem isi_bi : kitB "bool" "int" = some true := by decide +kernel
theorem isi_bb : kitB "bool" "bool" = some true := by decide +kernel
theorem isi_is : kitB "int" "str" = some false := by decide +kernel
theorem isi_si : kitB "str" "int" = some false := by decide +kernel
theorem isi_ss : kitB "str" "str" = some true := by decide +kernel
theorem isi_ll : kitB "list" "list" = some true := by decide +kernel
theorem isi_tt : kitB "tuple" "tuple" = some true := by decide +kernel
theorem isi_lt : kitB "list" "tuple" = some false := by decide +kernel
theorem isi_tl : kitB "tuple" "list" = some false := by decide +kernel
theorem isi_ni : kitB "NoneType" "int" = some false := by decide +kernel
theorem isi_dd : kitB "dict" "dict" = some true := by decide +kernel
theorem k_lst {ts : TA} (h : ts σ H fun xs H1 => xs.length ≤ sizeLine ∧ ∀ p, H1 p = none → Q (.ref p) (upd H1 p (.lst xs))) : tLst ts σ H Q := h
theorem k_tup {ts : TA} (h : ts σ H fun xs H1 => xs.length ≤ sizeLine ∧ ∀ p, H1 p = none → Q (.ref p) (upd H1 p (.tup xs))) : tTup ts σ H Q := h
theorem k_and {tt uu : TT} {Qb : Bool → Hp → Prop} (h : tt σ H fun c H1 => if c = true then uu σ H1 Qb else Qb false H1) : tAnd tt uu σ H Qb := h
theorem k_or {tt uu : TT} {Qb : Bool → Hp → Prop} (h : tt σ H fun c H1 => if c = true then Qb true H1 else uu σ H1 Qb) : tOr tt uu σ H Qb := h
theorem k_not {tt : TT} {Qb : Bool → Hp → Prop} (h : tt σ H fun c H1 => Qb (!c) H1) : tNot tt σ H Qb := h
theorem k_andV (h : ta σ H fun x H1 => ∃ c, x = .bl c ∧ if c = true then tb σ H1 Q else Q (.bl false) H1) : tAndV ta tb σ H Q := h
theorem k_orV (h : ta σ H fun x H1 => ∃ c, x = .bl c ∧ if c = true then Q (.bl true) H1 else tb σ H1 Q) : tOrV ta tb σ H Q := h
theorem k_notV (h : ta σ H fun x H1 => ∃ c, x = .bl c ∧ Q (.bl (!c)) H1) : tNotV ta σ H Q := h
theorem k_ifE {tt : TT} (h : tt σ H fun c H1 => if c = true then ta σ H1 Q else tb σ H1 Q) : tIf tt ta tb σ H Q := h
theorem k_eqV (hs : scal x y = true) (h : Q (.bl (decide (x = y))) H) : rEq x y H Q := ⟨hs, h⟩
theorem k_neV (hs : scal x y = true) (h : Q (.bl (!decide (x = y))) H) : rNe x y H Q := ⟨hs, h⟩
theorem k_augS {to ti te : TE} {tget : V → V → Hp → VK → Prop} {tip : TIp} {tset : TSet} (h : to σ H fun o H1 => ti σ H1 fun i H2 => tget o i H2 fun x H3 => te σ H3 fun y H4 => tip x y H4 fun z H5 => tset o i z H5 fun H6 => D.nx σ H6) : tAugS to ti te tget tip tset D σ H := h
theorem k_aug {n : Nat} {ti : TIp} (h1 : σ[n]? = some (some x)) (h : te σ H fun y H1 => ti x y H1 fun z H2 => D.nx (σ.set n (some z)) H2) : tAug n te ti D σ H := ⟨x, h1, h⟩
theorem k_ipI {f : Int → Int → Int} (h : Q (.int (f i j)) H) : ipI f (.int i) (.int j) H Q := ⟨i, j, rfl, rfl, h⟩
theorem k_sl {r : V → Option Int → Option Int → Hp → VK → Prop} {tl th : TO} (h : te σ H fun x H1 => tl σ H1 fun lo H2 => th σ H2 fun hi H3 => r x lo hi H3 Q) : tSl r te tl th σ H Q := h
theorem k_noPart {Qo : Option Int → Hp → Prop} (h : Qo none H) : tNoPart σ H Qo := h
theorem k_part {Qo : Option Int → Hp → Prop} (h : te σ H fun x H1 => ∃ i, x = .int i ∧ Qo (some i) H1) : tPart te σ H Qo := h
theorem k_int {Qi : Int → Hp → Prop} (h : Qi i H) : ∃ k, V.int i = .int k ∧ Qi k H := ⟨i, rfl, h⟩
theorem k_slL {lo hi : Option Int} (h1 : SqL K H p xs) (h : ∀ q, H q = none → Q (.ref q) (upd H q (.lst (cutV xs lo hi)))) : rSlL K (.ref p) lo hi H Q := ⟨p, xs, rfl, h1, h⟩
theorem k_iteD {q A B : Prop} [Decidable q] (h1 : q → A) (h2 : ¬ q → B) : if decide q = true then A else B := by
  by_cases h : q
  · rw [decide_eq_true h]
    exact h1 h
  · rw [decide_eq_false h]
    exact h2 h
theorem k_iteN {q A B : Prop} [Decidable q] (h1 : ¬ q → A) (h2 : q → B) : if (!decide q) = true then A else B := by
  by_cases h : q
  · rw [decide_eq_true h]
    exact h2 h
  · rw [decide_eq_false h]
    exact h1 h
theorem k_iteB {b : Bool} {A B : Prop} (h1 : b = true → A) (h2 : b = false → B) : if b = true then A else B := by
  cases b
  · exact h2 rfl
  · exact h1 rfl
theorem k_ite0 {A B : Prop} (h : B) : if false = true then A else B := h
theorem k_ite1 {A B : Prop} (h : A) : if true = true then A else B := h
theorem k_iteN1 {A B : Prop} (h : B) : if (!true) = true then A else B := h
theorem k_iteN0 {A B : Prop} (h : A) : if (!false) = true then A else B := h
theorem k_iteT {b : Bool} {A B : Prop} (e : b = true) (h : A) : if b = true then A else B := by
  rw [if_pos e]
  exact h
theorem k_iteF {b : Bool} {A B : Prop} (e : b = false) (h : B) : if b = true then A else B := by
  rw [e]
  exact h
theorem k_iteD1 {q A B : Prop} [Decidable q] (e : q) (h : A) : if decide q = true then A else B := k_iteT (decide_eq_true e) h
theorem k_iteD2 {q A B : Prop} [Decidable q] (e : ¬ q) (h : B) : if decide q = true then A else B := k_iteF (decide_eq_false e) h
theorem k_bm {T : String} {r : V → List V → Hp → VK → Prop} {ts : TA} (h : te σ H fun x H1 => tyV K T x H1 ∧ ts σ H1 fun xs H2 => r x xs H2 Q) : tBM K T r te ts σ H Q := h
theorem k_bm0 {T : String} {r : V → List V → Hp → VK → Prop} (h : te σ H fun x H1 => tyV K T x H1 ∧ r x [] H1 Q) : tBM0 K T r te σ H Q := h
theorem k_tyL {A : Prop} (h1 : H p = some (.lst xs)) (h : A) : tyV K "list" (.ref p) H ∧ A := ⟨.inl ⟨rfl, _, SqL.of h1⟩, h⟩
theorem k_app (h1 : H p = some (.lst xs)) (h2 : xs.length ≤ 1000) (h : Q .non (upd H p (.lst (xs ++ [v])))) : rAppend (.ref p) [v] H Q := ⟨p, xs, v, rfl, rfl, h1, small1000 h2, h⟩
theorem k_lstRg {tr : L2.St → Hp → (Int → Int → Hp → Prop) → Prop} (h : tr σ H fun a b H1 => RgOk a b ∧ ∀ q, H1 q = none → Q (.ref q) (upd H1 q (.lst (rgV a b)))) : tLstRg tr σ H Q := h
theorem k_rg1 {Qr : Int → Int → Hp → Prop} (h : ta σ H fun x H1 => ∃ n, x = .int n ∧ Qr 0 n H1) : tRg1 ta σ H Qr := h
theorem k_rg2 {Qr : Int → Int → Hp → Prop} (h : ta σ H fun x H1 => tb σ H1 fun y H2 => ∃ i j, x = .int i ∧ y = .int j ∧ Qr i j H2) : tRg2 ta tb σ H Qr := h
theorem k_cat {xs ys : List V} {q : Addr} (h1 : H p = some (.lst xs)) (h2 : H q = some (.lst ys)) (h3 : xs.length + ys.length ≤ 100000) (h : ∀ r, H r = none → Q (.ref r) (upd H r (.lst (xs ++ ys)))) : rCat (.ref p) (.ref q) H Q :=
  ⟨p, q, xs, ys, rfl, rfl, h1, h2, Nat.le_trans h3 (by decide), h⟩
theorem k_iteNN {q A B : Prop} [Decidable q] (e : ¬ q) (h : A) : if (!decide q) = true then A else B := k_iteT (by rw [decide_eq_false e]; rfl) h
theorem k_iteNY {q A B : Prop} [Decidable q] (e : q) (h : B) : if (!decide q) = true then A else B := k_iteF (by rw [decide_eq_true e]; rfl) h
theorem k_rfl {x : V} {A : Prop} (h : A) : x = x ∧ A := ⟨rfl, h⟩
theorem k_iteE {A B : Prop} {x : V} (h : A) : if decide (x = x) = true then A else B := k_iteT (decide_eq_true rfl) h
theorem k_iteNE {A B : Prop} {x : V} (h : B) : if (!decide (x = x)) = true then A else B := k_iteF (by rw [decide_eq_true rfl]; rfl) h
theorem k_for {wi : TI} {g : TG} {tb : TS} (h : wi σ H fun J H1 => ∃ W : Nat → Nat → L2.St → Hp → Prop, (∃ m, W 0 m σ H1) ∧ ∀ i m σ H, W i m σ H →
    (J.stop i H ∧ D.nx σ H) ∨ (J.go i H ∧ ∃ N : L2.St → Hp → Prop, (∀ σ' H', N σ' H' → ∃ m', m' < m ∧ W (i + 1) m' σ' H') ∧ ∀ x H', J.yld i H x H' → g x σ H' fun σ2 H2 => tb { D with nx := N, ct := N, bk := D.nx } σ2 H2)) : tFor wi g tb D σ H := h
theorem k_iL {R : It → Hp → Prop} (h : te σ H fun x H1 => ∃ a, x = .ref a ∧ (∃ xs, SqL K H1 a xs) ∧ R (Itl K a) H1) : iList K te σ H R := h
theorem k_iT {R : It → Hp → Prop} (h : te σ H fun x H1 => ∃ a, x = .ref a ∧ (∃ xs, SqT K H1 a xs) ∧ R (Itt K a) H1) : iTup K te σ H R := h
theorem k_iR1 {ts : TA} {R : It → Hp → Prop} (h : ts σ H fun vs H1 => ∃ j : Int, vs = [.int j] ∧ -(2 ^ 62) ≤ j ∧ j < 2 ^ 62 ∧ R (Itr 0 j.toNat) H1) : iRng1 ts σ H R := h
theorem k_iR2 {ts : TA} {R : It → Hp → Prop} (h : ts σ H fun vs H1 => ∃ i j : Int, vs = [.int i, .int j] ∧ (-(2 ^ 62) ≤ i ∧ i < 2 ^ 62 ∧ -(2 ^ 62) ≤ j ∧ j < 2 ^ 62) ∧ R (Itr i (j - i).toNat) H1) : iRng2 ts σ H R := h
/-- a for over a list: what is left behind the steps -/
theorem k_inL {g : TG} {tb : TS} {Nx : L2.St → Hp → Prop} {R : VK} (Pv : Nat → L2.St → Hp → Prop) (hq : SqL K H a xs) (h0 : Pv 0 σ H) (hl : ∀ i σ H, i ≤ xs.length → Pv i σ H → SqL K H a xs)
    (hs : ∀ i x σ H, xs[i]? = some x → Pv i σ H → g x σ H fun σ2 H2 => tb { nx := Pv (i + 1), rt := R, bk := Nx, ct := Pv (i + 1) } σ2 H2) (hd : ∀ σ H, Pv xs.length σ H → Nx σ H) :
    (∃ xs, SqL K H a xs) ∧ ∃ W : Nat → Nat → L2.St → Hp → Prop, (∃ m, W 0 m σ H) ∧ ∀ i m σ H, W i m σ H →
      ((Itl K a).stop i H ∧ Nx σ H) ∨ ((Itl K a).go i H ∧ ∃ N : L2.St → Hp → Prop, (∀ σ' H', N σ' H' → ∃ m', m' < m ∧ W (i + 1) m' σ' H') ∧ ∀ x H', (Itl K a).yld i H x H' → g x σ H' fun σ2 H2 => tb { nx := N, rt := R, bk := Nx, ct := N } σ2 H2) :=
  ⟨⟨xs, hq⟩, for_list (D := { nx := Nx, rt := R }) Pv h0 hl hs hd⟩
theorem k_inT {g : TG} {tb : TS} {Nx : L2.St → Hp → Prop} {R : VK} (Pv : Nat → L2.St → Hp → Prop) (hq : SqT K H a xs) (h0 : Pv 0 σ H) (hl : ∀ i σ H, i ≤ xs.length → Pv i σ H → SqT K H a xs)
    (hs : ∀ i x σ H, xs[i]? = some x → Pv i σ H → g x σ H fun σ2 H2 => tb { nx := Pv (i + 1), rt := R, bk := Nx, ct := Pv (i + 1) } σ2 H2) (hd : ∀ σ H, Pv xs.length σ H → Nx σ H) :
    (∃ xs, SqT K H a xs) ∧ ∃ W : Nat → Nat → L2.St → Hp → Prop, (∃ m, W 0 m σ H) ∧ ∀ i m σ H, W i m σ H →
      ((Itt K a).stop i H ∧ Nx σ H) ∨ ((Itt K a).go i H ∧ ∃ N : L2.St → Hp → Prop, (∀ σ' H', N σ' H' → ∃ m', m' < m ∧ W (i + 1) m' σ' H') ∧ ∀ x H', (Itt K a).yld i H x H' → g x σ H' fun σ2 H2 => tb { nx := N, rt := R, bk := Nx, ct := N } σ2 H2) :=
  ⟨⟨xs, hq⟩, for_tup (D := { nx := Nx, rt := R }) Pv h0 hl hs hd⟩
/-- range(n), range(lo, hi) -/
theorem k_inR {lo : Int} {n : Nat} {g : TG} {tb : TS} {Nx : L2.St → Hp → Prop} {R : VK} (Pv : Nat → L2.St → Hp → Prop) (h0 : Pv 0 σ H)
    (hs : ∀ i σ H, i < n → Pv i σ H → g (.int (lo + i)) σ H fun σ2 H2 => tb { nx := Pv (i + 1), rt := R, bk := Nx, ct := Pv (i + 1) } σ2 H2) (hd : ∀ σ H, Pv n σ H → Nx σ H) :
    ∃ W : Nat → Nat → L2.St → Hp → Prop, (∃ m, W 0 m σ H) ∧ ∀ i m σ H, W i m σ H →
      ((Itr lo n).stop i H ∧ Nx σ H) ∨ ((Itr lo n).go i H ∧ ∃ N : L2.St → Hp → Prop, (∀ σ' H', N σ' H' → ∃ m', m' < m ∧ W (i + 1) m' σ' H') ∧ ∀ x H', (Itr lo n).yld i H x H' → g x σ H' fun σ2 H2 => tb { nx := N, rt := R, bk := Nx, ct := N } σ2 H2) :=
  for_range (D := { nx := Nx, rt := R }) Pv h0 hs hd
theorem k_lenL {B : Addr → List V → Prop} (h1 : SqL K H a xs) (h : B a xs) : ∃ p ys, [V.ref a] = [V.ref p] ∧ (SqL K H p ys ∨ SqT K H p ys) ∧ B p ys := ⟨a, xs, rfl, .inl h1, h⟩
theorem k_lenT {B : Addr → List V → Prop} (h1 : SqT K H a xs) (h : B a xs) : ∃ p ys, [V.ref a] = [V.ref p] ∧ (SqL K H p ys ∨ SqT K H p ys) ∧ B p ys := ⟨a, xs, rfl, .inr h1, h⟩
theorem k_chain {r r' : R2} {tc : TE} (h : ta σ H fun x H1 => tb σ H1 fun y H2 => r x y H2 fun z H3 => ∃ k, z = .bl k ∧ (if k = true then tc σ H3 fun u H4 => r' y u H4 Q else Q (.bl false) H3)) : tChain r r' ta tb tc σ H Q := h
theorem k_expr {sp : Sp} (h : sp [] H Q E) : sp [] H Q E := h
theorem k_tup1 {K : PySem.W.Frag} {n : Nat} {ts : TGs} {Qs : L2.St → Hp → Prop} (h1 : SqT K H a xs) (h2 : xs.length = n) (h : ts xs σ H Qs) : gTup K n ts (.ref a) σ H Qs := ⟨a, xs, rfl, h1, h2, h⟩
theorem k_gCons {g : TG} {gs : TGs} {r : List V} {Qs : L2.St → Hp → Prop} (h : g v σ H fun σ' H' => gs r σ' H' Qs) : gCons g gs (v :: r) σ H Qs := ⟨v, r, rfl, h⟩
theorem k_gNil {Qs : L2.St → Hp → Prop} (h : Qs σ H) : gNil [] σ H Qs := ⟨rfl, h⟩
theorem k_fld {C dx : Addr} {f : Str} {fs : List (Str × V)} (h : ta σ H fun x H1 => ∃ a C dx fs v, x = .ref a ∧ H1 a = some (.ins C dx fs) ∧ Cls K C ∧ NoAttr K C f ∧ fs.lookup f = some v ∧ Q v H1) : tFld K ta f σ H Q := h
theorem Same.get {H H' : Hp} {o : HO} (s : Same H H') (h : H a = some o) : H' a = some o := s _ _ h
theorem SameB.get {b : Addr} {H H' : Hp} {o : HO} (s : SameB b H H') (n : a ≠ b) (h : H a = some o) : H' a = some o := s _ _ n h
theorem ne_upd {b : Addr} {o u : HO} (h : a ≠ b) (e : H a = some u) : upd H b o a = some u := by
  rw [upd_ne h]
  exact e
end
end Lt
/-! list comprehensions -/
namespace Lt
open PySem PySem.Spec PyProof.Rows L2
/-- behind i turns the list at D holds acc -/
def LcP (Pv : Addr → Nat → List V → Hp → Prop) (D : Addr) (i : Nat) (H : Hp) : Prop := ∃ acc, H D = some (.lst acc) ∧ acc.length ≤ i ∧ Pv D i acc H
section
variable {K : PySem.W.Frag} {σ : L2.St} {H : Hp} {Q : VK} {te : TE} {tt : TT} {g : TG} {vs : List Nat} {a : Addr} {xs : List V} {wi : TI}
theorem lc_end {Pv : Addr → Nat → List V → Hp → Prop} {D : Addr} {i : Nat} {y : V} {acc : List V} (h1 : H D = some (.lst acc)) (h2 : acc.length ≤ i) (hi : i < 1000) (h3 : Pv D (i + 1) (acc ++ [y]) (upd H D (.lst (acc ++ [y])))) :
    ∃ acc, H D = some (.lst acc) ∧ acc.length < sizeLine ∧ LcP Pv D (i + 1) (upd H D (.lst (acc ++ [y]))) :=
  ⟨acc, h1, small1000 (by omega), acc ++ [y], upd_same, (by rw [List.length_append, List.length_singleton]; omega), h3⟩
theorem lc_skip {Pv : Addr → Nat → List V → Hp → Prop} {D : Addr} {i : Nat} {acc : List V} (h1 : H D = some (.lst acc)) (h2 : acc.length ≤ i) (h3 : Pv D (i + 1) acc H) : LcP Pv D (i + 1) H := ⟨acc, h1, by omega, h3⟩
theorem k_lc (h : wi σ H fun J H1 => ∀ D, H1 D = none → ∃ W : Nat → Nat → Hp → Prop, (∃ m, W 0 m (upd H1 D (.lst []))) ∧ ∀ i m H, W i m H →
    (J.stop i H ∧ Q (.ref D) H) ∨ (J.go i H ∧ ∃ Nx : Hp → Prop, (∀ H', Nx H' → ∃ m', m' < m ∧ W (i + 1) m' H') ∧ ∀ x H', J.yld i H x H' → g x (wipe σ vs) H' fun σ2 H2 => wipe σ2 vs = wipe σ vs ∧ tt σ2 H2 fun b H3 =>
      if b = true then te σ2 H3 fun y H4 => ∃ acc, H4 D = some (.lst acc) ∧ acc.length < sizeLine ∧ Nx (upd H4 D (.lst (acc ++ [y]))) else Nx H3)) : tLc wi g tt te vs σ H Q := h
theorem k_wipe {σ1 σ2 : L2.St} {ws : List Nat} {A : Prop} (e : wipe σ1 ws = wipe σ2 ws) (h : A) : wipe σ1 ws = wipe σ2 ws ∧ A := ⟨e, h⟩
theorem k_allT {n : Nat} (hx : H a = some (.lst (List.replicate n (V.bl true)))) (h : Q (.bl true) H) : rAll K [.ref a] H Q := by
  refine ⟨a, List.replicate n true, rfl, SqL.of (by rw [hx, List.map_replicate]), ?_⟩
  rw [show (List.replicate n true).all id = true by simp]
  exact h
theorem k_anyF {n : Nat} (hx : H a = some (.lst (List.replicate n (V.bl false)))) (h : Q (.bl false) H) : rAny K [.ref a] H Q := by
  refine ⟨a, List.replicate n false, rfl, SqL.of (by rw [hx, List.map_replicate]), ?_⟩
  rw [show (List.replicate n false).any id = false by simp]
  exact h
theorem int_at {ks : List Int} {i : Nat} {x : V} (h : (ks.map V.int)[i]? = some x) : ∃ k, x = V.int k ∧ ks[i]? = some k := by
  rw [List.getElem?_map] at h
  cases e : ks[i]? with
  | none =>
    rw [e] at h
    cases h
  | some k =>
    rw [e] at h
    exact ⟨k, (Option.some.inj h).symm, rfl⟩
theorem k_yes {Qb : Bool → Hp → Prop} (h : Qb true H) : tYes σ H Qb := h
theorem k_lcL {Qd : Addr → Hp → Prop} (Pv : Addr → Nat → List V → Hp → Prop) (hq : SqL K H a xs) (h0 : ∀ D, H D = none → Pv D 0 [] (upd H D (.lst []))) (hl : ∀ D i acc H', H D = none → H' D = some (.lst acc) → Pv D i acc H' → SqL K H' a xs)
    (hs : ∀ D i x acc H', H D = none → i < xs.length → xs[i]? = some x → H' D = some (.lst acc) → acc.length ≤ i → Pv D i acc H' → g x (wipe σ vs) H' fun σ2 H2 => wipe σ2 vs = wipe σ vs ∧ tt σ2 H2 fun b H3 =>
      if b = true then te σ2 H3 fun y H4 => ∃ acc, H4 D = some (.lst acc) ∧ acc.length < sizeLine ∧ LcP Pv D (i + 1) (upd H4 D (.lst (acc ++ [y]))) else LcP Pv D (i + 1) H3)
    (h : ∀ D acc H', H D = none → H' D = some (.lst acc) → acc.length ≤ xs.length → Pv D xs.length acc H' → Qd D H') :
    (∃ xs, SqL K H a xs) ∧ ∀ D, H D = none → ∃ W : Nat → Nat → Hp → Prop, (∃ m, W 0 m (upd H D (.lst []))) ∧ ∀ i m H, W i m H →
      ((Itl K a).stop i H ∧ Qd D H) ∨ ((Itl K a).go i H ∧ ∃ Nx : Hp → Prop, (∀ H', Nx H' → ∃ m', m' < m ∧ W (i + 1) m' H') ∧ ∀ x H', (Itl K a).yld i H x H' → g x (wipe σ vs) H' fun σ2 H2 => wipe σ2 vs = wipe σ vs ∧ tt σ2 H2 fun b H3 =>
        if b = true then te σ2 H3 fun y H4 => ∃ acc, H4 D = some (.lst acc) ∧ acc.length < sizeLine ∧ Nx (upd H4 D (.lst (acc ++ [y]))) else Nx H3) := by
  refine ⟨⟨xs, hq⟩, fun D nD => lc_list (xs := xs) (LcP Pv D) ⟨[], upd_same, Nat.le_refl _, h0 D nD⟩ (fun i H' _ hp => ?_) (fun i x H' hx hp => ?_) fun H' hp => ?_⟩
  · obtain ⟨acc, e1, _, e3⟩ := hp
    exact hl D i acc H' nD e1 e3
  · obtain ⟨acc, e1, e2, e3⟩ := hp
    exact hs D i x acc H' nD (List.getElem?_eq_some_iff.mp hx).1 hx e1 e2 e3
  · obtain ⟨acc, e1, e2, e3⟩ := hp
    exact h D acc H' nD e1 e2 e3
theorem k_lcT {Qd : Addr → Hp → Prop} (Pv : Addr → Nat → List V → Hp → Prop) (hq : SqT K H a xs) (h0 : ∀ D, H D = none → Pv D 0 [] (upd H D (.lst []))) (hl : ∀ D i acc H', H D = none → H' D = some (.lst acc) → Pv D i acc H' → SqT K H' a xs)
    (hs : ∀ D i x acc H', H D = none → i < xs.length → xs[i]? = some x → H' D = some (.lst acc) → acc.length ≤ i → Pv D i acc H' → g x (wipe σ vs) H' fun σ2 H2 => wipe σ2 vs = wipe σ vs ∧ tt σ2 H2 fun b H3 =>
      if b = true then te σ2 H3 fun y H4 => ∃ acc, H4 D = some (.lst acc) ∧ acc.length < sizeLine ∧ LcP Pv D (i + 1) (upd H4 D (.lst (acc ++ [y]))) else LcP Pv D (i + 1) H3)
    (h : ∀ D acc H', H D = none → H' D = some (.lst acc) → acc.length ≤ xs.length → Pv D xs.length acc H' → Qd D H') :
    (∃ xs, SqT K H a xs) ∧ ∀ D, H D = none → ∃ W : Nat → Nat → Hp → Prop, (∃ m, W 0 m (upd H D (.lst []))) ∧ ∀ i m H, W i m H →
      ((Itt K a).stop i H ∧ Qd D H) ∨ ((Itt K a).go i H ∧ ∃ Nx : Hp → Prop, (∀ H', Nx H' → ∃ m', m' < m ∧ W (i + 1) m' H') ∧ ∀ x H', (Itt K a).yld i H x H' → g x (wipe σ vs) H' fun σ2 H2 => wipe σ2 vs = wipe σ vs ∧ tt σ2 H2 fun b H3 =>
        if b = true then te σ2 H3 fun y H4 => ∃ acc, H4 D = some (.lst acc) ∧ acc.length < sizeLine ∧ Nx (upd H4 D (.lst (acc ++ [y]))) else Nx H3) := by
  refine ⟨⟨xs, hq⟩, fun D nD => lc_tup (xs := xs) (LcP Pv D) ⟨[], upd_same, Nat.le_refl _, h0 D nD⟩ (fun i H' _ hp => ?_) (fun i x H' hx hp => ?_) fun H' hp => ?_⟩
  · obtain ⟨acc, e1, _, e3⟩ := hp
    exact hl D i acc H' nD e1 e3
  · obtain ⟨acc, e1, e2, e3⟩ := hp
    exact hs D i x acc H' nD (List.getElem?_eq_some_iff.mp hx).1 hx e1 e2 e3
  · obtain ⟨acc, e1, e2, e3⟩ := hp
    exact h D acc H' nD e1 e2 e3
theorem k_lcR {Qd : Addr → Hp → Prop} {lo : Int} {n : Nat} (Pv : Addr → Nat → List V → Hp → Prop) (h0 : ∀ D, H D = none → Pv D 0 [] (upd H D (.lst [])))
    (hs : ∀ D i acc H', H D = none → i < n → H' D = some (.lst acc) → acc.length ≤ i → Pv D i acc H' → g (.int (lo + i)) (wipe σ vs) H' fun σ2 H2 => wipe σ2 vs = wipe σ vs ∧ tt σ2 H2 fun b H3 =>
      if b = true then te σ2 H3 fun y H4 => ∃ acc, H4 D = some (.lst acc) ∧ acc.length < sizeLine ∧ LcP Pv D (i + 1) (upd H4 D (.lst (acc ++ [y]))) else LcP Pv D (i + 1) H3)
    (h : ∀ D acc H', H D = none → H' D = some (.lst acc) → acc.length ≤ n → Pv D n acc H' → Qd D H') :
    ∀ D, H D = none → ∃ W : Nat → Nat → Hp → Prop, (∃ m, W 0 m (upd H D (.lst []))) ∧ ∀ i m H, W i m H →
      ((Itr lo n).stop i H ∧ Qd D H) ∨ ((Itr lo n).go i H ∧ ∃ Nx : Hp → Prop, (∀ H', Nx H' → ∃ m', m' < m ∧ W (i + 1) m' H') ∧ ∀ x H', (Itr lo n).yld i H x H' → g x (wipe σ vs) H' fun σ2 H2 => wipe σ2 vs = wipe σ vs ∧ tt σ2 H2 fun b H3 =>
        if b = true then te σ2 H3 fun y H4 => ∃ acc, H4 D = some (.lst acc) ∧ acc.length < sizeLine ∧ Nx (upd H4 D (.lst (acc ++ [y]))) else Nx H3) := by
  intro D nD
  refine lc_range (LcP Pv D) ⟨[], upd_same, Nat.le_refl _, h0 D nD⟩ (fun i H' hi hp => ?_) fun H' hp => ?_
  · obtain ⟨acc, e1, e2, e3⟩ := hp
    exact hs D i acc H' nD hi e1 e2 e3
  · obtain ⟨acc, e1, e2, e3⟩ := hp
    exact h D acc H' nD e1 e2 e3
end
end Lt
/-! set(xs) of a list of whole numbers, sorted(set(..)) -/
namespace Lt
open PySem PySem.Spec PyProof.Rows L2
/-- a new empty set's object -/
def setO0 (w : World) : Obj := { cls := .type "set", dict := none, data := .set #[] 0 (.fresh 0 0 (!w.params.followText "set-order")) }
section
variable {P : Program} {w : World} {A : Around} {E : Value → Shared → Prop} {s : Shared}
set_option maxRecDepth 100000 in
set_option maxHeartbeats 6400000 in
theorem set_of_list {p : Addr} {xs : Array Value} (ks : List Int) {Q : Value → Shared → Prop} (nh : A.handled = none) (ip : s.heap.IsList p xs) (ii : IntsAre xs.toList ks) (kb : ks.length + 1 < scanBound)
    (q : ∀ (g : Heap) (tk c : Nat), SetR w g s.heap.objs.size (fun j => decide (j ∈ ks)) c → c ≤ ks.length → (∀ b o, s.heap.get? b = some o → g.get? b = some o) → Q (.ref s.heap.objs.size) { s with heap := g, toks := tk }) :
    wpAny (model P w) A (call (.type "set") [.ref p]) Q E s := by
  have xsz : xs.size = ks.length := (Array.length_toList (xs := xs)).symm.trans (IntsAre.length ii)
  obtain ⟨c0, tl0, mro0⟩ := F.called_set.mro
  have made0 := F.called_set.made
  have sub0 := F.called_set.sub
  have new0 := F.typeCall_set_1 (.ref p)
  have nt0 := F.called_set.notType
  have cc0 := F.called_set.canCreate
  refine wpAny_call ?_
  refine codeAny_of_tree ?_
  show wpAny _ _ (callAny (.type "set") _) _ _ _
  refine wpAny_pure ⟨Code.quiet_builtin _ (by decide +kernel), ?_⟩
  refine codeAny_builtin F.entry_type_call ?_
  rw [Around.under_plain (weight_type_call_type "set" [.ref p] []) rfl]
  repeat (any_goals (first | wp_step | assumption))
  refine codeAny_mono (code_set_led1 (P := P) (.ref p) (E := E) (Q₁ := fun ob t => ob = .ref s.heap.objs.size ∧ t = { s with heap := s.heap.push (setO0 w) }) ⟨rfl, rfl⟩) fun r t hr => ?_
  cases r with
  | error e => exact hr
  | ok fl =>
    cases fl with
    | ret ob =>
      obtain ⟨rfl, rfl⟩ := hr
      have hN : (s.heap.push (setO0 w)).get? s.heap.objs.size = some (setO0 w) := Heap.get?_push_size _ rfl
      have hY : Shared.TypeIs { s with heap := s.heap.push (setO0 w) } (.ref s.heap.objs.size) "set" := ⟨_, hN, rfl⟩
      have il0 := F.called_set.init.lookup
      have ib0 := F.called_set.init.bind (.ref s.heap.objs.size)
      repeat (any_goals (first | wp_step | assumption))
      refine codeAny_mono (codeAny_call_builtin (R := wants (fun v t => v = .none ∧ ∃ g tk c, t = { s with heap := g, toks := tk } ∧ SetR w g s.heap.objs.size (fun j => decide (j ∈ ks)) c ∧ c ≤ ks.length ∧
          (∀ b o, s.heap.get? b = some o → g.get? b = some o)) E) F.called_set.init.plain F.entry_set_init (check_set_init_1 hY ?_)) fun r2 t2 hr2 => ?_
      · obtain ⟨ol, gl, tl, nl, al⟩ := ip
        obtain ⟨ocl, odi, oda, osl⟩ := ol
        simp only at tl al
        subst tl al
        have gl1 : (s.heap.push (setO0 w)).get? p = some { cls := .type "list", dict := odi, data := .seq xs nl, slots := osl } := Heap.get?_push_of_some _ gl
        have s1 := F.sub_list_set
        have s2 := F.sub_list_frozenset
        have ne1 : (Value.type "list" == Value.type "dict") = false := by decide
        have li1 : (s.heap.push (setO0 w)).IsList p xs := ⟨_, gl1, rfl, nl, rfl⟩
        unfold Builtin.«set.__init__» noKeywords Builtin.Frozenset.updateFrom
        generalize hIter : pyIter = IT
        wp_walk
        subst hIter
        refine wpAny_pyIter_list li1 ?_
        refine wpAny_bind ?_
        refine wpAny_runValue ?_
        have plt : p < s.heap.objs.size := Heap.lt_size gl
        have nh3 : A.in1.in1.in1.handled = none := by simp [nh]
        have szN : (s.heap.push (setO0 w)).objs.size = s.heap.objs.size + 1 := Heap.size_push ..
        have pI : p ≠ (s.heap.push (setO0 w)).objs.size := by
          rw [szN]
          exact Nat.ne_of_lt (Nat.lt_succ_of_lt plt)
        have notin : s.heap.objs.size ∉ [(s.heap.push (setO0 w)).objs.size, p] := by
          intro z
          rcases List.mem_cons.mp z with z | z
          · rw [szN] at z
            exact absurd z (Nat.ne_of_lt (Nat.lt_succ_self _))
          · exact absurd (List.mem_singleton.mp z) (Nat.ne_of_gt plt)
        have vals : ∀ (i : Nat) (v : Value), xs[i]? = some v → ∃ k t, ks[i]? = some k ∧ v = .int k t := by
          intro i v hv
          have il : i < ks.length := by
            rw [← xsz]
            exact (Array.getElem?_eq_some_iff.mp hv).1
          obtain ⟨t, e⟩ := PyProof.Rows.IntsAre.int_at ii i v (by rw [Array.getElem?_toList]; exact hv)
          refine ⟨ks[i], t, List.getElem?_eq_getElem il, ?_⟩
          rw [e, List.getD_eq_getElem?_getD, List.getElem?_eq_getElem il]
          all_goals rfl
        have hN2 : ((s.heap.push (setO0 w)).push { cls := .type "list_iterator", data := .fields #[.ref p, .int 0 0] }).get? s.heap.objs.size = some (setO0 w) := Heap.get?_push_of_some _ hN
        refine set_update_ints ((Walks.list nh3 _ p pI xs).toS) s.heap.objs.size notin ks xsz kb vals (xs.size - 0) 0 _ (by omega) (Nat.zero_le _)
          ⟨⟨_, Heap.get?_push_size _ rfl, rfl, rfl⟩, li1.push _⟩ ⟨0, Nat.le_refl 0, setR_new_at hN2⟩ ?_
        intro t3 c3 mv le3 R3
        obtain ⟨g3, gn3, dr3, tk3, os3⟩ := t3
        have e1 : gn3 = s.gens := mv.gens
        have e2 : dr3 = s.drawn := mv.drawn
        have e3 : os3 = s.os := mv.os
        subst e1 e2 e3
        show wpAny _ _ _ _ _ _
        refine wpAny_pure ?_
        show wpAny _ _ (ret Value.none) _ _ _
        rw [xsz] at le3
        refine wpAny_pure ⟨rfl, g3, tk3, c3, rfl, R3, le3, fun b o e => ?_⟩
        have bl : b < s.heap.objs.size := Heap.lt_size e
        refine mv.heap b o (fun z => ?_) (Heap.get?_push_of_some _ (Heap.get?_push_of_some _ e))
        rcases List.mem_cons.mp z with z | z
        · exact absurd z (Nat.ne_of_lt bl)
        · have z2 := List.mem_singleton.mp z
          rw [szN] at z2
          exact absurd z2 (Nat.ne_of_lt (Nat.lt_succ_of_lt bl))
      · cases r2 with
        | error e => exact hr2
        | ok fl2 =>
          cases fl2 with
          | ret r =>
            obtain ⟨rfl, g, tk, c, rfl, R4, le4, kp4⟩ := hr2
            repeat (any_goals (first | wp_step | assumption))
            exact q _ _ _ R4 le4 kp4
          | _ => exact hr2.elim
    | _ => exact hr.elim
end
section
variable {X : Cx}
/-- set(xs), whole numbers -/
def rMkSet (K : PySem.W.Frag) (w : World) : List V → Hp → VK → Prop := fun vs H Q => ∃ (a : Addr) (ks : List Int), vs = [V.ref a] ∧ SqL K H a (ks.map V.int) ∧ ks.length ≤ 1000 ∧
  ∀ p c, H p = none → c ≤ ks.length → Q (.ref p) (upd H p (SetO w p (fun j => decide (j ∈ ks)) c))
theorem cr_setL (hc : X.calm = true) : CallR X (.type "set") (rMkSet X.K X.w) := by
  intro pins s σ H vs us Q I r hw
  obtain ⟨a, ks, rfl, hx, hk, hq⟩ := hw
  obtain ⟨its, rv, pl, hz⟩ := I.list hx
  rw [Vals.ref1 r]
  refine set_of_list ks (I.ok.hd hc) pl.isList rv.ints (by unfold scanBound; omega) fun g tk c R le kp => ?_
  exact ⟨.ref _, upd H s.heap.objs.size (SetO X.w s.heap.objs.size (fun j => decide (j ∈ ks)) c), I.laid (t' := tk) kp (Nat.le_refl _) (setO_new R), rfl, hq _ c (I.hok.fresh (Nat.le_refl _)) le⟩
end
/-! ### the unlike numbers in order -/
def insU (k : Int) : List Int → List Int
  | [] => [k]
  | x :: r => if k < x then k :: x :: r else if k = x then x :: r else x :: insU k r
def ascOf : List Int → List Int
  | [] => []
  | k :: r => insU k (ascOf r)
theorem mem_insU {k j : Int} : ∀ {l : List Int}, j ∈ insU k l ↔ j = k ∨ j ∈ l
  | [] => by simp [insU]
  | x :: r => by
    unfold insU
    split
    · simp
    · split
      · rename_i h
        subst h
        simp
      · have ih := mem_insU (k := k) (j := j) (l := r)
        rw [List.mem_cons, ih, List.mem_cons]
        exact ⟨fun h => h.elim (fun a => .inr (.inl a)) fun h => h.elim .inl fun b => .inr (.inr b), fun h => h.elim (fun a => .inr (.inl a)) fun h => h.elim .inl fun b => .inr (.inr b)⟩
theorem asc_insU {k : Int} : ∀ {l : List Int}, l.Pairwise (· < ·) → (insU k l).Pairwise (· < ·)
  | [], _ => by simp [insU]
  | x :: r, h => by
    obtain ⟨h1, h2⟩ := List.pairwise_cons.mp h
    unfold insU
    split
    · rename_i h3
      refine List.pairwise_cons.mpr ⟨fun y hy => ?_, h⟩
      rcases List.mem_cons.mp hy with rfl | hy
      · exact h3
      · exact Int.lt_trans h3 (h1 y hy)
    · split
      · exact h
      · rename_i h3 h4
        refine List.pairwise_cons.mpr ⟨fun y hy => ?_, asc_insU h2⟩
        rcases mem_insU.mp hy with rfl | hy
        · omega
        · exact h1 y hy
theorem mem_asc {j : Int} : ∀ {l : List Int}, j ∈ ascOf l ↔ j ∈ l
  | [] => Iff.rfl
  | k :: r => by
    unfold ascOf
    rw [mem_insU, mem_asc, List.mem_cons]
theorem asc_asc : ∀ (l : List Int), (ascOf l).Pairwise (· < ·)
  | [] => List.Pairwise.nil
  | k :: r => asc_insU (asc_asc r)
/-- two ascending lists with the same members are one -/
theorem asc_one : ∀ {l m : List Int}, l.Pairwise (· < ·) → m.Pairwise (· < ·) → (∀ k, k ∈ l ↔ k ∈ m) → l = m
  | [], [], _, _, _ => rfl
  | [], y :: m, _, _, h => by
    have q := (h y).mpr List.mem_cons_self
    simp at q
  | x :: l, [], _, _, h => by
    have q := (h x).mp List.mem_cons_self
    simp at q
  | x :: l, y :: m, hl, hm, h => by
    obtain ⟨l1, l2⟩ := List.pairwise_cons.mp hl
    obtain ⟨m1, m2⟩ := List.pairwise_cons.mp hm
    have e : x = y := by
      have a := (h x).mp List.mem_cons_self
      have b := (h y).mpr List.mem_cons_self
      rcases List.mem_cons.mp a with a | a
      · exact a
      · rcases List.mem_cons.mp b with b | b
        · exact b.symm
        · have c1 := m1 x a
          have c2 := l1 y b
          omega
    subst e
    refine congrArg (x :: ·) (asc_one l2 m2 fun k => ?_)
    constructor
    · intro hk
      have c := l1 k hk
      rcases List.mem_cons.mp ((h k).mp (List.mem_cons_of_mem _ hk)) with z | z
      · omega
      · exact z
    · intro hk
      have c := m1 k hk
      rcases List.mem_cons.mp ((h k).mpr (List.mem_cons_of_mem _ hk)) with z | z
      · omega
      · exact z
theorem asc_eq {l ks : List Int} (h1 : l.Pairwise (· < ·)) (h2 : ∀ k, k ∈ l ↔ k ∈ ks) : l = ascOf ks := asc_one h1 (asc_asc ks) fun k => (h2 k).trans mem_asc.symm
theorem len_insU (k : Int) : ∀ l : List Int, (insU k l).length ≤ l.length + 1
  | [] => Nat.le_refl _
  | x :: r => by
    unfold insU
    split
    · simp
    · split
      · simp
      · have := len_insU k r
        simp only [List.length_cons]
        omega
theorem len_asc : ∀ l : List Int, (ascOf l).length ≤ l.length
  | [] => Nat.le_refl _
  | k :: r => by
    have a := len_insU k (ascOf r)
    have b := len_asc r
    show (insU k (ascOf r)).length ≤ r.length + 1
    omega
/-- sorted(set(xs)), fewer than 64 -/
theorem k_sortSet {K : PySem.W.Frag} {w : World} {σ : L2.St} {H : Hp} {Q : VK} {a : Addr} {ks : List Int} (hx : SqL K H a (ks.map V.int)) (h64 : ks.length < 64)
    (hq : ∀ H' p, Same H H' → H p = none → H' p = some (.lst ((ascOf ks).map V.int)) → Q (.ref p) H') : rMkSet K w [V.ref a] H fun x H1 => tNil σ H1 fun xs H2 => rSortedSet w (x :: xs) H2 Q := by
  refine ⟨a, ks, rfl, hx, by omega, fun p c np hc => ?_⟩
  show rSortedSet w [V.ref p] (upd H p _) Q
  refine ⟨p, _, c, rfl, upd_same, by omega, fun ns p2 h1 h2 h3 np2 => ?_⟩
  have e : ns = ascOf ks := asc_eq h1 fun k => (h2 k).trans (by simp)
  rw [e]
  have s1 := same_new (o := SetO w p (fun j => decide (j ∈ ks)) c) np
  exact hq _ p2 (Same.new s1 np2) (s1.free np2) upd_same
end Lt/-! lists of things that stand for data -/
namespace Lt
open PySem PySem.Spec PyProof.Rows L2
def AllR {α β : Type} (R : α → β → Prop) : List α → List β → Prop
  | [], [] => True
  | x :: xs, p :: ps => R x p ∧ AllR R xs ps
  | _, _ => False
section
variable {α β : Type} {R R' : α → β → Prop}
theorem AllR.nil : AllR R [] [] := True.intro
theorem AllR.cons {x : α} {p : β} {xs : List α} {ps : List β} (h : R x p) (t : AllR R xs ps) : AllR R (x :: xs) (p :: ps) := ⟨h, t⟩
theorem AllR.length : ∀ {xs : List α} {ps : List β}, AllR R xs ps → xs.length = ps.length
  | [], [], _ => rfl
  | [], _ :: _, h => h.elim
  | _ :: _, [], h => h.elim
  | _ :: xs, _ :: ps, h => congrArg Nat.succ (AllR.length (xs := xs) (ps := ps) h.2)
theorem AllR.mono (f : ∀ x p, R x p → R' x p) : ∀ {xs : List α} {ps : List β}, AllR R xs ps → AllR R' xs ps
  | [], [], _ => True.intro
  | [], _ :: _, h => h.elim
  | _ :: _, [], h => h.elim
  | x :: xs, p :: ps, h => ⟨f x p h.1, AllR.mono f (xs := xs) (ps := ps) h.2⟩
theorem AllR.append : ∀ {xs ys : List α} {ps qs : List β}, AllR R xs ps → AllR R ys qs → AllR R (xs ++ ys) (ps ++ qs)
  | [], _, [], _, _, h => h
  | [], _, _ :: _, _, h, _ => h.elim
  | _ :: _, _, [], _, h, _ => h.elim
  | _ :: xs, _, _ :: ps, _, h, t => ⟨h.1, AllR.append (xs := xs) (ps := ps) h.2 t⟩
theorem AllR.snoc {xs : List α} {ps : List β} {x : α} {p : β} (h : AllR R xs ps) (t : R x p) : AllR R (xs ++ [x]) (ps ++ [p]) := AllR.append h ⟨t, True.intro⟩
theorem AllR.get : ∀ {xs : List α} {ps : List β} {i : Nat} {x : α}, AllR R xs ps → xs[i]? = some x → ∃ p, ps[i]? = some p ∧ R x p
  | [], _, _, _, _, e => by simp at e
  | _ :: _, [], _, _, h, _ => h.elim
  | y :: xs, p :: ps, 0, x, h, e => by
    have e1 : y = x := Option.some.inj (by simpa using e)
    exact ⟨p, rfl, e1 ▸ h.1⟩
  | _ :: xs, _ :: ps, i + 1, x, h, e => by
    obtain ⟨q, h1, h2⟩ := AllR.get (xs := xs) (ps := ps) (i := i) (x := x) h.2 (by simpa using e)
    exact ⟨q, by simpa using h1, h2⟩
theorem AllR.get2 : ∀ {xs : List α} {ps : List β} {i : Nat} {p : β}, AllR R xs ps → ps[i]? = some p → ∃ x, xs[i]? = some x ∧ R x p
  | _, [], _, _, _, e => by simp at e
  | [], _ :: _, _, _, h, _ => h.elim
  | x :: xs, q :: ps, 0, p, h, e => by
    have e1 : q = p := Option.some.inj (by simpa using e)
    exact ⟨x, rfl, e1 ▸ h.1⟩
  | _ :: xs, _ :: ps, i + 1, p, h, e => by
    obtain ⟨y, h1, h2⟩ := AllR.get2 (xs := xs) (ps := ps) (i := i) (p := p) h.2 (by simpa using e)
    exact ⟨y, by simpa using h1, h2⟩
theorem AllR.mem {xs : List α} {ps : List β} {x : α} (h : AllR R xs ps) (m : x ∈ xs) : ∃ p, p ∈ ps ∧ R x p := by
  obtain ⟨i, e⟩ := List.getElem?_of_mem m
  obtain ⟨p, h1, h2⟩ := h.get e
  exact ⟨p, List.mem_of_getElem? h1, h2⟩
/-- the last ones of both -/
theorem AllR.split {xs : List α} {ps : List β} (h : AllR R xs ps) : (xs = [] ∧ ps = []) ∨ ∃ ys y qs q, xs = ys ++ [y] ∧ ps = qs ++ [q] ∧ AllR R ys qs ∧ R y q := by
  induction xs generalizing ps with
  | nil =>
    cases ps with
    | nil => exact .inl ⟨rfl, rfl⟩
    | cons p ps => exact (show False from h).elim
  | cons x xs ih =>
    cases ps with
    | nil => exact (show False from h).elim
    | cons p ps =>
      have h : R x p ∧ AllR R xs ps := h
      rcases ih h.2 with ⟨rfl, rfl⟩ | ⟨ys, y, qs, q, rfl, rfl, t, r⟩
      · exact .inr ⟨[], x, [], p, rfl, rfl, True.intro, h.1⟩
      · exact .inr ⟨x :: ys, y, p :: qs, q, rfl, rfl, ⟨h.1, t⟩, r⟩
end
/-- a tuple of whole numbers -/
def TupAt (H : Hp) (x : V) (p : List Int) : Prop := ∃ t, x = V.ref t ∧ H t = some (.tup (p.map V.int))
/-- a pair of whole numbers -/
def PairAt (H : Hp) (x : V) (p : Int × Int) : Prop := ∃ t, x = V.ref t ∧ H t = some (.tup [.int p.1, .int p.2])
theorem PairAt.keep {H H' : Hp} {x : V} {p : Int × Int} (s : Same H H') (h : PairAt H x p) : PairAt H' x p := by
  obtain ⟨t, e, h1⟩ := h
  exact ⟨t, e, s _ _ h1⟩
/-- a list at o may turn -/
theorem PairAt.updL {H : Hp} {x : V} {p : Int × Int} {o : Addr} {xs ys : List V} (ho : H o = some (.lst xs)) (h : PairAt H x p) : PairAt (upd H o (.lst ys)) x p := by
  obtain ⟨t, e, h1⟩ := h
  refine ⟨t, e, ?_⟩
  rw [upd_ne (ne_of h1 ho (fun z => by cases z))]
  exact h1
abbrev Pairs (H : Hp) : List V → List (Int × Int) → Prop := AllR (PairAt H)
theorem Pairs.keep {H H' : Hp} {xs : List V} {ps : List (Int × Int)} (s : Same H H') (h : Pairs H xs ps) : Pairs H' xs ps := h.mono fun _ _ => PairAt.keep s
theorem Pairs.updL {H : Hp} {xs : List V} {ps : List (Int × Int)} {o : Addr} {us ys : List V} (ho : H o = some (.lst us)) (h : Pairs H xs ps) : Pairs (upd H o (.lst ys)) xs ps := h.mono fun _ _ => PairAt.updL ho
theorem ixN_last {α : Type} (xs : List α) (v : α) : ixN (xs ++ [v]).length (-1) = some xs.length := by
  unfold ixN
  rw [if_neg (by decide), if_pos (by rw [List.length_append, List.length_singleton]; omega), List.length_append, List.length_singleton]
  congr 1
  omega
theorem set_last {α : Type} : ∀ (xs : List α) (v u : α), (xs ++ [v]).set xs.length u = xs ++ [u]
  | [], _, _ => rfl
  | x :: xs, v, u => congrArg (x :: ·) (set_last xs v u)
theorem take_snoc {α : Type} {l : List α} {i : Nat} {x : α} (h : l[i]? = some x) : l.take (i + 1) = l.take i ++ [x] := by
  rw [List.take_add_one, h]
  rfl
end Lt
/-! stretches: plain Lean -/
namespace Lt
/-- f, f + 1, .., many of them -/
def rgI (f : Int) (m : Int) : List Int := (List.range m.toNat).map fun (i : Nat) => f + (i : Int)
theorem rgI_len (f m : Int) : (rgI f m).length = m.toNat := by simp [rgI]
theorem rgI_succ {f m : Int} (h : 0 ≤ m) : rgI f (m + 1) = rgI f m ++ [f + m] := by
  unfold rgI
  have e : (m + 1).toNat = m.toNat + 1 := by omega
  rw [e, List.range_succ, List.map_append]
  simp
  omega
theorem rgI_one (f : Int) : rgI f 1 = [f] := by simp [rgI, List.range_succ]
theorem mem_rgI {f m k : Int} : k ∈ rgI f m ↔ f ≤ k ∧ k < f + m := by
  unfold rgI
  rw [List.mem_map]
  constructor
  · rintro ⟨i, hi, rfl⟩
    have := List.mem_range.mp hi
    omega
  · rintro ⟨h1, h2⟩
    exact ⟨(k - f).toNat, List.mem_range.mpr (by omega), by omega⟩
/-- one step of the stretches -/
def strStep (out : List (Int × Int)) (b : Int) : List (Int × Int) := match out.getLast? with
  | some (f, m) => if f + m = b then out.dropLast ++ [(f, m + 1)] else out ++ [(b, 1)]
  | none => out ++ [(b, 1)]
def strOf (ks : List Int) : List (Int × Int) := (ascOf ks).foldl strStep []
theorem strStep_snoc (qs : List (Int × Int)) (f m k : Int) : strStep (qs ++ [(f, m)]) k = if f + m = k then qs ++ [(f, m + 1)] else qs ++ [(f, m)] ++ [(k, 1)] := by
  unfold strStep
  rw [List.getLast?_concat]
  simp only [List.dropLast_concat]
theorem strStep_len : ∀ (l : List Int) (out : List (Int × Int)), (l.foldl strStep out).length ≤ out.length + l.length
  | [], _ => Nat.le_refl _
  | b :: l, out => by
    have ih := strStep_len l (strStep out b)
    have h1 : (strStep out b).length ≤ out.length + 1 := by
      unfold strStep
      split
      · split
        · simp only [List.length_append, List.length_dropLast, List.length_cons, List.length_nil]
          omega
        · simp
      · simp
    simp only [List.foldl_cons, List.length_cons]
    omega
/-- the blocks of some stretches -/
def catS (qs : List (Int × Int)) : List Int := qs.flatMap fun p => rgI p.1 p.2
theorem catS_snoc (qs : List (Int × Int)) (p : Int × Int) : catS (qs ++ [p]) = catS qs ++ rgI p.1 p.2 := by simp [catS]
/-- each begins beyond the end of the one ahead -/
def SepFrom : Option Int → List (Int × Int) → Prop
  | _, [] => True
  | o, (f, m) :: r => (∀ x, o = some x → x < f) ∧ SepFrom (some (f + m)) r
def endOf : Option Int → List (Int × Int) → Option Int
  | o, [] => o
  | _, (f, m) :: r => endOf (some (f + m)) r
theorem endOf_snoc : ∀ (o : Option Int) (qs : List (Int × Int)) (f m : Int), endOf o (qs ++ [(f, m)]) = some (f + m)
  | _, [], _, _ => rfl
  | _, (a, b) :: r, f, m => endOf_snoc (some (a + b)) r f m
theorem sep_snoc : ∀ (o : Option Int) (qs : List (Int × Int)) (f m : Int), SepFrom o (qs ++ [(f, m)]) ↔ SepFrom o qs ∧ ∀ x, endOf o qs = some x → x < f
  | o, [], f, m => by simp [SepFrom, endOf]
  | o, (a, b) :: r, f, m => by
    show ((∀ x, o = some x → x < a) ∧ SepFrom (some (a + b)) (r ++ [(f, m)])) ↔ ((∀ x, o = some x → x < a) ∧ SepFrom (some (a + b)) r) ∧ ∀ x, endOf (some (a + b)) r = some x → x < f
    rw [sep_snoc (some (a + b)) r f m, and_assoc]
/-- what stretches of l are -/
structure StrOk (l : List Int) (qs : List (Int × Int)) : Prop where
  cat : catS qs = l
  pos : ∀ p ∈ qs, 1 ≤ p.2
  sep : SepFrom none qs
theorem strOk_step {l : List Int} {qs : List (Int × Int)} {b : Int} (h : StrOk l qs) (hb : ∀ x ∈ l, x < b) : StrOk (l ++ [b]) (strStep qs b) := by
  rcases List.eq_nil_or_concat qs with rfl | ⟨rs, ⟨f, m⟩, rfl⟩
  · have e : l = [] := h.cat.symm
    subst e
    exact ⟨by simp [strStep, catS, rgI_one], by simp [strStep], by simp [strStep, SepFrom]⟩
  · rw [List.concat_eq_append] at h ⊢
    rw [strStep_snoc]
    have m1 : 1 ≤ m := h.pos (f, m) (by simp)
    have s1 := (sep_snoc none rs f m).mp h.sep
    have c1 := h.cat
    rw [catS_snoc] at c1
    split
    · rename_i e
      refine ⟨?_, fun p hp => ?_, (sep_snoc none rs f (m + 1)).mpr s1⟩
      · rw [catS_snoc]
        show catS rs ++ rgI f (m + 1) = l ++ [b]
        rw [rgI_succ (by omega), ← List.append_assoc, c1, e]
      · rcases List.mem_append.mp hp with hp | hp
        · exact h.pos p (List.mem_append_left _ hp)
        · rw [List.mem_singleton.mp hp]
          show 1 ≤ m + 1
          omega
    · rename_i e
      have hlt : f + m - 1 < b := hb _ (by
        rw [← c1]
        exact List.mem_append_right _ (mem_rgI.mpr ⟨by show f ≤ f + m - 1; omega, by show f + m - 1 < f + m; omega⟩))
      refine ⟨?_, fun p hp => ?_, (sep_snoc none _ b 1).mpr ⟨h.sep, fun x hx => ?_⟩⟩
      · rw [catS_snoc, h.cat]
        show l ++ rgI b 1 = l ++ [b]
        rw [rgI_one]
      · rcases List.mem_append.mp hp with hp | hp
        · exact h.pos p hp
        · rw [List.mem_singleton.mp hp]
          exact Int.le_refl 1
      · rw [endOf_snoc] at hx
        have hx := Option.some.inj hx
        omega
theorem strOk_fold : ∀ (r l : List Int) (qs : List (Int × Int)), StrOk l qs → (l ++ r).Pairwise (· < ·) → StrOk (l ++ r) (r.foldl strStep qs)
  | [], l, qs, h, _ => by simpa using h
  | b :: r, l, qs, h, p => by
    have e : l ++ b :: r = (l ++ [b]) ++ r := by simp
    rw [e] at p ⊢
    refine strOk_fold r (l ++ [b]) _ (strOk_step h fun x hx => ?_) p
    have q := (List.pairwise_append.mp (List.pairwise_append.mp p).1).2.2
    exact q x hx b (List.mem_singleton_self b)
theorem strOk (ks : List Int) : StrOk (ascOf ks) (strOf ks) := by
  have h := strOk_fold (ascOf ks) [] [] ⟨rfl, fun p hp => by simp at hp, True.intro⟩ (by simpa using asc_asc ks)
  rw [List.nil_append] at h
  exact h
theorem catS_len_mem {qs : List (Int × Int)} {p : Int × Int} (h : p ∈ qs) : p.2.toNat ≤ (catS qs).length := by
  induction qs with
  | nil => simp at h
  | cons q r ih =>
    have e : catS (q :: r) = rgI q.1 q.2 ++ catS r := by simp [catS]
    rw [e, List.length_append, rgI_len]
    rcases List.mem_cons.mp h with rfl | h
    · omega
    · have := ih h
      omega
end Lt
namespace Lt
theorem sep_take : ∀ {o : Option Int} {qs : List (Int × Int)} {i : Nat} {f m : Int}, SepFrom o qs → qs[i]? = some (f, m) → ∀ x, endOf o (qs.take i) = some x → x < f
  | _, [], _, _, _, _, e => by simp at e
  | o, (a, b) :: r, 0, f, m, h, e => by
    have e1 : (a, b) = (f, m) := Option.some.inj (by simpa using e)
    cases e1
    exact h.1
  | o, (a, b) :: r, i + 1, f, m, h, e => by
    have e1 : r[i]? = some (f, m) := by simpa using e
    exact sep_take (o := some (a + b)) h.2 e1
theorem catS_mem {qs : List (Int × Int)} {p : Int × Int} {k : Int} (h : p ∈ qs) (h1 : p.1 ≤ k) (h2 : k < p.1 + p.2) : k ∈ catS qs := by
  unfold catS
  exact List.mem_flatMap.mpr ⟨p, h, mem_rgI.mpr ⟨h1, h2⟩⟩
theorem catS_take_len (qs : List (Int × Int)) (i : Nat) : (catS (qs.take i)).length ≤ (catS qs).length := by
  have e : catS qs = catS (qs.take i) ++ catS (qs.drop i) := by
    unfold catS
    rw [← List.flatMap_append, List.take_append_drop]
  rw [e, List.length_append]
  omega
end Lt
/-! == of data: whole numbers, texts, None, lists and tuples of these (no truths within) -/
namespace Lt
open PySem PySem.Spec PyProof.Rows L2
mutual
/-- no truths, no dicts; texts that can stand -/
def tidy : PyData → Bool
  | .none => true
  | .int _ => true
  | .str x => PyData.canLay0 (.str x)
  | .list xs => tidyAll xs
  | .tuple xs => tidyAll xs
  | _ => false
def tidyAll : List PyData → Bool
  | [] => true
  | x :: xs => tidy x && tidyAll xs
end
mutual
theorem tidy_lay : ∀ d : PyData, tidy d = true → d.canLay0 = true
  | .none, _ => rfl
  | .int _, _ => rfl
  | .str _, h => by simpa [tidy] using h
  | .list xs, h => by
    rw [PyData.canLay0]
    exact tidy_layAll xs (by simpa [tidy] using h)
  | .tuple xs, h => by
    rw [PyData.canLay0]
    exact tidy_layAll xs (by simpa [tidy] using h)
  | .bool _, h => by simp [tidy] at h
  | .dict _, h => by simp [tidy] at h
theorem tidy_layAll : ∀ xs : List PyData, tidyAll xs = true → PyData.canLayAll0 xs = true
  | [], _ => rfl
  | x :: xs, h => by
    have h2 : tidy x = true ∧ tidyAll xs = true := by simpa [tidyAll] using h
    rw [PyData.canLayAll0, tidy_lay x h2.1, tidy_layAll xs h2.2]
    rfl
end
mutual
theorem eqv_of : ∀ d e : PyData, tidy d = true → PyData.eqv d e = true → tidy e = true → d = e
  | .none, .none, _, _, _ => rfl
  | .int i, .int j, _, h, _ => by
    simp only [PyData.eqv, beq_iff_eq] at h
    rw [h]
  | .str x, .str y, _, h, _ => by
    simp only [PyData.eqv, beq_iff_eq] at h
    rw [h]
  | .list xs, .list ys, h1, h, h2 => by
    rw [eqv_ofAll xs ys (by simpa [tidy] using h1) (by simpa [PyData.eqv] using h) (by simpa [tidy] using h2)]
  | .tuple xs, .tuple ys, h1, h, h2 => by
    rw [eqv_ofAll xs ys (by simpa [tidy] using h1) (by simpa [PyData.eqv] using h) (by simpa [tidy] using h2)]
  | .bool _, _, h, _, _ => by simp [tidy] at h
  | .dict _, _, h, _, _ => by simp [tidy] at h
  | .none, .int _, _, h, _ => by simp [PyData.eqv] at h
  | .none, .str _, _, h, _ => by simp [PyData.eqv] at h
  | .none, .list _, _, h, _ => by simp [PyData.eqv] at h
  | .none, .tuple _, _, h, _ => by simp [PyData.eqv] at h
  | .none, .bool _, _, _, h => by simp [tidy] at h
  | .none, .dict _, _, _, h => by simp [tidy] at h
  | .int _, .none, _, h, _ => by simp [PyData.eqv] at h
  | .int _, .str _, _, h, _ => by simp [PyData.eqv] at h
  | .int _, .list _, _, h, _ => by simp [PyData.eqv] at h
  | .int _, .tuple _, _, h, _ => by simp [PyData.eqv] at h
  | .int _, .bool _, _, _, h => by simp [tidy] at h
  | .int _, .dict _, _, _, h => by simp [tidy] at h
  | .str _, .none, _, h, _ => by simp [PyData.eqv] at h
  | .str _, .int _, _, h, _ => by simp [PyData.eqv] at h
  | .str _, .list _, _, h, _ => by simp [PyData.eqv] at h
  | .str _, .tuple _, _, h, _ => by simp [PyData.eqv] at h
  | .str _, .bool _, _, _, h => by simp [tidy] at h
  | .str _, .dict _, _, _, h => by simp [tidy] at h
  | .list _, .none, _, h, _ => by simp [PyData.eqv] at h
  | .list _, .int _, _, h, _ => by simp [PyData.eqv] at h
  | .list _, .str _, _, h, _ => by simp [PyData.eqv] at h
  | .list _, .tuple _, _, h, _ => by simp [PyData.eqv] at h
  | .list _, .bool _, _, _, h => by simp [tidy] at h
  | .list _, .dict _, _, _, h => by simp [tidy] at h
  | .tuple _, .none, _, h, _ => by simp [PyData.eqv] at h
  | .tuple _, .int _, _, h, _ => by simp [PyData.eqv] at h
  | .tuple _, .str _, _, h, _ => by simp [PyData.eqv] at h
  | .tuple _, .list _, _, h, _ => by simp [PyData.eqv] at h
  | .tuple _, .bool _, _, _, h => by simp [tidy] at h
  | .tuple _, .dict _, _, _, h => by simp [tidy] at h
theorem eqv_ofAll : ∀ xs ys : List PyData, tidyAll xs = true → PyData.eqvAll xs ys = true → tidyAll ys = true → xs = ys
  | [], [], _, _, _ => rfl
  | x :: xs, y :: ys, h1, h, h2 => by
    have a : tidy x = true ∧ tidyAll xs = true := by simpa [tidyAll] using h1
    have b : PyData.eqv x y = true ∧ PyData.eqvAll xs ys = true := by simpa [PyData.eqvAll] using h
    have c : tidy y = true ∧ tidyAll ys = true := by simpa [tidyAll] using h2
    rw [eqv_of x y a.1 b.1 c.1, eqv_ofAll xs ys a.2 b.2 c.2]
  | [], _ :: _, _, h, _ => by simp [PyData.eqvAll] at h
  | _ :: _, [], _, h, _ => by simp [PyData.eqvAll] at h
end
theorem eqv_true {d : PyData} (h : tidy d = true) : PyData.eqv d d = true := SeqAt.eqv_refl d (tidy_lay d h)
theorem eqv_false {d e : PyData} (h1 : tidy d = true) (h2 : tidy e = true) (n : d ≠ e) : PyData.eqv d e = false := by
  cases h : PyData.eqv d e with
  | false => rfl
  | true => exact absurd (eqv_of d e h1 h h2) n
theorem shaped_of {d : PyData} (h1 : tidy d = true) (h2 : d.depth ≤ 64) : SeqAt.shaped d = true := by
  unfold SeqAt.shaped
  rw [tidy_lay d h1, decide_eq_true h2]
  rfl
/-! the shapes one meets -/
theorem tidy_ints : ∀ ks : List Int, tidyAll (ks.map PyData.int) = true
  | [] => rfl
  | _ :: r => by simp [tidyAll, tidy, tidy_ints r]
theorem depth_map {α : Type} {f : α → PyData} {n : Nat} (h : ∀ a, (f a).depth ≤ n) : ∀ ks : List α, PyData.depthAll (ks.map f) ≤ n
  | [] => Nat.zero_le _
  | a :: r => by
    have h1 := h a
    have h2 := depth_map h r
    simp only [List.map_cons, PyData.depthAll]
    omega
theorem tidy_map {α : Type} {f : α → PyData} (h : ∀ a, tidy (f a) = true) : ∀ ks : List α, tidyAll (ks.map f) = true
  | [] => rfl
  | a :: r => by simp [tidyAll, h a, tidy_map h r]
theorem map_inj {α β : Type} {f : α → β} (h : ∀ a b, f a = f b → a = b) : ∀ {xs ys : List α}, xs.map f = ys.map f → xs = ys
  | [], [], _ => rfl
  | [], _ :: _, e => by simp at e
  | _ :: _, [], e => by simp at e
  | a :: r, b :: t, e => by
    simp only [List.map_cons, List.cons.injEq] at e
    rw [h a b e.1, map_inj h e.2]
/-- a shape: how data of α look -/
structure Shp (α : Type) (f : α → PyData) (n : Nat) : Prop where
  ti : ∀ a, tidy (f a) = true
  dp : ∀ a, (f a).depth ≤ n
  inj : ∀ a b, f a = f b → a = b
theorem shp_int : Shp Int PyData.int 0 := ⟨fun _ => rfl, fun _ => by simp [PyData.depth], fun _ _ e => by injection e⟩
theorem shp_list {α : Type} {f : α → PyData} {n : Nat} (S : Shp α f n) : Shp (List α) (fun xs => .list (xs.map f)) (n + 1) :=
  ⟨fun xs => by simpa [tidy] using tidy_map S.ti xs, fun xs => by
    have := depth_map S.dp xs
    simp only [PyData.depth]
    omega, fun xs ys e => map_inj S.inj (by injection e)⟩
abbrev dPair (p : Int × Int) : PyData := .tuple [.int p.1, .int p.2]
theorem shp_pair : Shp (Int × Int) dPair 1 := ⟨fun _ => rfl, fun _ => by simp [dPair, PyData.depth, PyData.depthAll], fun a b e => by
  show a = b
  have e : PyData.tuple [.int a.1, .int a.2] = PyData.tuple [.int b.1, .int b.2] := e
  injection e with e
  injection e with e1 e
  injection e with e2 _
  injection e1 with e1
  injection e2 with e2
  exact Prod.ext e1 e2⟩
theorem shp_tup {α : Type} {f : α → PyData} {n : Nat} (S : Shp α f n) : Shp (List α) (fun xs => .tuple (xs.map f)) (n + 1) :=
  ⟨fun xs => by simpa [tidy] using tidy_map S.ti xs, fun xs => by
    have := depth_map S.dp xs
    simp only [PyData.depth]
    omega, fun xs ys e => map_inj S.inj (by injection e)⟩
section
variable {K : PySem.W.Frag} {H : Hp} {Q : VK} {a b : Addr} {x y : V}
theorem dp_all {α : Type} {f : α → PyData} {R : V → α → Prop} (h : ∀ x p, R x p → Dp K H x (f p)) : ∀ {xs : List V} {ps : List α}, AllR R xs ps → DpAll K H xs (ps.map f)
  | [], [], _ => .nil
  | [], _ :: _, z => z.elim
  | _ :: _, [], z => z.elim
  | x :: xs, p :: ps, z => .cons (h x p z.1) (dp_all h z.2)
theorem dp_intsA : ∀ ks : List Int, DpAll K H (ks.map V.int) (ks.map PyData.int)
  | [] => .nil
  | k :: r => .cons (.int k) (dp_intsA r)
theorem dp_ints {ks : List Int} (h : SqL K H a (ks.map V.int)) : Dp K H (.ref a) (.list (ks.map PyData.int)) := .lst h (dp_intsA ks)
theorem dp_pair (x : V) (p : Int × Int) (h : PairAt H x p) : Dp K H x (dPair p) := by
  obtain ⟨t, rfl, ht⟩ := h
  exact .tup (SqT.of ht) (.cons (.int _) (.cons (.int _) .nil))
theorem dp_pairs {xs : List V} {ps : List (Int × Int)} (h1 : H a = some (.lst xs)) (h2 : Pairs H xs ps) : Dp K H (.ref a) (.list (ps.map dPair)) := .lst (SqL.of h1) (dp_all dp_pair h2)
/-- == of two things of one shape -/
theorem k_eqD {α : Type} {f : α → PyData} {n : Nat} (S : Shp α f n) (hn : n ≤ 64) {p q : α} [Decidable (p = q)] (h1 : Dp K H x (f p)) (h2 : Dp K H y (f q)) (h : Q (.bl (decide (p = q))) H) : rEqD K x y H Q := by
  refine ⟨f p, f q, h1, h2, shaped_of (S.ti p) (Nat.le_trans (S.dp p) hn), shaped_of (S.ti q) (Nat.le_trans (S.dp q) hn), ?_⟩
  by_cases e : p = q
  · rw [decide_eq_true e] at h
    rw [e, eqv_true (S.ti q)]
    exact h
  · rw [decide_eq_false e] at h
    rw [eqv_false (S.ti p) (S.ti q) fun z => e (S.inj _ _ z)]
    exact h
theorem k_neD {α : Type} {f : α → PyData} {n : Nat} (S : Shp α f n) (hn : n ≤ 64) {p q : α} [Decidable (p = q)] (h1 : Dp K H x (f p)) (h2 : Dp K H y (f q)) (h : Q (.bl (!decide (p = q))) H) : rNeD K x y H Q := by
  refine ⟨f p, f q, h1, h2, shaped_of (S.ti p) (Nat.le_trans (S.dp p) hn), shaped_of (S.ti q) (Nat.le_trans (S.dp q) hn), ?_⟩
  by_cases e : p = q
  · rw [decide_eq_true e] at h
    rw [e, eqv_true (S.ti q)]
    exact h
  · rw [decide_eq_false e] at h
    rw [eqv_false (S.ti p) (S.ti q) fun z => e (S.inj _ _ z)]
    exact h
theorem k_eqI {ks js : List Int} (h1 : SqL K H a (ks.map V.int)) (h2 : SqL K H b (js.map V.int)) (h : Q (.bl (decide (ks = js))) H) : rEqD K (.ref a) (.ref b) H Q :=
  k_eqD (shp_list shp_int) (by decide) (dp_ints h1) (dp_ints h2) h
theorem k_neI {ks js : List Int} (h1 : SqL K H a (ks.map V.int)) (h2 : SqL K H b (js.map V.int)) (h : Q (.bl (!decide (ks = js))) H) : rNeD K (.ref a) (.ref b) H Q :=
  k_neD (shp_list shp_int) (by decide) (dp_ints h1) (dp_ints h2) h
theorem k_eqP {xs ys : List V} {ps qs : List (Int × Int)} (h1 : H a = some (.lst xs)) (h3 : Pairs H xs ps) (h2 : H b = some (.lst ys)) (h4 : Pairs H ys qs) (h : Q (.bl (decide (ps = qs))) H) : rEqD K (.ref a) (.ref b) H Q :=
  k_eqD (shp_list shp_pair) (by decide) (dp_pairs h1 h3) (dp_pairs h2 h4) h
theorem k_neP {xs ys : List V} {ps qs : List (Int × Int)} (h1 : H a = some (.lst xs)) (h3 : Pairs H xs ps) (h2 : H b = some (.lst ys)) (h4 : Pairs H ys qs) (h : Q (.bl (!decide (ps = qs))) H) : rNeD K (.ref a) (.ref b) H Q :=
  k_neD (shp_list shp_pair) (by decide) (dp_pairs h1 h3) (dp_pairs h2 h4) h
theorem rgV_eq (a b : Int) : rgV a b = (rgI a (b - a)).map V.int := by
  unfold rgV rgI
  rw [List.map_map]
  rfl
end
end Lt
/-! what is never reached -/
namespace Lt
open PySem PySem.Spec PyProof.Rows L2
section
variable {X : Cx}
theorem pss_no {sts : List Stmt} : PSs X sts (fun _ _ _ => False) := ⟨fun _ _ _ _ _ _ h => False.elim h⟩
theorem ps_no {st : Stmt} : PS X st (fun _ _ _ => False) := ⟨fun _ _ _ _ _ _ h => False.elim h⟩
theorem pe_no {e : Expr} : PE X e (fun _ _ _ => False) := ⟨fun _ _ _ _ _ _ h => False.elim h⟩
theorem hu1 {k : Nat} {A : Around} (r : Room k A) : A.units + 1 < cLine := by
  have := r.units
  omega
end
end Lt
/-! a, *b = a list -/
namespace Lt
open PySem PySem.Spec PyProof.Rows L2
section
variable {P : Program} {w : World} {A : Around} {E : Value → Shared → Prop}
theorem draw_lst {I l : Addr} {xs : Array Value} (ne : l ≠ I) : ∀ (k j : Nat) (s : Shared) (Q : List Value → Shared → Prop), s.heap.IsListIter I l j → s.heap.IsList l xs → j + k ≤ xs.size →
    (∀ g, g.IsListIter I l (j + k) → Heap.SameBut I s.heap g → Q ((xs.toList.drop j).take k) { s with heap := g }) → wpAny (model P w) A (draw (.ref I) k) Q E s
  | 0, j, s, Q, it, _, _, hq => by
    have q := hq s.heap it (Heap.SameBut.refl ..)
    rw [List.take_zero] at q
    exact wpAny_pure q
  | k + 1, j, s, Q, it, il, le, hq => by
    have lt : j < xs.size := by omega
    show wpAny _ _ (pyNext (.ref I) >>= _) Q E s
    refine wpAny_bind (wpAny_pyNext_list_item it il (x := xs[j]) (by simp [lt]) fun g it1 sb => ?_)
    refine wpAny_bind ?_
    refine wpAny_holding ?_
    refine draw_lst ne k (j + 1) _ _ it1 (il.extBut sb.extBut ne) (by omega) fun g2 it2 sb2 => ?_
    refine wpAny_pure ?_
    have q := hq g2 (by rw [show j + (k + 1) = j + 1 + k by omega]; exact it2) (sb.trans sb2)
    have e : xs.toList.drop j = xs[j] :: xs.toList.drop (j + 1) := by simp [List.drop_eq_getElem_cons, lt]
    rw [e, List.take_succ_cons] at q
    exact q
/-- a walk that has gone d turns -/
theorem walk_from {I : Addr} {fp wr : List Addr} {G : Array GenState → Array GenState → Prop} {n d : Nat} {R : Nat → Value → Prop} {St : Nat → Shared → Prop} (hd : d ≤ n) (W : WalksS P w A I fp wr G n R St) :
    WalksS P w A I fp wr G (n - d) (fun i v => R (i + d) v) (fun i s => St (i + d) s) where
  sub := W.sub
  grefl := W.grefl
  gtrans := W.gtrans
  frame := fun i s h tk st ht hb => W.frame (i + d) s h tk st ht hb
  item := fun i s Q E hi st hq => W.item (i + d) s Q E (by omega) st fun v s' r st' m => hq v s' r (by rw [show i + 1 + d = i + d + 1 by omega]; exact st') m
  done := fun s Q E st hq => W.done s Q E (by rw [show n - d + d = n by omega] at st; exact st) hq
  self := fun i s Q E st hq => W.self (i + d) s Q E st hq
theorem collect_from {s : Shared} {I l : Addr} {xs : Array Value} {j : Nat} {Q : List Value → Shared → Prop} (nh : A.handled = none) (ne : l ≠ I) (it : s.heap.IsListIter I l j) (il : s.heap.IsList l xs) (lI : I < s.heap.objs.size) (ll : l < s.heap.objs.size) (hj : j ≤ xs.size) (hz : xs.size ≤ sizeLine)
    (hq : ∀ s', (∀ b o, b ≠ I → s.heap.get? b = some o → s'.heap.get? b = some o) → s'.gens = s.gens → s'.drawn = s.drawn → s'.os = s.os → Q (xs.toList.drop j) s') : wpAny (model P w) A (collect (.ref I)) Q E s := by
  have W := walk_from hj ((Walks.list (prog := P) (w := w) (A := A.in1) (by simpa using nh) I l ne xs).toS)
  refine wpAny_collect_iter (T := "list_iterator") (.inr (.inr (.inl rfl))) W (fun i s st => st.1.typeIs) ?_ (fun b hb => ?_) List.mem_cons_self (fun s' acc mv ia => ?_) (by omega)
  · rw [Nat.zero_add]
    exact ⟨it, il⟩
  · rcases List.mem_cons.mp hb with rfl | hb
    · exact lI
    · rw [List.mem_singleton.mp hb]
      exact ll
  · have e : acc.toList = xs.toList.drop j := by
      apply List.ext_getElem?
      intro i
      rw [List.getElem?_drop]
      by_cases hi : i < acc.size
      · have h1 := ia.2 i acc[i] (by simp [hi])
        have h2 : xs[i + j]? = some acc[i] := h1
        rw [Array.getElem?_toList, Array.getElem?_toList, Nat.add_comm j i, h2]
        simp [hi]
      · rw [Array.getElem?_toList, Array.getElem?_toList, Array.getElem?_eq_none (by omega), Array.getElem?_eq_none]
        have h3 : acc.size = xs.size - j := ia.1
        omega
    rw [e]
    exact hq s' (fun b o hb e => mv.heap b o (fun z => hb (List.mem_singleton.mp z)) e) mv.gens mv.drawn mv.os
end
section
variable {X : Cx}
/-- the first i ones, the others as a new list -/
def gStar (K : PySem.W.Frag) (i : Nat) (t : TGs) : TG := fun v σ H Q => ∃ a xs, v = .ref a ∧ SqL K H a xs ∧ i ≤ xs.length ∧ ∀ p, H p = none → t (xs.take i ++ [.ref p]) σ (upd H p (.lst (xs.drop i))) Q
theorem pg_star {es ts : List Expr} {k : Nat} {pos : Pos} {t : TGs} (i : Nat) (hc : X.calm = true) (h : PGs X ts t) (hn : (assignEach es X.env).length = i + 1 := by rfl) (hst : (assignEach es X.env).findIdx? (·.1) = some i := by rfl)
    (he : (assignEach es X.env).map (·.2) = (assignEach ts X.env).map (·.2) := by rfl) : PG X (.Tuple es k pos) (gStar X.K i t) := by
  refine ⟨fun pins s σ H v u Q I r hw => ?_⟩
  obtain ⟨a, xs, rfl, hx, hi, hw⟩ := hw
  cases r
  obtain ⟨its, rv, pl, hz⟩ := I.list hx
  have len := rv.length
  have alt : a < s.heap.objs.size := by
    obtain ⟨o, ho, _⟩ := pl.isList
    exact Heap.lt_size ho
  rw [assign_Tuple]
  refine wpAny_bind (wpAny_standAt ?_)
  unfold unpack
  rw [hn, hst]
  refine wpAny_bind (wpAny_holding ?_)
  unfold unpackItems
  refine wpAny_bind ?_
  unfold notIterableAtAll
  refine wpAny_bind (wpAny_specialOf pl.isList.typeIs slot_list_iter.lookup ?_)
  refine wpAny_pure ?_
  simp only [Bool.false_eq_true, if_false]
  refine wpAny_bind (wpAny_holding (wpAny_pyIter_list pl.isList ?_))
  have ne : a ≠ s.heap.objs.size := Nat.ne_of_lt alt
  refine wpAny_bind (wpAny_holding (draw_lst ne i 0 _ _ ⟨_, Heap.get?_push_size _ rfl, rfl, rfl⟩ (pl.isList.push _) (by simp; omega) fun g it sb => ?_))
  rw [List.drop_zero]
  have il : g.IsList a its.toArray := (pl.isList.push _).extBut sb.extBut ne
  have lI : s.heap.objs.size < g.objs.size := by
    obtain ⟨o, ho, _⟩ := it
    exact Heap.lt_size ho
  rw [if_neg (by simp; omega)]
  refine wpAny_bind (wpAny_holding (collect_from (I.ok.hd hc) ne it il lI (Nat.lt_trans alt lI) (by simp; omega) (by simp; omega) fun s' kp g1 d1 o1 => ?_))
  dsimp only
  rw [if_neg (by omega)]
  have I1 : Inv X pins σ H s' := by
    obtain ⟨h', g', d', t', o'⟩ := s'
    dsimp only at g1 d1 o1
    subst g1 d1 o1
    exact I.kept fun b o e => kp b o (Nat.ne_of_lt (Heap.lt_size e)) (by
      have q := sb.extBut b o (Nat.ne_of_lt (Heap.lt_size e)) (Heap.get?_push_of_some _ e)
      exact q)
  rw [Nat.zero_add]
  have e1 : ∀ (l : List Value), l.take (l.length - (i + 1 - 1 - i)) = l := fun l => by
    rw [show i + 1 - 1 - i = 0 by omega, Nat.sub_zero, List.take_length]
  have e2 : ∀ (l : List Value), l.drop (l.length - (i + 1 - 1 - i)) = [] := fun l => by
    rw [show i + 1 - 1 - i = 0 by omega, Nat.sub_zero, List.drop_length]
  rw [e1, e2]
  refine wpAny_bind (wpAny_newList ?_ (by rw [List.length_drop]; simp; omega))
  refine wpAny_pure ?_
  rw [he]
  have nf : H s'.heap.objs.size = none := I1.hok.fresh (Nat.le_refl _)
  have I2 : Inv X pins σ (upd H s'.heap.objs.size (.lst (xs.drop i))) { s' with heap := s'.heap.push { cls := .type "list", data := .seq (its.drop i).toArray } } :=
    I1.laid (t' := s'.toks) (fun b o e => Heap.get?_push_of_some _ e) (Nat.le_refl _) ⟨by rw [List.length_drop]; omega, its.drop i, 0, rv.drop i, Heap.get?_push_size _ rfl⟩
  have q := hw _ nf
  refine h.run pins _ σ _ (xs.take i ++ [.ref s'.heap.objs.size]) _ Q ?_ ?_ q
  · simpa using I2
  · simpa using (rv.take i).append (.cons (show RelV (.ref s'.heap.objs.size) (.ref s'.heap.objs.size) from rfl) .nil)
end
end Lt
/-! texts by their signs -/
namespace Lt
open PySem PySem.Spec PyProof.Rows L2 SX
theorem str_eq {a b : List Nat} : decide (V.str (S a) = V.str (S b)) = decide (a = b) := by
  by_cases h : a = b
  · rw [h, decide_eq_true rfl, decide_eq_true rfl]
  · rw [decide_eq_false h, decide_eq_false fun z => h (S_inj (V.str.inj z))]
theorem cut_to (a : List Nat) {i : Int} (h : 0 ≤ i) : cutS (S a) none (some i) = S (a.take i.toNat) := by
  rw [C8.cutS_slice]
  exact slice_to h
theorem cut_from (a : List Nat) {i : Int} (h : 0 ≤ i) : cutS (S a) (some i) none = S (a.drop i.toNat) := by
  rw [C8.cutS_slice]
  exact slice_from h
theorem cut_to1 (a : List Nat) : cutS (S a) none (some 1) = S (a.take 1) := cut_to a (by decide)
theorem cut_from1 (a : List Nat) : cutS (S a) (some 1) none = S (a.drop 1) := cut_from a (by decide)
section
variable {K : PySem.W.Frag} {D : Ends} {σ : L2.St} {H : Hp} {Q : VK} {te : TE} {t u : TS} {tt : TT} {g : TG} {vs : List Nat} {l : List Nat} {a : Addr} {xs : List V}
theorem k_iS {R : It → Hp → Prop} (h : te σ H fun v H1 => ∃ x, v = .str x ∧ R (Its x) H1) : iStr te σ H R := h
theorem k_inS {tb : TS} {Nx : L2.St → Hp → Prop} {R : VK} (Pv : Nat → L2.St → Hp → Prop) (h0 : Pv 0 σ H)
    (hs : ∀ i c σ H, l[i]? = some c → Pv i σ H → g (.str (S [c])) σ H fun σ2 H2 => tb { nx := Pv (i + 1), rt := R, bk := Nx, ct := Pv (i + 1) } σ2 H2) (hd : ∀ σ H, Pv l.length σ H → Nx σ H) :
    ∃ W : Nat → Nat → L2.St → Hp → Prop, (∃ m, W 0 m σ H) ∧ ∀ i m σ H, W i m σ H →
      ((Its (S l)).stop i H ∧ Nx σ H) ∨ ((Its (S l)).go i H ∧ ∃ N : L2.St → Hp → Prop, (∀ σ' H', N σ' H' → ∃ m', m' < m ∧ W (i + 1) m' σ' H') ∧ ∀ x H', (Its (S l)).yld i H x H' → g x σ H' fun σ2 H2 => tb { nx := N, rt := R, bk := Nx, ct := N } σ2 H2) := by
  refine for_it (D := { nx := Nx, rt := R }) (walk_str (z := S l)) Pv h0 (fun _ _ _ _ _ => True.intro) ?_ ?_
  · rintro i x σ H H' _ p ⟨rfl, c, hc, rfl⟩
    exact hs i c σ _ (by simpa using hc) p
  · exact hd
theorem k_lcS {Qd : Addr → Hp → Prop} (Pv : Addr → Nat → List V → Hp → Prop) (h0 : ∀ D, H D = none → Pv D 0 [] (upd H D (.lst [])))
    (hs : ∀ D i c acc H', H D = none → i < l.length → l[i]? = some c → H' D = some (.lst acc) → acc.length ≤ i → Pv D i acc H' → g (.str (S [c])) (wipe σ vs) H' fun σ2 H2 => wipe σ2 vs = wipe σ vs ∧ tt σ2 H2 fun b H3 =>
      if b = true then te σ2 H3 fun y H4 => ∃ acc, H4 D = some (.lst acc) ∧ acc.length < sizeLine ∧ LcP Pv D (i + 1) (upd H4 D (.lst (acc ++ [y]))) else LcP Pv D (i + 1) H3)
    (h : ∀ D acc H', H D = none → H' D = some (.lst acc) → acc.length ≤ l.length → Pv D l.length acc H' → Qd D H') :
    ∀ D, H D = none → ∃ W : Nat → Nat → Hp → Prop, (∃ m, W 0 m (upd H D (.lst []))) ∧ ∀ i m H, W i m H →
      ((Its (S l)).stop i H ∧ Qd D H) ∨ ((Its (S l)).go i H ∧ ∃ Nx : Hp → Prop, (∀ H', Nx H' → ∃ m', m' < m ∧ W (i + 1) m' H') ∧ ∀ x H', (Its (S l)).yld i H x H' → g x (wipe σ vs) H' fun σ2 H2 => wipe σ2 vs = wipe σ vs ∧ tt σ2 H2 fun b H3 =>
        if b = true then te σ2 H3 fun y H4 => ∃ acc, H4 D = some (.lst acc) ∧ acc.length < sizeLine ∧ Nx (upd H4 D (.lst (acc ++ [y]))) else Nx H3) := by
  intro D nD
  refine lc_it (Qd := Qd D) (walk_str (z := S l)) (LcP Pv D) ⟨[], upd_same, Nat.le_refl _, h0 D nD⟩ (fun _ _ _ _ => True.intro) ?_ ?_
  · rintro i x H1 H' hi ⟨acc, e1, e2, e3⟩ ⟨rfl, c, hc, rfl⟩
    exact hs D i c acc _ nD (by simpa using hi) (by simpa using hc) e1 e2 e3
  · rintro H' ⟨acc, e1, e2, e3⟩
    exact h D acc H' nD e1 e2 e3
theorem k_m1 {r : V → List V → Hp → VK → Prop} {to : TE} (h : to σ H fun x H1 => (∃ a, x = .str a) ∧ te σ H1 fun y H2 => r x [y] H2 Q) : tM1 r to te σ H Q := h
theorem k_isS {x : Str} {A : Prop} (h : A) : (∃ a, V.str x = .str a) ∧ A := ⟨⟨x, rfl⟩, h⟩
theorem k_slS {lo hi : Option Int} (hl : l.length ≤ 100000) (h : Q (.str (cutS (S l) lo hi)) H) : rSlS (.str (S l)) lo hi H Q := ⟨_, rfl, by rw [S_len]; exact Nat.le_trans hl (by decide), h⟩
theorem k_ixS {i : Int} {c : Nat} {z : Str} (hl : z.cps.toList.length ≤ 100000) (hc : atI z.cps.toList i = some c) (h : Q (.str (S [c])) H) : rIxS (.str z) (.int i) H Q := ⟨z, i, c, rfl, rfl, Nat.le_trans (by show z.cps.size ≤ 100000; rw [← Array.length_toList]; exact hl) (by decide : 100000 ≤ sizeLine), hc, h⟩
/-- text.split(a sign) -/
theorem k_split {c : Nat} (hl : l.length ≤ 100000) (hc : c < 256) (h : ∀ p, H p = none → Q (.ref p) (upd H p (.lst ((TL.spl [c] 0 [] l).map fun z => V.str (S z))))) :
    ((S [c]).length == 0) = false ∧ (S l).length + 2 ≤ sizeLine ∧ rNewStrs (Txt.split (S l) (S [c])) H Q := by
  refine ⟨rfl, ?_, fun p np => ?_⟩
  · rw [S_len]
    exact Nat.le_trans (Nat.add_le_add_right hl 2) (by decide)
  · rw [split_S (by simp) (by simp [hc]), List.map_map]
    exact h p np
/-- ''.join(list of texts) -/
theorem k_join0 {ys : List (List Nat)} {w : Str} (hw : w = S []) (hp : H a = some (.lst (ys.map fun z => V.str (S z)))) (hz : (ys.map List.length).sum ≤ 100000) (hn : ys.length ≤ 100000) (h : Q (.str (S ys.flatten)) H) :
    ∃ x p, ∃ zs : List Str, V.str w = .str x ∧ [V.ref a] = [.ref p] ∧ (SqL K H p (zs.map V.str) ∨ SqT K H p (zs.map V.str)) ∧ (zs.map (·.length)).sum + zs.length * x.length ≤ 16777216 ∧ Q (.str (Txt.join x zs)) H := by
  subst hw
  refine ⟨_, _, ys.map S, rfl, rfl, .inl (SqL.of (by rw [hp, List.map_map]; rfl)), ?_, ?_⟩
  · rw [lens, S_len, List.length_nil, Nat.mul_zero]
    exact Nat.le_trans hz (by decide)
  · rw [join_S]
    have e : ∀ zs : List (List Nat), TL.joinL [] zs = zs.flatten := by
      intro zs
      induction zs with
      | nil => rfl
      | cons x zs ih =>
        cases zs with
        | nil => simp [TL.joinL]
        | cons y zs =>
          show x ++ ([] ++ TL.joinL [] (y :: zs)) = _
          rw [ih]
          simp
    rw [e]
    exact h
theorem k_szS {A : Prop} (hl : l.length ≤ 100000) (h : A) : (S l).length ≤ sizeLine ∧ A := ⟨by rw [S_len]; exact Nat.le_trans hl (by decide), h⟩
theorem k_addS {A : Prop} {x y : List Nat} (hz : x.length + y.length ≤ 100000) (h : A) : (S x).length + (S y).length ≤ sizeLine ∧ A := ⟨by rw [S_len, S_len]; exact Nat.le_trans hz (by decide), h⟩
theorem k_any {bs : List Bool} (hp : H a = some (.lst (bs.map V.bl))) (h : Q (.bl (bs.any id)) H) : rAny K [.ref a] H Q := ⟨a, bs, rfl, SqL.of hp, h⟩
theorem k_all {bs : List Bool} (hp : H a = some (.lst (bs.map V.bl))) (h : Q (.bl (bs.all id)) H) : rAll K [.ref a] H Q := ⟨a, bs, rfl, SqL.of hp, h⟩
theorem k_star {i : Nat} {t : TGs} {Qs : L2.St → Hp → Prop} (h1 : SqL K H a xs) (h2 : i ≤ xs.length) (h : ∀ p, H p = none → t (xs.take i ++ [.ref p]) σ (upd H p (.lst (xs.drop i))) Qs) : gStar K i t (.ref a) σ H Qs := ⟨a, xs, rfl, h1, h2, h⟩
end
/-! paths -/
def signs36 : List Nat := [97,98,99,100,101,102,103,104,105,106,107,108,109,110,111,112,113,114,115,116,117,118,119,120,121,122,48,49,50,51,52,53,54,55,56,57]
def nameB (n : List Nat) : Bool := decide (1 ≤ n.length) && decide (n.length ≤ 8) && n.all fun c => decide (c ∈ signs36)
def pathB : List Nat → Bool
  | 47 :: r => if r = [] then true else decide ((TL.spl [47] 0 [] r).length ≤ 5) && (TL.spl [47] 0 [] r).all nameB
  | _ => false
theorem lit_sl : Str.ofString "/" = S [47] := by decide +kernel
theorem lit_e : Str.ofString "" = S [] := by decide +kernel
def someL : List Nat := [32, 33, 34, 35, 36, 38, 39, 40, 41, 42, 43, 44, 45, 46, 47, 48, 49, 50, 51, 52, 53, 54, 55, 56, 57, 58, 59, 60, 61, 62, 63, 64, 65, 66, 67, 68, 69, 70, 71, 72, 73, 74, 75, 76, 77, 78, 79, 80, 81, 82, 83, 84, 85, 86, 87, 88, 89, 90, 91, 92, 93, 94, 95, 96, 123, 124, 125, 126, 97, 122, 47]
theorem lit_some : Str.ofString " !\"#$&'()*+,-./0123456789:;<=>?@ABCDEFGHIJKLMNOPQRSTUVWXYZ[\\]^_`{|}~az/" = S someL := by decide +kernel
theorem lit_ss : Str.ofString "//" = S [47, 47] := by decide +kernel
theorem lit_nl : Str.ofString "\n" = S [10] := by decide +kernel
theorem lit_36 : Str.ofString "abcdefghijklmnopqrstuvwxyz0123456789" = S signs36 := by decide +kernel
theorem take_snocT {α : Type} {l : List α} {i : Nat} {x : α} (h : l[i]? = some x) : l.take (i + 1) = l.take i ++ [x] := by
  rw [List.take_add_one, h]
  rfl
theorem spl_ne {s : List Nat} : ∀ (k : Nat) (acc l : List Nat), TL.spl s k acc l ≠ []
  | k, acc, [] => by rw [TL.spl_nil]; simp
  | 0, acc, c :: r => by
    show (if TL.pre s (c :: r) = true then acc :: TL.spl s (s.length - 1) [] r else TL.spl s 0 (acc ++ [c]) r) ≠ []
    split
    · simp
    · exact spl_ne 0 _ r
  | k + 1, acc, c :: r => spl_ne k acc r
theorem spl_acc {s : List Nat} : ∀ (acc l : List Nat), ∃ p q, TL.spl s 0 acc l = (acc ++ p) :: q
  | acc, [] => ⟨[], [], by rw [TL.spl_nil]; simp⟩
  | acc, c :: r => by
    by_cases h : TL.pre s (c :: r) = true
    · exact ⟨[], _, by rw [TL.spl_hit h, List.append_nil]⟩
    · obtain ⟨p, q, e⟩ := spl_acc (s := s) (acc ++ [c]) r
      exact ⟨c :: p, q, by rw [TL.spl_miss (Bool.eq_false_iff.mpr h), e]; simp⟩
theorem spl_hit1 {d : Nat} {r : List Nat} : TL.spl [d] 0 [] (d :: r) = [] :: TL.spl [d] 0 [] r := by
  rw [TL.spl_hit (by simp [TL.pre])]
  rfl
theorem spl_miss1 {c d : Nat} {r : List Nat} (h : c ≠ d) : ∃ p q, TL.spl [d] 0 [] (c :: r) = (c :: p) :: q := by
  rw [TL.spl_miss (TL.pre_of_head _ _ h)]
  obtain ⟨p, q, e⟩ := spl_acc (s := [d]) ([] ++ [c]) r
  exact ⟨p, q, by rw [e]; rfl⟩
theorem path_spl {l : List Nat} (h : l ≠ [47]) : ∃ root names, TL.spl [47] 0 [] l = root :: names ∧ pathB l = (decide (root = []) && decide (1 ≤ names.length) && decide (names.length ≤ 5) && names.all nameB) := by
  cases l with
  | nil => exact ⟨[], [], rfl, rfl⟩
  | cons c r =>
    by_cases hc : c = 47
    · subst hc
      have hr : r ≠ [] := fun z => h (by rw [z])
      refine ⟨[], _, spl_hit1, ?_⟩
      have h1 : 1 ≤ (TL.spl [47] 0 [] r).length := List.length_pos_iff.mpr (spl_ne 0 [] r)
      rw [show pathB (47 :: r) = if r = [] then true else decide ((TL.spl [47] 0 [] r).length ≤ 5) && (TL.spl [47] 0 [] r).all nameB from rfl, if_neg hr, decide_eq_true h1]
      rfl
    · obtain ⟨p, q, e⟩ := spl_miss1 (r := r) hc
      refine ⟨c :: p, q, e, ?_⟩
      rw [show pathB (c :: r) = false by unfold pathB; split <;> simp_all, decide_eq_false (by simp)]
      rfl
/-- what the law's own reckoning sees -/
theorem path_law {l : List Nat} (h : l ≠ [47]) : pathB l = (decide (l.take 1 = [47]) && decide ((TL.spl [47] 0 [] (l.drop 1)).length ≤ 5) && (TL.spl [47] 0 [] (l.drop 1)).all nameB) := by
  cases l with
  | nil => rfl
  | cons c r =>
    by_cases hc : c = 47
    · subst hc
      have hr : r ≠ [] := fun z => h (by rw [z])
      rw [show pathB (47 :: r) = if r = [] then true else decide ((TL.spl [47] 0 [] r).length ≤ 5) && (TL.spl [47] 0 [] r).all nameB from rfl, if_neg hr]
      rfl
    · rw [show pathB (c :: r) = false by unfold pathB; split <;> simp_all]
      simp [hc]
theorem all_no {α : Type} {f : α → Bool} {l : List α} {i : Nat} {x : α} (h : l[i]? = some x) (e : f x = false) : l.all f = false := by
  rw [List.all_eq_false]
  exact ⟨x, List.mem_of_getElem? h, by rw [e]; simp⟩
theorem all_snoc {α : Type} {f : α → Bool} {l : List α} {i : Nat} {x : α} (h : l[i]? = some x) (h1 : (l.take i).all f = true) (e : f x = true) : (l.take (i + 1)).all f = true := by
  rw [take_snocT h, List.all_append, h1]
  simp [e]
theorem any_not {l : List Nat} {f : Nat → Bool} : (l.map fun c => !f c).any id = !l.all f := by
  induction l with
  | nil => rfl
  | cons c l ih => simp [ih]
theorem str_at {ks : List (List Nat)} {i : Nat} {x : V} (h : (ks.map fun z => V.str (S z))[i]? = some x) : ∃ k, x = V.str (S k) ∧ ks[i]? = some k := by
  rw [List.getElem?_map] at h
  cases e : ks[i]? with
  | none =>
    rw [e] at h
    cases h
  | some k =>
    rw [e] at h
    exact ⟨k, (Option.some.inj h).symm, rfl⟩
theorem spl_len {s : List Nat} : ∀ (k : Nat) (acc l p : List Nat), p ∈ TL.spl s k acc l → p.length ≤ acc.length + l.length
  | k, acc, [], p, h => by
    rw [TL.spl_nil, List.mem_singleton] at h
    rw [h]
    exact Nat.le_add_right _ _
  | 0, acc, c :: r, p, h => by
    rw [show TL.spl s 0 acc (c :: r) = if TL.pre s (c :: r) = true then acc :: TL.spl s (s.length - 1) [] r else TL.spl s 0 (acc ++ [c]) r from rfl] at h
    split at h
    · rcases List.mem_cons.mp h with rfl | h
      · exact Nat.le_add_right _ _
      · have := spl_len _ [] r p h
        simp only [List.length_nil, List.length_cons] at this ⊢
        omega
    · have := spl_len 0 (acc ++ [c]) r p h
      simp only [List.length_append, List.length_cons, List.length_nil] at this ⊢
      omega
  | k + 1, acc, c :: r, p, h => by
    have := spl_len k acc r p h
    rw [List.length_cons]
    omega
theorem str_len {l : List Nat} : ((S l).cps.toList) = l := rfl
end Lt
/-! what stands in the heap, piece by piece: pieces that may change stand apart, tuples may be shared -/
namespace Lt
open PySem PySem.Spec PyProof.Rows L2
abbrev Asn := Hp → Prop
def Dj (H1 H2 : Hp) : Prop := ∀ a o, H1 a = some o → H2 a = none ∨ ∃ xs, o = .tup xs
def Hs : List Asn → Hp → Prop
  | [], _ => True
  | A :: L, H => ∃ H1 H2 : Hp, Same H1 H ∧ Same H2 H ∧ Dj H1 H2 ∧ A H1 ∧ Hs L H2
def un (H1 H2 : Hp) : Hp := fun a => match H1 a with
  | some o => some o
  | none => H2 a
theorem un_l {H1 H2 : Hp} : Same H1 (un H1 H2) := fun a o e => by
  unfold un
  rw [e]
theorem un_r {H1 H2 H : Hp} (s1 : Same H1 H) (s2 : Same H2 H) : Same H2 (un H1 H2) := fun a o e => by
  unfold un
  cases h : H1 a with
  | none => exact e
  | some u =>
    have h1 := s1 a u h
    have h2 := s2 a o e
    rw [h1] at h2
    exact h2
theorem un_le {H1 H2 H : Hp} (s1 : Same H1 H) (s2 : Same H2 H) : Same (un H1 H2) H := fun a o e => by
  unfold un at e
  cases h : H1 a with
  | none =>
    rw [h] at e
    exact s2 a o e
  | some u =>
    rw [h] at e
    have e2 : u = o := Option.some.inj e
    rw [← e2]
    exact s1 a u h
def tups (H : Hp) : Hp := fun a => match H a with
  | some (.tup xs) => some (.tup xs)
  | _ => none
theorem tups_le {H : Hp} : Same (tups H) H := fun a o e => by
  unfold tups at e
  cases h : H a with
  | none =>
    rw [h] at e
    cases e
  | some u =>
    rw [h] at e
    cases u with
    | tup xs =>
      cases e
      rfl
    | _ => cases e
theorem tups_at {H : Hp} {a : Addr} {xs : List V} (h : H a = some (.tup xs)) : tups H a = some (.tup xs) := by
  unfold tups
  rw [h]
theorem tups_tup {H : Hp} {a : Addr} {o : HO} (h : tups H a = some o) : ∃ xs, o = .tup xs := by
  unfold tups at h
  cases e : H a with
  | none =>
    rw [e] at h
    cases h
  | some u =>
    rw [e] at h
    cases u with
    | tup xs =>
      cases h
      exact ⟨xs, rfl⟩
    | _ => cases h
theorem Hs.sub {H H' : Hp} (s : Same H H') : ∀ {L : List Asn}, Hs L H → Hs L H'
  | [], _ => True.intro
  | _ :: _, ⟨H1, H2, s1, s2, d, a, h⟩ => ⟨H1, H2, s1.trans s, s2.trans s, d, a, h⟩
section
variable {A B : Asn} {L L' R : List Asn} {H H' : Hp} {p : Addr} {o : HO}
theorem Hs.tl (h : Hs (A :: L) H) : Hs L H := by
  obtain ⟨H1, H2, s1, s2, d, a, h⟩ := h
  exact h.sub s2
theorem Hs.under (f : ∀ H, Hs L H → Hs L' H) (h : Hs (A :: L) H) : Hs (A :: L') H := by
  obtain ⟨H1, H2, s1, s2, d, a, h⟩ := h
  exact ⟨H1, H2, s1, s2, d, a, f _ h⟩
theorem Hs.swap (h : Hs (A :: B :: L) H) : Hs (B :: A :: L) H := by
  obtain ⟨H1, H2, s1, s2, d, a, H21, H22, t1, t2, e, b, h⟩ := h
  have r1 := t1.trans s2
  have r2 := t2.trans s2
  refine ⟨H21, un H1 H22, r1, un_le s1 r2, fun c o hc => ?_, b, H1, H22, un_l, un_r s1 r2, fun c o hc => ?_, a, h⟩
  · rcases e c o hc with z | z
    · cases h1 : H1 c with
      | none =>
        left
        unfold un
        rw [h1]
        exact z
      | some u =>
        rcases d c u h1 with y | ⟨xs, rfl⟩
        · rw [t1 c o hc] at y
          cases y
        · right
          have q1 := s1 c _ h1
          have q2 := r1 c _ hc
          rw [q1] at q2
          exact ⟨xs, (Option.some.inj q2).symm⟩
    · exact .inr z
  · rcases d c o hc with z | z
    · left
      cases h2 : H22 c with
      | none => rfl
      | some u =>
        rw [t2 c u h2] at z
        cases z
    · exact .inr z
/-- a piece is taken out of the list -/
inductive Pick : List Asn → Asn → List Asn → Prop
  | here {A : Asn} {L : List Asn} : Pick (A :: L) A L
  | there {A B : Asn} {L R : List Asn} : Pick L A R → Pick (B :: L) A (B :: R)
theorem Pick.go (k : Pick L A R) : ∀ {H : Hp}, Hs L H → Hs (A :: R) H := by
  induction k with
  | here => exact fun h => h
  | there k ih => exact fun h => (Hs.under (fun _ => ih) h).swap
class Mono (A : Asn) : Prop where
  mono : ∀ {H H' : Hp}, Same H H' → A H → A H'
class Tup (A : Asn) : Prop where
  tup : ∀ {H : Hp}, A H → A (tups H)
theorem Hs.hd [m : Mono A] (h : Hs (A :: L) H) : A H := by
  obtain ⟨H1, H2, s1, s2, d, a, h⟩ := h
  exact m.mono s1 a
theorem Hs.at_ [Mono A] (h : Hs L H) (k : Pick L A R) : A H := (k.go h).hd
theorem Hs.add [t : Tup A] (a : A H) (h : Hs L H) : Hs (A :: L) H := ⟨tups H, H, tups_le, Same.refl H, fun _ _ e => .inr (tups_tup e), t.tup a, h⟩
def cell (p : Addr) (o : HO) : Asn := fun H => H p = some o
instance : Mono (cell p o) := ⟨fun s h => s _ _ h⟩
instance {xs : List V} : Tup (cell p (.tup xs)) := ⟨fun h => tups_at h⟩
def solo (p : Addr) (o : HO) : Hp := fun a => if a = p then some o else none
theorem solo_at : solo p o p = some o := if_pos rfl
theorem solo_of {a : Addr} {u : HO} (h : solo p o a = some u) : a = p ∧ u = o := by
  unfold solo at h
  by_cases e : a = p
  · rw [if_pos e] at h
    exact ⟨e, (Option.some.inj h).symm⟩
  · rw [if_neg e] at h
    cases h
theorem solo_le (h : H p = some o) : Same (solo p o) H := fun a u e => by
  obtain ⟨rfl, rfl⟩ := solo_of e
  exact h
theorem Hs.new (n : H p = none) (h : Hs L H) : Hs (cell p o :: L) (upd H p o) :=
  ⟨solo p o, H, solo_le upd_same, same_new n, fun a u e => by
    obtain ⟨rfl, rfl⟩ := solo_of e
    exact .inl n, solo_at, h⟩
theorem Hs.put {o' : HO} (nt : ∀ xs, o ≠ .tup xs) (h : Hs (cell p o :: L) H) : Hs (cell p o' :: L) (upd H p o') := by
  obtain ⟨H1, H2, s1, s2, d, a, h⟩ := h
  have n2 : H2 p = none := by
    rcases d p o a with z | ⟨xs, z⟩
    · exact z
    · exact absurd z (nt xs)
  refine ⟨solo p o', H2, solo_le upd_same, fun b u e => ?_, fun b u e => ?_, solo_at, h⟩
  · rw [upd_ne (ne_of_none e n2)]
    exact s2 b u e
  · obtain ⟨rfl, rfl⟩ := solo_of e
    exact .inl n2
/-- a piece that knows the tuples -/
theorem Hs.pack (f : ∀ H1, Same H1 H → H1 p = some o → (∀ a xs, H a = some (.tup xs) → H1 a = some (.tup xs)) → A H1) (h : Hs (cell p o :: L) H) : Hs (A :: L) H := by
  obtain ⟨H1, H2, s1, s2, d, a, h⟩ := h
  have hp : H p = some o := s1 _ _ a
  have s0 := solo_le hp
  have st := tups_le (H := H)
  refine ⟨un (solo p o) (tups H), H2, un_le s0 st, s2, fun b u e => ?_, f _ (un_le s0 st) (un_l _ _ solo_at) (fun b xs e => un_r s0 st _ _ (tups_at e)), h⟩
  unfold un at e
  cases h1 : solo p o b with
  | none =>
    rw [h1] at e
    exact .inr (tups_tup e)
  | some v =>
    rw [h1] at e
    have e2 : v = u := Option.some.inj e
    rw [← e2]
    obtain ⟨rfl, rfl⟩ := solo_of h1
    exact d b v a
theorem Hs.weak (f : ∀ H1, A H1 → B H1) (h : Hs (A :: L) H) : Hs (B :: L) H := by
  obtain ⟨H1, H2, s1, s2, d, a, h⟩ := h
  exact ⟨H1, H2, s1, s2, d, f _ a, h⟩
theorem Hs.ex {α : Sort _} {A : α → Asn} (h : Hs ((fun H => ∃ x, A x H) :: L) H) : ∃ x, Hs (A x :: L) H := by
  obtain ⟨H1, H2, s1, s2, d, ⟨x, a⟩, h⟩ := h
  exact ⟨x, H1, H2, s1, s2, d, a, h⟩
/-- a piece and a fact that speaks of tuples alone -/
theorem Hs.fact {F : Prop} (h : Hs ((fun H => A H ∧ F) :: L) H) : Hs (A :: L) H ∧ F := by
  obtain ⟨H1, H2, s1, s2, d, ⟨a, x⟩, h⟩ := h
  exact ⟨⟨H1, H2, s1, s2, d, a, h⟩, x⟩
/-- two pieces as one -/
def both (A B : Asn) : Asn := Hs [A, B]
theorem Hs.join (h : Hs (A :: B :: L) H) : Hs (Hs [A, B] :: L) H := by
  obtain ⟨H1, H2, s1, s2, d, a, H21, H22, t1, t2, e, b, h⟩ := h
  have r1 := t1.trans s2
  have r2 := t2.trans s2
  refine ⟨un H1 H21, H22, un_le s1 r1, r2, fun c o hc => ?_, ⟨H1, H21, un_l, un_r s1 r1, fun c o hc => ?_, a, H21, fun _ => none, Same.refl _, (fun _ _ z => by cases z), (fun _ _ _ => .inl rfl), b, True.intro⟩, h⟩
  · unfold un at hc
    cases h1 : H1 c with
    | none =>
      rw [h1] at hc
      exact e c o hc
    | some u =>
      rw [h1] at hc
      have e2 : u = o := Option.some.inj hc
      rw [← e2]
      rcases d c u h1 with z | z
      · left
        cases h2 : H22 c with
        | none => rfl
        | some v =>
          rw [t2 c v h2] at z
          cases z
      · exact .inr z
  · rcases d c o hc with z | z
    · left
      cases h2 : H21 c with
      | none => rfl
      | some v =>
        rw [t1 c v h2] at z
        cases z
    · exact .inr z
theorem Hs.split (h : Hs (Hs [A, B] :: L) H) : Hs (A :: B :: L) H := by
  obtain ⟨H1, H2, s1, s2, d, ⟨H3, H4, t1, t2, e, a, H5, H6, u1, u2, e2, b, _⟩, h⟩ := h
  have v5 : Same H5 H := (u1.trans t2).trans s1
  have v3 : Same H3 H := t1.trans s1
  refine ⟨H3, un H5 H2, v3, un_le v5 s2, fun c o hc => ?_, a, H5, H2, un_l, un_r v5 s2, fun c o hc => d c o (t2 c o (u1 c o hc)), b, h⟩
  cases h5 : H5 c with
  | none =>
    rcases d c o (t1 c o hc) with z | z
    · left
      unfold un
      rw [h5]
      exact z
    · exact .inr z
  | some v =>
    rcases e c o hc with z | z
    · rw [u1 c v h5] at z
      cases z
    · exact .inr z
end
/-! ### data: scalars and tuples of them -/
mutual
inductive Dv (H : Hp) : V → PyData → Prop
  | non : Dv H .non .none
  | bl (b : Bool) : Dv H (.bl b) (.bool b)
  | int (i : Int) : Dv H (.int i) (.int i)
  | str (x : Str) : Dv H (.str x) (.str x)
  | tup {t : Addr} {xs : List V} {ds : List PyData} : H t = some (.tup xs) → DvAll H xs ds → Dv H (.ref t) (.tuple ds)
inductive DvAll (H : Hp) : List V → List PyData → Prop
  | nil : DvAll H [] []
  | cons {x : V} {d : PyData} {xs : List V} {ds : List PyData} : Dv H x d → DvAll H xs ds → DvAll H (x :: xs) (d :: ds)
end
mutual
theorem Dv.map {H H' : Hp} (s : ∀ a xs, H a = some (.tup xs) → H' a = some (.tup xs)) : ∀ {x : V} {d : PyData}, Dv H x d → Dv H' x d
  | _, _, .non => .non
  | _, _, .bl b => .bl b
  | _, _, .int i => .int i
  | _, _, .str x => .str x
  | _, _, .tup h t => .tup (s _ _ h) (DvAll.map s t)
theorem DvAll.map {H H' : Hp} (s : ∀ a xs, H a = some (.tup xs) → H' a = some (.tup xs)) : ∀ {xs : List V} {ds : List PyData}, DvAll H xs ds → DvAll H' xs ds
  | _, _, .nil => .nil
  | _, _, .cons h t => .cons (Dv.map s h) (DvAll.map s t)
end
mutual
theorem Dv.dp {K : PySem.W.Frag} {H : Hp} : ∀ {x : V} {d : PyData}, Dv H x d → Dp K H x d
  | _, _, .non => .non
  | _, _, .bl b => .bl b
  | _, _, .int i => .int i
  | _, _, .str x => .str x
  | _, _, .tup h t => .tup (SqT.of h) (DvAll.dp t)
theorem DvAll.dp {K : PySem.W.Frag} {H : Hp} : ∀ {xs : List V} {ds : List PyData}, DvAll H xs ds → DpAll K H xs ds
  | _, _, .nil => .nil
  | _, _, .cons h t => .cons (Dv.dp h) (DvAll.dp t)
end
theorem Dv.sub {H H' : Hp} {x : V} {d : PyData} (s : Same H H') (h : Dv H x d) : Dv H' x d := h.map fun a xs e => s a _ e
theorem DvAll.sub {H H' : Hp} {xs : List V} {ds : List PyData} (s : Same H H') (h : DvAll H xs ds) : DvAll H' xs ds := h.map fun a xs e => s a _ e
def dv (x : V) (d : PyData) : Asn := fun H => Dv H x d
def dvs (xs : List V) (ds : List PyData) : Asn := fun H => DvAll H xs ds
section
variable {L R : List Asn} {H : Hp} {p : Addr} {o : HO} {x : V} {d : PyData} {xs vs : List V} {ds : List PyData}
instance : Mono (dv x d) := ⟨fun s h => Dv.sub s h⟩
instance : Mono (dvs xs ds) := ⟨fun s h => DvAll.sub s h⟩
instance : Tup (dv x d) := ⟨fun h => h.map fun _ _ e => tups_at e⟩
instance : Tup (dvs xs ds) := ⟨fun h => h.map fun _ _ e => tups_at e⟩
theorem DvAll.length : ∀ {xs : List V} {ds : List PyData}, DvAll H xs ds → xs.length = ds.length
  | _, _, .nil => rfl
  | _, _, .cons _ t => congrArg Nat.succ (DvAll.length t)
theorem DvAll.append : ∀ {xs ys : List V} {ds es : List PyData}, DvAll H xs ds → DvAll H ys es → DvAll H (xs ++ ys) (ds ++ es)
  | _, _, _, _, .nil, h => h
  | _, _, _, _, .cons a t, h => .cons a (DvAll.append t h)
theorem DvAll.get : ∀ {xs : List V} {ds : List PyData} {i : Nat} {x : V}, DvAll H xs ds → xs[i]? = some x → ∃ d, ds[i]? = some d ∧ Dv H x d
  | _, _, _, _, .nil, e => by simp at e
  | _, _, 0, _, .cons a _, e => by
    have e1 := Option.some.inj (show some _ = some _ from by simpa using e)
    subst e1
    exact ⟨_, rfl, a⟩
  | _, _, i + 1, _, .cons _ t, e => by
    obtain ⟨d, h1, h2⟩ := DvAll.get (i := i) t (by simpa using e)
    exact ⟨d, by simpa using h1, h2⟩
theorem DvAll.get2 : ∀ {xs : List V} {ds : List PyData} {i : Nat} {d : PyData}, DvAll H xs ds → ds[i]? = some d → ∃ x, xs[i]? = some x ∧ Dv H x d
  | _, _, _, _, .nil, e => by simp at e
  | _, _, 0, _, .cons a _, e => by
    have e1 := Option.some.inj (show some _ = some _ from by simpa using e)
    subst e1
    exact ⟨_, rfl, a⟩
  | _, _, i + 1, _, .cons _ t, e => by
    obtain ⟨d, h1, h2⟩ := DvAll.get2 (i := i) t (by simpa using e)
    exact ⟨d, by simpa using h1, h2⟩
theorem DvAll.take : ∀ {xs : List V} {ds : List PyData} (n : Nat), DvAll H xs ds → DvAll H (xs.take n) (ds.take n)
  | _, _, 0, _ => .nil
  | _, _, _ + 1, .nil => .nil
  | _, _, n + 1, .cons a t => .cons a (DvAll.take n t)
theorem DvAll.drop : ∀ {xs : List V} {ds : List PyData} (n : Nat), DvAll H xs ds → DvAll H (xs.drop n) (ds.drop n)
  | _, _, 0, h => h
  | _, _, _ + 1, .nil => .nil
  | _, _, n + 1, .cons _ t => DvAll.drop n t
theorem DvAll.set {x : V} {d : PyData} (h : Dv H x d) : ∀ {xs : List V} {ds : List PyData} (n : Nat), DvAll H xs ds → DvAll H (xs.set n x) (ds.set n d)
  | _, _, _, .nil => .nil
  | _, _, 0, .cons _ t => .cons h t
  | _, _, n + 1, .cons a t => .cons a (DvAll.set h n t)
theorem DvAll.rev : ∀ {xs : List V} {ds : List PyData}, DvAll H xs ds → DvAll H xs.reverse ds.reverse
  | _, _, .nil => .nil
  | _, _, .cons a t => by
    rw [List.reverse_cons, List.reverse_cons]
    exact (DvAll.rev t).append (.cons a .nil)
theorem DvAll.ints : ∀ ks : List Int, DvAll H (ks.map V.int) (ks.map PyData.int)
  | [] => .nil
  | _ :: r => .cons (.int _) (DvAll.ints r)
theorem DvAll.strs : ∀ ks : List Str, DvAll H (ks.map V.str) (ks.map PyData.str)
  | [] => .nil
  | _ :: r => .cons (.str _) (DvAll.strs r)
theorem DvAll.bls : ∀ ks : List Bool, DvAll H (ks.map V.bl) (ks.map PyData.bool)
  | [] => .nil
  | _ :: r => .cons (.bl _) (DvAll.bls r)
/-- a scalar's value -/
def sca : PyData → Option V
  | .none => some .non
  | .bool b => some (.bl b)
  | .int i => some (.int i)
  | .str x => some (.str x)
  | _ => none
theorem Dv.sca (h : Dv H x d) {v : V} (e : sca d = some v) : x = v := by
  cases h with
  | tup _ _ => cases e
  | _ => exact Option.some.inj e
theorem Dv.ofSca {v : V} (e : Lt.sca d = some v) : Dv H v d := by
  cases d with
  | none =>
    cases e
    exact .non
  | bool b =>
    cases e
    exact .bl b
  | int b =>
    cases e
    exact .int b
  | str b =>
    cases e
    exact .str b
  | _ => cases e
def scas : List PyData → Option (List V)
  | [] => some []
  | d :: ds => match sca d, scas ds with
    | some v, some vs => some (v :: vs)
    | _, _ => none
theorem DvAll.scas : ∀ {xs vs : List V} {ds : List PyData}, DvAll H xs ds → scas ds = some vs → xs = vs
  | _, _, _, .nil, e => Option.some.inj e
  | _, _, _, .cons (d := d) (ds := ds) h t, e => by
    unfold Lt.scas at e
    cases e1 : Lt.sca d with
    | none =>
      rw [e1] at e
      cases e
    | some v =>
      cases e2 : Lt.scas ds with
      | none =>
        rw [e1, e2] at e
        cases e
      | some vs =>
        rw [e1, e2] at e
        cases e
        rw [h.sca e1, DvAll.scas t e2]
theorem scas_ints (ks : List Int) : scas (ks.map PyData.int) = some (ks.map V.int) := by
  induction ks with
  | nil => rfl
  | cons k r ih =>
    rw [List.map_cons, List.map_cons]
    unfold scas
    rw [ih]
    rfl
theorem scas_strs (ks : List Str) : scas (ks.map PyData.str) = some (ks.map V.str) := by
  induction ks with
  | nil => rfl
  | cons k r ih =>
    rw [List.map_cons, List.map_cons]
    unfold scas
    rw [ih]
    rfl
theorem DvAll.intsEq {ks : List Int} (h : DvAll H xs (ks.map PyData.int)) : xs = ks.map V.int := h.scas (scas_ints ks)
theorem DvAll.strsEq {ks : List Str} (h : DvAll H xs (ks.map PyData.str)) : xs = ks.map V.str := h.scas (scas_strs ks)
/-- a list of data; one whose values are told -/
def isL (p : Addr) (ds : List PyData) : Asn := fun H => ∃ vs, H p = some (.lst vs) ∧ DvAll H vs ds
def isV (p : Addr) (vs : List V) (ds : List PyData) : Asn := fun H => H p = some (.lst vs) ∧ DvAll H vs ds
abbrev isI (p : Addr) (ks : List Int) : Asn := isL p (ks.map PyData.int)
abbrev isS (p : Addr) (ks : List Str) : Asn := isL p (ks.map PyData.str)
instance : Mono (isL p ds) := ⟨fun s ⟨vs, h1, h2⟩ => ⟨vs, s _ _ h1, h2.sub s⟩⟩
instance : Mono (isV p vs ds) := ⟨fun s ⟨h1, h2⟩ => ⟨s _ _ h1, h2.sub s⟩⟩
theorem Hs.openL (h : Hs (isL p ds :: L) H) : ∃ vs, Hs (isV p vs ds :: L) H := h.ex (A := fun vs => isV p vs ds)
theorem Hs.closeL (h : Hs (isV p vs ds :: L) H) : Hs (isL p ds :: L) H := h.weak fun _ a => ⟨vs, a⟩
theorem Hs.cellV (h : Hs (isV p vs ds :: L) H) : Hs (cell p (.lst vs) :: L) H ∧ DvAll H vs ds := ⟨h.weak fun _ a => a.1, h.hd.2⟩
theorem Hs.packV (h : Hs (cell p (.lst vs) :: L) H) (hd : DvAll H vs ds) : Hs (isV p vs ds :: L) H := h.pack fun _ _ h1 h2 => ⟨h1, hd.map h2⟩
theorem Hs.packL (h : Hs (cell p (.lst vs) :: L) H) (hd : DvAll H vs ds) : Hs (isL p ds :: L) H := (h.packV hd).closeL
theorem Hs.newL (n : H p = none) (h : Hs L H) (hd : DvAll H vs ds) : Hs (isL p ds :: L) (upd H p (.lst vs)) := (h.new n).packL (hd.sub (same_new n))
theorem Hs.putL {us : List V} {es : List PyData} (h : Hs (isL p ds :: L) H) (hd : DvAll H us es) : Hs (isL p es :: L) (upd H p (.lst us)) := by
  obtain ⟨vs, h⟩ := h.openL
  have hp := h.hd.1
  refine Hs.packL ((h.cellV.1).put fun xs z => by cases z) (hd.map fun a xs e => ?_)
  rw [upd_ne (ne_of e hp fun z => by cases z)]
  exact e
theorem Hs.newT (n : H p = none) (h : Hs L H) (hd : DvAll H vs ds) : Hs (dv (.ref p) (.tuple ds) :: L) (upd H p (.tup vs)) :=
  (h.sub (same_new n)).add (Dv.tup upd_same (hd.sub (same_new n)))
theorem Hs.ints {ks : List Int} (h : Hs (isI p ks :: L) H) : H p = some (.lst (ks.map V.int)) := by
  obtain ⟨vs, h1, h2⟩ := h.hd
  rw [h1, h2.intsEq]
end
end Lt
/-! the rules by pieces -/
namespace Lt
open PySem PySem.Spec PyProof.Rows L2
inductive HasL : List Asn → Addr → List PyData → Prop
  | l {L R : List Asn} {p : Addr} {ds : List PyData} : Pick L (isL p ds) R → HasL L p ds
  | v {L R : List Asn} {p : Addr} {vs : List V} {ds : List PyData} : Pick L (isV p vs ds) R → HasL L p ds
theorem HasL.there {A : Asn} {L : List Asn} {p : Addr} {ds : List PyData} (h : HasL L p ds) : HasL (A :: L) p ds := by
  cases h with
  | l k => exact .l (.there k)
  | v k => exact .v (.there k)
/-- an instance, its dict's address hidden -/
def obj (C a : Addr) (fs : List (Str × V)) : Asn := fun H => ∃ dx, H a = some (.ins C dx fs)
instance {C a : Addr} {fs : List (Str × V)} : Mono (obj C a fs) := ⟨fun s ⟨dx, h⟩ => ⟨dx, s _ _ h⟩⟩
/-- the bag -/
def isBag (b : Addr) (ns : List Int) : Asn := fun H => ∃ l, Bag H b l ns
instance {b : Addr} {ns : List Int} : Mono (isBag b ns) := ⟨fun s ⟨l, h⟩ => ⟨l, h.keep s⟩⟩
inductive Sel : List Asn → List Asn → Prop
  | nil {L : List Asn} : Sel L []
  | refl {L : List Asn} : Sel L L
  | cons {L R M : List Asn} {A : Asn} : Pick L A R → Sel R M → Sel L (A :: M)
  | drop {L M : List Asn} {A : Asn} : Sel L M → Sel (A :: L) M
theorem Sel.go {L M : List Asn} (s : Sel L M) : ∀ {H : Hp}, Hs L H → Hs M H := by
  induction s with
  | nil => exact fun _ => True.intro
  | refl => exact fun h => h
  | cons k s ih => exact fun h => Hs.under (fun _ z => ih z) (k.go h)
  | drop s ih => exact fun h => ih h.tl
section
variable {K : PySem.W.Frag} {L R R2 L' M : List Asn} {H : Hp} {Q : VK} {E : XK} {D : Ends} {σ : L2.St} {p q a b : Addr} {ds es : List PyData} {d : PyData} {v x y : V} {vs xs : List V} {ks js ns : List Int}
theorem HasL.at_ (k : HasL L p ds) (h : Hs L H) : ∃ vs, H p = some (.lst vs) ∧ DvAll H vs ds := by
  cases k with
  | l k => exact h.at_ k
  | v k => exact ⟨_, h.at_ k⟩
theorem HasL.ints (k : HasL L p (ks.map PyData.int)) (h : Hs L H) : H p = some (.lst (ks.map V.int)) := by
  obtain ⟨vs, h1, h2⟩ := k.at_ h
  rw [h1, h2.intsEq]
theorem HasL.strs {ks : List Str} (k : HasL L p (ks.map PyData.str)) (h : Hs L H) : H p = some (.lst (ks.map V.str)) := by
  obtain ⟨vs, h1, h2⟩ := k.at_ h
  rw [h1, h2.strsEq]
theorem Hs.dvAt (h : Hs L H) (k : Pick L (dv x d) R) : Dv H x d := h.at_ k
theorem Dv.tupOf {ds : List PyData} (h : Dv H x (.tuple ds)) : ∃ t xs, x = .ref t ∧ H t = some (.tup xs) ∧ DvAll H xs ds := by
  cases h with
  | tup h t => exact ⟨_, _, rfl, h, t⟩
/-! the bag -/
theorem Hs.bag (h : Hs (isBag b ns :: L) H) : ∃ l, Bag H b l ns ∧ ∀ H', SameB b H H' → Bag H' b l ns → Hs (isBag b ns :: L) H' := by
  obtain ⟨H1, H2, s1, s2, d, ⟨l, i, r, z, h0, h1, h2, h3⟩, h⟩ := h
  refine ⟨l, ⟨i, r, z, h0, s1 _ _ h1, s1 _ _ h2, h3⟩, fun H' s hb => ?_⟩
  obtain ⟨i', r', z', g0, g1, g2, g3⟩ := hb
  have n2 : H2 b = none := by
    rcases d b _ h1 with z | ⟨_, z⟩
    · exact z
    · cases z
  have n3 : H2 l = none := by
    rcases d l _ h2 with z | ⟨_, z⟩
    · exact z
    · cases z
  have sb := solo_le g1
  have sl := solo_le g2
  refine ⟨un (solo b (.lst [.ref l, .int i', .int r', .int z'])) (solo l (.lst (ns.map V.int))), H2, un_le sb sl, fun c o hc => s c o (ne_of_none hc n2) (s2 c o hc), fun c o hc => ?_, ⟨l, i', r', z', g0, un_l _ _ solo_at, un_r sb sl _ _ solo_at, g3⟩, h⟩
  unfold un at hc
  cases e : solo b (.lst [.ref l, .int i', .int r', .int z']) c with
  | some u =>
    obtain ⟨rfl, _⟩ := solo_of e
    exact .inl n2
  | none =>
    rw [e] at hc
    obtain ⟨rfl, rfl⟩ := solo_of hc
    exact .inl n3
theorem Hs.bagNew {l : Addr} {H' : Hp} (h : Hs L H) (s : Same H H') (nb : H b = none) (nl : H l = none) (hb : Bag H' b l ns) : Hs (isBag b ns :: L) H' := by
  obtain ⟨i, r, z, g0, g1, g2, g3⟩ := hb
  have sb := solo_le g1
  have sl := solo_le g2
  refine ⟨un (solo b (.lst [.ref l, .int i, .int r, .int z])) (solo l (.lst (ns.map V.int))), H, un_le sb sl, s, fun c o hc => ?_, ⟨l, i, r, z, g0, un_l _ _ solo_at, un_r sb sl _ _ solo_at, g3⟩, h⟩
  unfold un at hc
  cases e : solo b (.lst [.ref l, .int i, .int r, .int z]) c with
  | some u =>
    obtain ⟨rfl, _⟩ := solo_of e
    exact .inl nb
  | none =>
    rw [e] at hc
    obtain ⟨rfl, rfl⟩ := solo_of hc
    exact .inl nl
/-! rules: any wish that a reading brings -/
section
variable {X : Cx} {e : Expr} {es : List Expr} {t t' : TE} {u : TA} {pos : Pos}
theorem weakPE (h : PE X e t) (f : ∀ σ H Q, t' σ H Q → t σ H Q) : PE X e t' := ⟨fun pins s σ H Q I z => h.run pins s σ H Q I (f σ H Q z)⟩
def mcA (u : TA) : TA := fun σ H Q => ∃ Q0, u σ H Q0 ∧ ∀ xs H, Q0 xs H → Q xs H
theorem mcPA (h : PA X es u) : PA X es (mcA u) := ⟨fun pos pins s σ H Q I ⟨Q0, z, f⟩ => thn (h.run pos pins s σ H Q0 I z) fun us s' ⟨xs, H', I', r, q⟩ => ⟨xs, H', I', r, f _ _ q⟩⟩
def mcE (t : TE) : TE := fun σ H Q => ∃ Q0, t σ H Q0 ∧ ∀ x H, Q0 x H → Q x H
theorem mcPE (h : PE X e t) : PE X e (mcE t) := ⟨fun pins s σ H Q I ⟨Q0, z, f⟩ => thn (h.run pins s σ H Q0 I z) fun us s' ⟨xs, H', I', r, q⟩ => ⟨xs, H', I', r, f _ _ q⟩⟩
def sLst (u : TA) : TE := fun σ H Q => u σ H fun xs H1 => ∃ L ds, Hs L H1 ∧ DvAll H1 xs ds ∧ xs.length ≤ 100000 ∧ ∀ p H', Hs (isL p ds :: L) H' → Q (.ref p) H'
def sLstC (u : TA) : TE := fun σ H Q => u σ H fun xs H1 => ∃ L, Hs L H1 ∧ xs.length ≤ 100000 ∧ ∀ p H', Hs (cell p (.lst xs) :: L) H' → Q (.ref p) H'
def sTup (u : TA) : TE := fun σ H Q => u σ H fun xs H1 => ∃ L ds, Hs L H1 ∧ DvAll H1 xs ds ∧ xs.length ≤ 100000 ∧ ∀ p H', Hs (dv (.ref p) (.tuple ds) :: L) H' → Q (.ref p) H'
def sTupC (u : TA) : TE := fun σ H Q => u σ H fun xs H1 => ∃ L, Hs L H1 ∧ xs.length ≤ 100000 ∧ ∀ p H', Hs (cell p (.tup xs) :: L) H' → Q (.ref p) H'
theorem le_line {n : Nat} (h : n ≤ 100000) : n ≤ sizeLine := Nat.le_trans h (by decide)
theorem lt_line {n : Nat} (h : n ≤ 100000) : n < sizeLine := Nat.lt_of_le_of_lt h (by decide)
theorem pe_lstS (h : PA X es u) : PE X (.List es pos) (sLst u) := weakPE (pe_lst (mcPA h)) fun σ H Q z => ⟨_, z, fun xs H1 ⟨L, ds, hS, hd, hl, q⟩ => ⟨le_line hl, fun p np => q p _ (hS.newL np hd)⟩⟩
theorem pe_lstC (h : PA X es u) : PE X (.List es pos) (sLstC u) := weakPE (pe_lst (mcPA h)) fun σ H Q z => ⟨_, z, fun xs H1 ⟨L, hS, hl, q⟩ => ⟨le_line hl, fun p np => q p _ (hS.new np)⟩⟩
theorem pe_tupS {x1} (h : PA X es u) : PE X (.Tuple es x1 pos) (sTup u) := weakPE (pe_tup (mcPA h)) fun σ H Q z => ⟨_, z, fun xs H1 ⟨L, ds, hS, hd, hl, q⟩ => ⟨le_line hl, fun p np => q p _ (hS.newT np hd)⟩⟩
theorem pe_tupC {x1} (h : PA X es u) : PE X (.Tuple es x1 pos) (sTupC u) := weakPE (pe_tup (mcPA h)) fun σ H Q z => ⟨_, z, fun xs H1 ⟨L, hS, hl, q⟩ => ⟨le_line hl, fun p np => q p _ (hS.new np)⟩⟩
/-- list(range(..)) -/
def sLstRg (tr : L2.St → Hp → (Int → Int → Hp → Prop) → Prop) : TE := fun σ H Q => tr σ H fun a b H1 => ∃ L, Hs L H1 ∧ RgOk a b ∧ ∀ p H', Hs (isL p ((rgI a (b - a)).map PyData.int) :: L) H' → Q (.ref p) H'
theorem pe_listRgS {te : L2.St → Hp → (Int → Int → Hp → Prop) → Prop} {p pos : Pos} (hc : X.calm = true) (hg : Gl X "list") (hm : X.mg "list" = none) (he : PRg X e te) (na : starEach [e] X.env = (false, eval e X.env) :: starEach [] X.env := by rfl) : PE X (.Call (.Name "list" p) [e] [] pos) (sLstRg te) := by
  have he' : PRg X e (fun σ H R => ∃ R0, te σ H R0 ∧ ∀ a b H, R0 a b H → R a b H) := by
    intro pins s σ H R I ⟨R0, z, f⟩
    refine thn (he pins s σ H R0 I z) fun x s' hx => ?_
    obtain ⟨r, a, b, t, u, v, H1, ex, hr, I1, q⟩ := hx
    exact ⟨r, a, b, t, u, v, H1, ex, hr, I1, f _ _ _ q⟩
  refine weakPE (pe_listRg hc hg hm he' na) fun σ H Q z => ⟨_, z, fun a b H1 ⟨L, hS, hr, q⟩ => ⟨hr, fun p np => q p _ ?_⟩⟩
  rw [rgV_eq]
  exact hS.newL np (DvAll.ints _)
/-- xs[::-1] -/
def sRevL (K : PySem.W.Frag) (te : TE) : TE := fun σ H Q => te σ H fun x H1 => ∃ a L ds, x = .ref a ∧ Hs L H1 ∧ HasL L a ds ∧ ∀ p H', Hs (isL p ds.reverse :: L) H' → Q (.ref p) H'
theorem pe_revLS {te : TE} {k : Nat} {p1 p2 p3 pos : Pos} (he : PE X e te) : PE X (.Subscript e (.Slice none none (some (.UnaryOp .USub (.Constant (.int 1) k p1) p2)) p3) pos) (sRevL X.K te) := weakPE (pe_revL (mcPE he)) fun σ H Q z => ⟨_, z, fun x H1 ⟨a, L, ds, e, hS, k, q⟩ => by
  obtain ⟨vs, h1, h2⟩ := k.at_ hS
  exact ⟨a, vs, e, SqL.of h1, fun p np => q p _ (hS.newL np h2.rev)⟩⟩
/-- C(..) -/
def sMake (C : Addr) (sp : Sp) (dvs : List V) (E : XK) (t : TA) : TE := fun σ H Q => t σ H fun vs H1 => ∃ L, Hs L H1 ∧ ∀ x H', Hs (obj C x [] :: L) H' → sp (.ref x :: (vs ++ dvs)) H' (fun v H2 => v = .non ∧ Q (.ref x) H2) E
theorem make_new {C x dx : Addr} (hS : Hs L H) (nx : H x = none) (nd : H dx = none) (ne : dx ≠ x) : Hs (obj C x [] :: L) (upd (upd H dx (.own x)) x (.ins C dx [])) := by
  have n2 : upd H dx (.own x) x = none := by
    rw [upd_ne ne.symm]
    exact nx
  exact ((hS.sub (same_new nd)).new n2).weak fun _ a => ⟨dx, a⟩
/-- e.f = value -/
def sFldS (K : PySem.W.Frag) (ta tv : TE) (f : Str) : TS := fun D σ H => tv σ H fun y H1 => ta σ H1 fun x H2 => ∃ a C fs L R, x = .ref a ∧ Hs L H2 ∧ Pick L (obj C a fs) R ∧ Cls K C ∧ NoAttr K C f ∧ fs.length < 1000 ∧ ∀ H', Hs (obj C a (putF f y fs) :: R) H' → D.nx σ H'
theorem ps_fldS {o value : Expr} {f : Str} {pos' pos : Pos} {ta tv : TE} (ha : PE X o ta) (hv : PE X value tv) (hs : swapsWith value (some (.Attribute o f pos')) pos.line X.env = pure false) : PS X (.Assign [.Attribute o f pos'] value pos) (sFldS X.K ta tv f) := by
  refine ⟨fun pins s σ H D I h => (ps_fld (mcPE ha) (mcPE hv) hs).run pins s σ H D I ⟨_, h, fun y H1 z => ⟨_, z, fun x H2 z2 => ?_⟩⟩⟩
  obtain ⟨a, C, fs, L, R, e, hS, k, c, n, l, q⟩ := z2
  have h1 := k.go hS
  obtain ⟨dx, h2⟩ := Hs.ex (A := fun dx => cell a (.ins C dx fs)) h1
  exact ⟨a, C, dx, fs, e, h2.hd, c, n, l, q _ ((h2.put (fun _ z => by cases z)).weak fun _ z => ⟨dx, z⟩)⟩
end
end
end Lt
/-! loops by pieces: the word speaks of the slots and of the pieces beside what is walked -/
namespace Lt
open PySem PySem.Spec PyProof.Rows L2
section
variable {K : PySem.W.Frag} {L R L0 R0 : List Asn} {H : Hp} {Q : VK} {σ : L2.St} {a : Addr} {ds : List PyData} {ks : List Int} {α : Type} {f : α → PyData} {xs : List α} {g : TG} {tb : TS} {Nx : L2.St → Hp → Prop} {R1 : VK}
def LpP (A : Asn) (P : Nat → L2.St → List Asn → Prop) (i : Nat) (σ : L2.St) (H : Hp) : Prop := ∃ L, P i σ L ∧ Hs (A :: L) H
def LpR (P : Nat → L2.St → List Asn → Prop) (i : Nat) (σ : L2.St) (H : Hp) : Prop := ∃ L, P i σ L ∧ Hs L H
/-- for x in a list of data -/
theorem s_forL (P : Nat → L2.St → List Asn → Prop) (hS : Hs L0 H) (k : Pick L0 (isL a (xs.map f)) R0) (h0 : P 0 σ R0)
    (hs : ∀ i x y vs σ H L, xs[i]? = some x → P i σ L → Hs (dv y (f x) :: isV a vs (xs.map f) :: L) H → g y σ H fun σ2 H2 => tb { nx := LpP (isV a vs (xs.map f)) P (i + 1), rt := R1, bk := Nx, ct := LpP (isV a vs (xs.map f)) P (i + 1) } σ2 H2)
    (hd : ∀ σ H L, P xs.length σ L → Hs (isL a (xs.map f) :: L) H → Nx σ H) :
    (∃ xs, SqL K H a xs) ∧ ∃ W : Nat → Nat → L2.St → Hp → Prop, (∃ m, W 0 m σ H) ∧ ∀ i m σ H, W i m σ H →
      ((Itl K a).stop i H ∧ Nx σ H) ∨ ((Itl K a).go i H ∧ ∃ N : L2.St → Hp → Prop, (∀ σ' H', N σ' H' → ∃ m', m' < m ∧ W (i + 1) m' σ' H') ∧ ∀ x H', (Itl K a).yld i H x H' → g x σ H' fun σ2 H2 => tb { nx := N, rt := R1, bk := Nx, ct := N } σ2 H2) := by
  obtain ⟨vs, h⟩ := (k.go hS).openL
  have hl := h.hd.2.length
  refine k_inL (K := K) (a := a) (xs := vs) (LpP (isV a vs (xs.map f)) P) (SqL.of h.hd.1) ⟨_, h0, h⟩ (fun i σ H _ ⟨L, _, h⟩ => SqL.of h.hd.1) (fun i y σ H hx ⟨L, hP, h⟩ => ?_) (fun σ H ⟨L, hP, h⟩ => ?_)
  · obtain ⟨d, e, hd⟩ := h.hd.2.get hx
    rw [List.getElem?_map] at e
    cases e1 : xs[i]? with
    | none =>
      rw [e1] at e
      cases e
    | some x =>
      rw [e1] at e
      have e2 : f x = d := Option.some.inj e
      rw [← e2] at hd
      exact hs i x y vs σ H L e1 hP (h.add (A := dv y (f x)) hd)
  · rw [hl, List.length_map] at hP
    exact hd σ H L hP h.closeL
/-- for k in a list of whole numbers -/
theorem s_forI (P : Nat → L2.St → List Asn → Prop) (hS : Hs L0 H) (k : Pick L0 (isL a (ks.map PyData.int)) R0) (h0 : P 0 σ R0)
    (hs : ∀ i k σ H L, ks[i]? = some k → P i σ L → Hs (isL a (ks.map PyData.int) :: L) H → g (.int k) σ H fun σ2 H2 => tb { nx := LpP (isL a (ks.map PyData.int)) P (i + 1), rt := R1, bk := Nx, ct := LpP (isL a (ks.map PyData.int)) P (i + 1) } σ2 H2)
    (hd : ∀ σ H L, P ks.length σ L → Hs (isL a (ks.map PyData.int) :: L) H → Nx σ H) :
    (∃ xs, SqL K H a xs) ∧ ∃ W : Nat → Nat → L2.St → Hp → Prop, (∃ m, W 0 m σ H) ∧ ∀ i m σ H, W i m σ H →
      ((Itl K a).stop i H ∧ Nx σ H) ∨ ((Itl K a).go i H ∧ ∃ N : L2.St → Hp → Prop, (∀ σ' H', N σ' H' → ∃ m', m' < m ∧ W (i + 1) m' σ' H') ∧ ∀ x H', (Itl K a).yld i H x H' → g x σ H' fun σ2 H2 => tb { nx := N, rt := R1, bk := Nx, ct := N } σ2 H2) := by
  have h := k.go hS
  refine k_inL (K := K) (a := a) (xs := ks.map V.int) (LpP (isL a (ks.map PyData.int)) P) (SqL.of h.ints) ⟨_, h0, h⟩ (fun i σ H _ ⟨L, _, h⟩ => SqL.of h.ints) (fun i y σ H hx ⟨L, hP, h⟩ => ?_) (fun σ H ⟨L, hP, h⟩ => ?_)
  · obtain ⟨k, rfl, hk⟩ := int_at hx
    exact hs i k σ H L hk hP h
  · rw [List.length_map] at hP
    exact hd σ H L hP h
/-- for i in range(..) -/
theorem s_forR {lo : Int} {n : Nat} (P : Nat → L2.St → List Asn → Prop) (hS : Hs L0 H) (h0 : P 0 σ L0)
    (hs : ∀ i σ H L, i < n → P i σ L → Hs L H → g (.int (lo + (i : Nat))) σ H fun σ2 H2 => tb { nx := LpR P (i + 1), rt := R1, bk := Nx, ct := LpR P (i + 1) } σ2 H2)
    (hd : ∀ σ H L, P n σ L → Hs L H → Nx σ H) :
    ∃ W : Nat → Nat → L2.St → Hp → Prop, (∃ m, W 0 m σ H) ∧ ∀ i m σ H, W i m σ H →
      ((Itr lo n).stop i H ∧ Nx σ H) ∨ ((Itr lo n).go i H ∧ ∃ N : L2.St → Hp → Prop, (∀ σ' H', N σ' H' → ∃ m', m' < m ∧ W (i + 1) m' σ' H') ∧ ∀ x H', (Itr lo n).yld i H x H' → g x σ H' fun σ2 H2 => tb { nx := N, rt := R1, bk := Nx, ct := N } σ2 H2) :=
  k_inR (LpR P) ⟨_, h0, hS⟩ (fun i σ H hi ⟨L, hP, h⟩ => hs i σ H L hi hP h) (fun σ H ⟨L, hP, h⟩ => hd σ H L hP h)
/-! comprehensions: acc is what stands in the new list -/
def LcS (A : List Asn) (P : Nat → List PyData → List Asn → Prop) (D : Addr) (i : Nat) (H : Hp) : Prop := ∃ L acc, P i acc L ∧ acc.length ≤ i ∧ Hs (isL D acc :: (A ++ L)) H
theorem lc_add {Pv : Nat → Hp → Prop} {D : Addr} {acc : List PyData} {y : V} {d : PyData} (hS : Hs L H) (k : Pick L (isL D acc) R) (hv : Dv H y d) (hl : acc.length ≤ 100000) (h : ∀ H', Hs (isL D (acc ++ [d]) :: R) H' → Pv 0 H') :
    ∃ us, H D = some (.lst us) ∧ us.length < sizeLine ∧ Pv 0 (upd H D (.lst (us ++ [y]))) := by
  have h1 := k.go hS
  obtain ⟨us, h2⟩ := h1.openL
  have h3 := h2.hd
  refine ⟨us, h3.1, lt_line (by rw [h3.2.length]; exact hl), h _ (h1.putL (h3.2.append (.cons hv .nil)))⟩
section
variable {vs : List Nat} {tt : TT} {te : TE} {Qd : Addr → Hp → Prop} {A : List Asn}
/-- the end of a turn that keeps an item -/
theorem lc_put {P : Nat → List PyData → List Asn → Prop} {D : Addr} {acc : List PyData} {y : V} {d : PyData} {i : Nat} (hS : Hs L H) (k : Pick L (isL D acc) R) (hv : Dv H y d) (hl : acc.length ≤ i) (hi : i < 100000) (h : ∃ L', P (i + 1) (acc ++ [d]) L' ∧ Sel R (A ++ L')) :
    ∃ us, H D = some (.lst us) ∧ us.length < sizeLine ∧ LcS A P D (i + 1) (upd H D (.lst (us ++ [y]))) := by
  have h1 := k.go hS
  obtain ⟨us, h2⟩ := h1.openL
  have h3 := h2.hd
  obtain ⟨L', hP, hs⟩ := h
  exact ⟨us, h3.1, lt_line (by rw [h3.2.length]; omega), L', _, hP, by rw [List.length_append, List.length_singleton]; omega, Hs.under (fun _ z => hs.go z) (h1.putL (h3.2.append (.cons hv .nil)))⟩
theorem lc_non {P : Nat → List PyData → List Asn → Prop} {D : Addr} {acc : List PyData} {i : Nat} (hS : Hs L H) (k : Pick L (isL D acc) R) (hl : acc.length ≤ i) (h : ∃ L', P (i + 1) acc L' ∧ Sel R (A ++ L')) : LcS A P D (i + 1) H := by
  obtain ⟨L', hP, hs⟩ := h
  exact ⟨L', _, hP, by omega, Hs.under (fun _ z => hs.go z) (k.go hS)⟩
theorem s_lcL (P : Nat → List PyData → List Asn → Prop) (hS : Hs L0 H) (k : Pick L0 (isL a (xs.map f)) R0) (h0 : P 0 [] R0)
    (hs : ∀ D i x y acc us H' L, xs[i]? = some x → P i acc L → acc.length ≤ i → Hs (dv y (f x) :: isL D acc :: isV a us (xs.map f) :: L) H' → g y (wipe σ vs) H' fun σ2 H2 => wipe σ2 vs = wipe σ vs ∧ tt σ2 H2 fun b H3 =>
      if b = true then te σ2 H3 fun y H4 => ∃ acc, H4 D = some (.lst acc) ∧ acc.length < sizeLine ∧ LcS [isV a us (xs.map f)] P D (i + 1) (upd H4 D (.lst (acc ++ [y]))) else LcS [isV a us (xs.map f)] P D (i + 1) H3)
    (h : ∀ D acc H' L, P xs.length acc L → acc.length ≤ xs.length → Hs (isL D acc :: isL a (xs.map f) :: L) H' → Qd D H') :
    (∃ xs, SqL K H a xs) ∧ ∀ D, H D = none → ∃ W : Nat → Nat → Hp → Prop, (∃ m, W 0 m (upd H D (.lst []))) ∧ ∀ i m H, W i m H →
      ((Itl K a).stop i H ∧ Qd D H) ∨ ((Itl K a).go i H ∧ ∃ Nx : Hp → Prop, (∀ H', Nx H' → ∃ m', m' < m ∧ W (i + 1) m' H') ∧ ∀ x H', (Itl K a).yld i H x H' → g x (wipe σ vs) H' fun σ2 H2 => wipe σ2 vs = wipe σ vs ∧ tt σ2 H2 fun b H3 =>
        if b = true then te σ2 H3 fun y H4 => ∃ acc, H4 D = some (.lst acc) ∧ acc.length < sizeLine ∧ Nx (upd H4 D (.lst (acc ++ [y]))) else Nx H3) := by
  obtain ⟨us, h1⟩ := (k.go hS).openL
  have hl := h1.hd.2.length
  rw [List.length_map] at hl
  refine ⟨⟨us, SqL.of h1.hd.1⟩, fun D nD => lc_it (Qd := Qd D) (walk_list (K := K) (a := a) (xs := us)) (LcS [isV a us (xs.map f)] P D) ⟨R0, [], h0, Nat.le_refl _, h1.newL nD .nil⟩ (fun i H' _ hp => ?_) (fun i x H1 H' hi hp hy => ?_) fun H' hp => ?_⟩
  · obtain ⟨L, acc, _, _, z⟩ := hp
    exact SqL.of z.tl.hd.1
  · obtain ⟨L, acc, hP, hal, z⟩ := hp
    obtain ⟨rfl, hx⟩ := hy
    obtain ⟨d, e, hd⟩ := z.tl.hd.2.get hx
    rw [List.getElem?_map] at e
    cases e1 : xs[i]? with
    | none =>
      rw [e1] at e
      cases e
    | some w =>
      rw [e1] at e
      have e2 : f w = d := Option.some.inj e
      rw [← e2] at hd
      exact hs D i w x acc us _ L e1 hP hal (z.add (A := dv x (f w)) hd)
  · obtain ⟨L, acc, hP, hal, z⟩ := hp
    rw [hl] at hP hal
    exact h D acc H' L hP hal (Hs.under (fun _ z => z.closeL) z)
theorem s_lcI (P : Nat → List PyData → List Asn → Prop) (hS : Hs L0 H) (k : Pick L0 (isL a (ks.map PyData.int)) R0) (h0 : P 0 [] R0)
    (hs : ∀ D i k acc H' L, ks[i]? = some k → P i acc L → acc.length ≤ i → Hs (isL D acc :: isL a (ks.map PyData.int) :: L) H' → g (.int k) (wipe σ vs) H' fun σ2 H2 => wipe σ2 vs = wipe σ vs ∧ tt σ2 H2 fun b H3 =>
      if b = true then te σ2 H3 fun y H4 => ∃ acc, H4 D = some (.lst acc) ∧ acc.length < sizeLine ∧ LcS [isL a (ks.map PyData.int)] P D (i + 1) (upd H4 D (.lst (acc ++ [y]))) else LcS [isL a (ks.map PyData.int)] P D (i + 1) H3)
    (h : ∀ D acc H' L, P ks.length acc L → acc.length ≤ ks.length → Hs (isL D acc :: isL a (ks.map PyData.int) :: L) H' → Qd D H') :
    (∃ xs, SqL K H a xs) ∧ ∀ D, H D = none → ∃ W : Nat → Nat → Hp → Prop, (∃ m, W 0 m (upd H D (.lst []))) ∧ ∀ i m H, W i m H →
      ((Itl K a).stop i H ∧ Qd D H) ∨ ((Itl K a).go i H ∧ ∃ Nx : Hp → Prop, (∀ H', Nx H' → ∃ m', m' < m ∧ W (i + 1) m' H') ∧ ∀ x H', (Itl K a).yld i H x H' → g x (wipe σ vs) H' fun σ2 H2 => wipe σ2 vs = wipe σ vs ∧ tt σ2 H2 fun b H3 =>
        if b = true then te σ2 H3 fun y H4 => ∃ acc, H4 D = some (.lst acc) ∧ acc.length < sizeLine ∧ Nx (upd H4 D (.lst (acc ++ [y]))) else Nx H3) := by
  have h1 := k.go hS
  refine ⟨⟨_, SqL.of h1.ints⟩, fun D nD => lc_it (Qd := Qd D) (walk_list (K := K) (a := a) (xs := ks.map V.int)) (LcS [isL a (ks.map PyData.int)] P D) ⟨R0, [], h0, Nat.le_refl _, h1.newL nD .nil⟩ (fun i H' _ hp => ?_) (fun i x H1 H' hi hp hy => ?_) fun H' hp => ?_⟩
  · obtain ⟨L, acc, _, _, z⟩ := hp
    exact SqL.of (Hs.ints z.tl)
  · obtain ⟨L, acc, hP, hal, z⟩ := hp
    obtain ⟨rfl, hx⟩ := hy
    obtain ⟨k, rfl, hk⟩ := int_at hx
    exact hs D i k acc _ L hk hP hal z
  · obtain ⟨L, acc, hP, hal, z⟩ := hp
    rw [List.length_map] at hP hal
    exact h D acc H' L hP hal z
theorem s_lcR {lo : Int} {n : Nat} (P : Nat → List PyData → List Asn → Prop) (hS : Hs L0 H) (h0 : P 0 [] L0)
    (hs : ∀ D i acc H' L, i < n → P i acc L → acc.length ≤ i → Hs (isL D acc :: L) H' → g (.int (lo + (i : Nat))) (wipe σ vs) H' fun σ2 H2 => wipe σ2 vs = wipe σ vs ∧ tt σ2 H2 fun b H3 =>
      if b = true then te σ2 H3 fun y H4 => ∃ acc, H4 D = some (.lst acc) ∧ acc.length < sizeLine ∧ LcS [] P D (i + 1) (upd H4 D (.lst (acc ++ [y]))) else LcS [] P D (i + 1) H3)
    (h : ∀ D acc H' L, P n acc L → acc.length ≤ n → Hs (isL D acc :: L) H' → Qd D H') :
    ∀ D, H D = none → ∃ W : Nat → Nat → Hp → Prop, (∃ m, W 0 m (upd H D (.lst []))) ∧ ∀ i m H, W i m H →
      ((Itr lo n).stop i H ∧ Qd D H) ∨ ((Itr lo n).go i H ∧ ∃ Nx : Hp → Prop, (∀ H', Nx H' → ∃ m', m' < m ∧ W (i + 1) m' H') ∧ ∀ x H', (Itr lo n).yld i H x H' → g x (wipe σ vs) H' fun σ2 H2 => wipe σ2 vs = wipe σ vs ∧ tt σ2 H2 fun b H3 =>
        if b = true then te σ2 H3 fun y H4 => ∃ acc, H4 D = some (.lst acc) ∧ acc.length < sizeLine ∧ Nx (upd H4 D (.lst (acc ++ [y]))) else Nx H3) := by
  refine fun D nD => lc_it (Qd := Qd D) (walk_range (lo := lo) (n := n)) (LcS [] P D) ⟨_, [], h0, Nat.le_refl _, hS.newL nD .nil⟩ (fun _ _ _ _ => True.intro) (fun i x H1 H' hi hp hy => ?_) fun H' hp => ?_
  · obtain ⟨L, acc, hP, hal, z⟩ := hp
    obtain ⟨rfl, rfl⟩ := hy
    exact hs D i acc _ L hi hP hal z
  · obtain ⟨L, acc, hP, hal, z⟩ := hp
    exact h D acc H' L hP hal z
end
end
end Lt
namespace Lt
open PySem PySem.Spec PyProof.Rows L2
section
variable {α : Type} {L R R0 A L' : List Asn} {H : Hp} {D : Addr} {acc : List PyData} {y : V} {i : Nat} {x : α} {xs : List α} {p : α → Bool} {e : α → PyData}
/-- [e x for x in xs if p x], nothing else changes -/
def Fm (xs : List α) (p : α → Bool) (e : α → PyData) (R0 : List Asn) : Nat → List PyData → List Asn → Prop := fun i acc L' => acc = ((xs.take i).filter p).map e ∧ L' = R0
theorem Fm.start : Fm xs p e R0 0 [] R0 := ⟨rfl, rfl⟩
theorem Fm.all {n : Nat} (h : Fm xs p e R0 n acc L') (hn : n = xs.length) : acc = (xs.filter p).map e ∧ L' = R0 := by
  obtain ⟨h1, h2⟩ := h
  rw [hn, List.take_length] at h1
  exact ⟨h1, h2⟩
theorem lc_putF (h : Fm xs p e R0 i acc L') (hx : xs[i]? = some x) (hp : p x = true) (hS : Hs L H) (k : Pick L (isL D acc) R) (hl : acc.length ≤ i) (hi : i < 100000) (hv : Dv H y (e x)) (hs : Sel R (A ++ R0)) :
    ∃ us, H D = some (.lst us) ∧ us.length < sizeLine ∧ LcS A (Fm xs p e R0) D (i + 1) (upd H D (.lst (us ++ [y]))) := by
  refine lc_put hS k hv hl hi ⟨R0, ⟨?_, rfl⟩, hs⟩
  rw [h.1, take_snoc hx, List.filter_append, List.map_append]
  congr 1
  show [e x] = ([x].filter p).map e
  rw [List.filter_cons_of_pos hp]
  rfl
theorem lc_nonF (h : Fm xs p e R0 i acc L') (hx : xs[i]? = some x) (hp : p x = false) (hS : Hs L H) (k : Pick L (isL D acc) R) (hl : acc.length ≤ i) (hs : Sel R (A ++ R0)) : LcS A (Fm xs p e R0) D (i + 1) H := by
  refine lc_non hS k hl ⟨R0, ⟨?_, rfl⟩, hs⟩
  rw [h.1, take_snoc hx, List.filter_append, List.map_append]
  have z : [x].filter p = [] := List.filter_cons_of_neg (by rw [hp]; decide)
  rw [z, List.map_nil, List.append_nil]
theorem filter_true (xs : List α) : xs.filter (fun _ => true) = xs := List.filter_eq_self.mpr fun _ _ => rfl
end
end Lt
/-! readings by pieces: lists, tuples, fields -/
namespace Lt
open PySem PySem.Spec PyProof.Rows L2
def cutD {α : Type} (xs : List α) (lo hi : Option Int) : List α := (xs.drop (HT.sIx xs.length 0 lo)).take (HT.sIx xs.length xs.length hi - HT.sIx xs.length 0 lo)
theorem cutV_D (xs : List V) (lo hi : Option Int) : cutV xs lo hi = cutD xs lo hi := rfl
theorem cutD_map {α β : Type} (f : α → β) (xs : List α) (lo hi : Option Int) : cutD (xs.map f) lo hi = (cutD xs lo hi).map f := by
  unfold cutD
  rw [List.length_map, List.map_take, List.map_drop]
theorem cutD_drop {α : Type} (xs : List α) (n : Nat) : cutD xs (some (n : Int)) none = xs.drop n := by
  unfold cutD
  rw [HT.sIx_none, show HT.sIx xs.length 0 (some (n : Int)) = min n xs.length from HT.sIx_nat _ _ n]
  by_cases h : n ≤ xs.length
  · rw [Nat.min_eq_left h, List.take_of_length_le (by rw [List.length_drop]; omega)]
  · rw [Nat.min_eq_right (by omega), List.drop_eq_nil_of_le (Nat.le_refl _), List.take_nil, List.drop_eq_nil_of_le (by omega)]
theorem cutD_take {α : Type} (xs : List α) (n : Nat) : cutD xs none (some (n : Int)) = xs.take n := by
  unfold cutD
  rw [HT.sIx_none, show HT.sIx xs.length xs.length (some (n : Int)) = min n xs.length from HT.sIx_nat _ _ n, List.drop_zero, Nat.sub_zero]
  by_cases h : n ≤ xs.length
  · rw [Nat.min_eq_left h]
  · rw [Nat.min_eq_right (by omega), List.take_length, List.take_of_length_le (by omega)]
theorem cutD_takeI {α : Type} (xs : List α) {n : Int} (h : 0 ≤ n) : cutD xs none (some n) = xs.take n.toNat := by
  have e := cutD_take xs n.toNat
  rw [Int.toNat_of_nonneg h] at e
  exact e
theorem cutD_dropI {α : Type} (xs : List α) {n : Int} (h : 0 ≤ n) : cutD xs (some n) none = xs.drop n.toNat := by
  have e := cutD_drop xs n.toNat
  rw [Int.toNat_of_nonneg h] at e
  exact e
/-- sorted whole numbers -/
def sortI (ks : List Int) : List Int := ks.mergeSort fun a b => decide (a ≤ b)
theorem sortI_perm (ks : List Int) : (sortI ks).Perm ks := List.mergeSort_perm _ _
theorem sortI_asc (ks : List Int) : (sortI ks).Pairwise (· ≤ ·) := by
  have h := List.pairwise_mergeSort (le := fun a b : Int => decide (a ≤ b)) (fun a b c h1 h2 => by simp at *; omega) (fun a b => by simp; omega) ks
  exact h.imp fun z => by simpa using z
theorem sort_one {xs ys : List Int} (p : xs.Perm ys) (h1 : xs.Pairwise (· ≤ ·)) (h2 : ys.Pairwise (· ≤ ·)) : xs = ys := by
  exact p.eq_of_pairwise (le := (· ≤ ·)) (fun a b _ _ h1 h2 => Int.le_antisymm h1 h2) h1 h2
theorem sortI_eq {ks ns : List Int} (p : ns.Perm ks) (h : ns.Pairwise (· ≤ ·)) : ns = sortI ks := sort_one (p.trans (sortI_perm ks).symm) h (sortI_asc ks)
section
variable {K : PySem.W.Frag} {L R R2 L' M : List Asn} {H : Hp} {Q : VK} {E : XK} {D : Ends} {σ : L2.St} {p q a b : Addr} {ds es : List PyData} {d e : PyData} {v x y : V} {vs xs : List V} {ks js ns : List Int} {i : Int}
theorem DvAll.getI (h : DvAll H xs ds) (e : atI ds i = some d) : ∃ x, atI xs i = some x ∧ Dv H x d := by
  unfold atI at e ⊢
  rw [h.length]
  cases h1 : ixN ds.length i with
  | none =>
    rw [h1] at e
    cases e
  | some j =>
    rw [h1] at e
    obtain ⟨x, h2, h3⟩ := h.get2 (i := j) e
    exact ⟨x, h2, h3⟩
theorem DvAll.cut (h : DvAll H xs ds) (lo hi : Option Int) : DvAll H (cutV xs lo hi) (cutD ds lo hi) := by
  rw [cutV_D]
  unfold cutD
  rw [h.length]
  exact (h.drop _).take _
/-- a value that stands for d: told, or a tuple that is held -/
def Hold (L : List Asn) (H : Hp) (d : PyData) (G : V → Hp → Prop) : Prop := match sca d with
  | some v => G v H
  | none => ∀ t, Hs (dv (.ref t) d :: L) H → G (.ref t) H
theorem Hold.go {G : V → Hp → Prop} (hS : Hs L H) (hv : Dv H x d) (h : Hold L H d G) : G x H := by
  unfold Hold at h
  cases e : sca d with
  | some v =>
    rw [e] at h
    rw [hv.sca e]
    exact h
  | none =>
    rw [e] at h
    cases hv with
    | tup h1 h2 => exact h _ (hS.add (A := dv _ _) (.tup h1 h2))
    | _ => cases e
theorem s_pull {top : Int} (hS : Hs L H) (k : Pick L (isBag b ns) R) (h0 : 0 < top) (h1 : top ≤ 1000000000000000000000000000000)
    (h : ∀ H' v, 0 ≤ v → v < top → Hs (isBag b ns :: R) H' → Q (.int v) H') : ∃ (b' l : Addr) (ns' : List Int) (top' : Int), [V.ref b, .int top] ++ [] = [.ref b', .int top'] ∧ Bag H b' l ns' ∧ 0 < top' ∧ top' ≤ 1000000000000000000000000000000 ∧ ∀ H' v, 0 ≤ v → v < top' → SameB b' H H' → Bag H' b' l ns' → Q (.int v) H' := by
  obtain ⟨l, hb, f⟩ := (k.go hS).bag
  exact ⟨b, l, ns, top, rfl, hb, h0, h1, fun H' v v0 v1 s hb' => h H' v v0 v1 (f H' s hb')⟩
theorem s_app (hS : Hs L H) (k : Pick L (isL p ds) R) (hv : Dv H x d) (hl : ds.length ≤ 100000) (h : ∀ H', Hs (isL p (ds ++ [d]) :: R) H' → Q .non H') : rAppend (.ref p) [x] H Q := by
  obtain ⟨us, h2⟩ := (k.go hS).openL
  have h3 := h2.hd
  exact ⟨p, us, x, rfl, rfl, h3.1, lt_line (by rw [h3.2.length]; exact hl), h _ ((k.go hS).putL (h3.2.append (.cons hv .nil)))⟩
theorem s_appC (hS : Hs L H) (k : Pick L (cell p (.lst xs)) R) (hl : xs.length ≤ 100000) (h : ∀ H', Hs (cell p (.lst (xs ++ [x])) :: R) H' → Q .non H') : rAppend (.ref p) [x] H Q :=
  ⟨p, xs, x, rfl, rfl, (k.go hS).hd, lt_line hl, h _ ((k.go hS).put fun _ z => by cases z)⟩
theorem s_cat (hS : Hs L H) (k1 : HasL L p ds) (k2 : HasL L q es) (hl : ds.length + es.length ≤ 100000) (h : ∀ r H', Hs (isL r (ds ++ es) :: L) H' → Q (.ref r) H') : rCat (.ref p) (.ref q) H Q := by
  obtain ⟨us, h1, h2⟩ := k1.at_ hS
  obtain ⟨ws, h3, h4⟩ := k2.at_ hS
  exact ⟨p, q, us, ws, rfl, rfl, h1, h3, le_line (by rw [h2.length, h4.length]; exact hl), fun r nr => h r _ (hS.newL nr (h2.append h4))⟩
theorem s_slL {lo hi : Option Int} (hS : Hs L H) (k : HasL L p ds) (h : ∀ q H', Hs (isL q (cutD ds lo hi) :: L) H' → Q (.ref q) H') : rSlL K (.ref p) lo hi H Q := by
  obtain ⟨us, h1, h2⟩ := k.at_ hS
  exact ⟨p, us, rfl, SqL.of h1, fun q nq => h q _ (hS.newL nq (h2.cut lo hi))⟩
theorem s_rev {B : Addr → Hp → Prop} (hS : Hs L H) (k : HasL L p ds) (h : ∀ q H', Hs (isL q ds.reverse :: L) H' → B q H') : ∃ a L ds, V.ref p = .ref a ∧ Hs L H ∧ HasL L a ds ∧ ∀ q H', Hs (isL q ds.reverse :: L) H' → B q H' := ⟨p, L, ds, rfl, hS, k, h⟩
theorem s_ixL (hS : Hs L H) (k : HasL L p ds) (e : atI ds i = some d) (h : Hold L H d Q) : rIxL K (.ref p) (.int i) H Q := by
  obtain ⟨us, h1, h2⟩ := k.at_ hS
  obtain ⟨x, h3, h4⟩ := h2.getI e
  exact ⟨p, us, i, x, rfl, rfl, SqL.of h1, h3, h.go hS h4⟩
theorem s_ixT (hS : Hs L H) (k : Pick L (dv (.ref p) (.tuple ds)) R) (e : atI ds i = some d) (h : Hold L H d Q) : rIxT K (.ref p) (.int i) H Q := by
  obtain ⟨t, us, et, h1, h2⟩ := (hS.dvAt k).tupOf
  cases et
  obtain ⟨x, h3, h4⟩ := h2.getI e
  exact ⟨p, us, i, x, rfl, rfl, SqT.of h1, h3, h.go hS h4⟩
theorem s_ixTc (hS : Hs L H) (k : Pick L (cell p (.tup xs)) R) (e : atI xs i = some x) (h : Q x H) : rIxT K (.ref p) (.int i) H Q := ⟨p, xs, i, x, rfl, rfl, SqT.of (hS.at_ k), e, h⟩
theorem s_ixLc (hS : Hs L H) (k : Pick L (cell p (.lst xs)) R) (e : atI xs i = some x) (h : Q x H) : rIxL K (.ref p) (.int i) H Q := ⟨p, xs, i, x, rfl, rfl, SqL.of (hS.at_ k), e, h⟩
theorem s_setL {j : Nat} {Qh : Hp → Prop} (hS : Hs L H) (k : Pick L (isL p ds) R) (hv : Dv H x d) (e : ixN ds.length i = some j) (h : ∀ H', Hs (isL p (ds.set j d) :: R) H' → Qh H') : rSetL (.ref p) (.int i) x H Qh := by
  obtain ⟨us, h2⟩ := (k.go hS).openL
  have h3 := h2.hd
  exact ⟨p, us, i, j, rfl, rfl, h3.1, by rw [h3.2.length]; exact e, h _ ((k.go hS).putL (DvAll.set hv j h3.2))⟩
/-- the parts of a tuple, one after another -/
def Holds : List PyData → List Asn → Hp → (List V → Hp → Prop) → Prop
  | [], L, H, G => G [] H
  | d :: ds, L, H, G => match sca d with
    | some v => Holds ds L H fun vs H => G (v :: vs) H
    | none => ∀ t, Hs (dv (.ref t) d :: L) H → Holds ds (dv (.ref t) d :: L) H fun vs H => G (.ref t :: vs) H
theorem Holds.go : ∀ {ds : List PyData} {xs : List V} {L : List Asn} {G : List V → Hp → Prop}, Hs L H → DvAll H xs ds → Holds ds L H G → G xs H
  | _, _, _, _, _, .nil, h => h
  | _, _, L, G, hS, .cons (x := x) (d := d) (ds := ds) hv t, h => by
    unfold Holds at h
    cases e : sca d with
    | some v =>
      rw [e] at h
      rw [hv.sca e]
      exact Holds.go (G := fun vs H => G (v :: vs) H) hS t h
    | none =>
      rw [e] at h
      cases hv with
      | tup h1 h2 =>
        have h3 := hS.add (A := dv _ _) (.tup h1 h2)
        exact Holds.go (G := fun vs H => G (.ref _ :: vs) H) h3 t (h _ h3)
      | _ => cases e
theorem s_gTup {n : Nat} {ts : TGs} {Qs : L2.St → Hp → Prop} (hS : Hs L H) (k : Pick L (dv (.ref p) (.tuple ds)) R) (hn : ds.length = n) (h : Holds ds L H fun vs H' => ts vs σ H' Qs) : gTup K n ts (.ref p) σ H Qs := by
  obtain ⟨t, us, et, h1, h2⟩ := (hS.dvAt k).tupOf
  cases et
  exact ⟨p, us, rfl, SqT.of h1, by rw [h2.length]; exact hn, Holds.go hS h2 h⟩
theorem s_gTupC {n : Nat} {ts : TGs} {Qs : L2.St → Hp → Prop} (hS : Hs L H) (k : Pick L (cell p (.tup xs)) R) (hn : xs.length = n) (h : ts xs σ H Qs) : gTup K n ts (.ref p) σ H Qs := ⟨p, xs, rfl, SqT.of (hS.at_ k), hn, h⟩
theorem s_clear (hS : Hs L H) (k : Pick L (isL p ds) R) (h : ∀ H', Hs (isL p [] :: R) H' → Q .non H') : rClear (.ref p) [] H Q := by
  obtain ⟨us, h2⟩ := (k.go hS).openL
  exact ⟨p, us, rfl, rfl, h2.hd.1, h _ ((k.go hS).putL .nil)⟩
theorem s_reverse (hS : Hs L H) (k : Pick L (isL p ds) R) (h : ∀ H', Hs (isL p ds.reverse :: R) H' → Q .non H') : rReverse (.ref p) [] H Q := by
  obtain ⟨us, h2⟩ := (k.go hS).openL
  exact ⟨p, us, rfl, rfl, h2.hd.1, h _ ((k.go hS).putL h2.hd.2.rev)⟩
theorem s_extend (hS : Hs L H) (k : Pick L (isL p ds) R) (k2 : HasL L q es) (hl : ds.length + es.length ≤ 100000) (h : ∀ H', Hs (isL p (ds ++ es) :: R) H' → Q .non H') : rExtend (.ref p) [.ref q] H Q := by
  obtain ⟨us, h2⟩ := (k.go hS).openL
  obtain ⟨ws, h3, h4⟩ := k2.at_ hS
  have h5 := h2.hd
  exact ⟨p, q, us, ws, rfl, rfl, h5.1, h3, le_line (by rw [h5.2.length, h4.length]; exact hl), h _ ((k.go hS).putL (h5.2.append h4))⟩
/-! == -/
theorem HasL.dp (k : HasL L p ds) (hS : Hs L H) : Dp K H (.ref p) (.list ds) := by
  obtain ⟨us, h1, h2⟩ := k.at_ hS
  exact .lst (SqL.of h1) h2.dp
theorem s_eqL {α : Type} {f : α → PyData} {n : Nat} {xs ys : List α} [DecidableEq α] (S : Shp α f n) (hn : n + 1 ≤ 64) (hS : Hs L H) (k1 : HasL L p (xs.map f)) (k2 : HasL L q (ys.map f)) (h : Q (.bl (decide (xs = ys))) H) : rEqD K (.ref p) (.ref q) H Q :=
  k_eqD (shp_list S) hn (k1.dp hS) (k2.dp hS) h
theorem s_neL {α : Type} {f : α → PyData} {n : Nat} {xs ys : List α} [DecidableEq α] (S : Shp α f n) (hn : n + 1 ≤ 64) (hS : Hs L H) (k1 : HasL L p (xs.map f)) (k2 : HasL L q (ys.map f)) (h : Q (.bl (!decide (xs = ys))) H) : rNeD K (.ref p) (.ref q) H Q :=
  k_neD (shp_list S) hn (k1.dp hS) (k2.dp hS) h
theorem s_eqT {α : Type} {f : α → PyData} {n : Nat} {u w : α} [DecidableEq α] (S : Shp α f n) (hn : n ≤ 64) (h1 : Dv H x (f u)) (h2 : Dv H y (f w)) (h : Q (.bl (decide (u = w))) H) : rEqD K x y H Q := k_eqD S hn h1.dp h2.dp h
theorem s_neT {α : Type} {f : α → PyData} {n : Nat} {u w : α} [DecidableEq α] (S : Shp α f n) (hn : n ≤ 64) (h1 : Dv H x (f u)) (h2 : Dv H y (f w)) (h : Q (.bl (!decide (u = w))) H) : rNeD K x y H Q := k_neD S hn h1.dp h2.dp h
/-! in -/
theorem inV_int (n : Int) (ks : List Int) : inV (.int n) (ks.map V.int) = decide (n ∈ ks) := by
  unfold inV
  induction ks with
  | nil => simp
  | cons k r ih =>
    rw [List.map_cons, List.any_cons, ih]
    by_cases h : n = k
    · subst h
      simp [eqV]
    · have h2 : eqV (.int k) (.int n) = false := by simp [eqV, Ne.symm h]
      rw [h2]
      simp [h]
theorem flat_ints (ks : List Int) : (ks.map V.int).all flatV = true := by
  rw [List.all_map]
  exact List.all_eq_true.mpr fun _ _ => rfl
theorem s_inI {n : Int} (hS : Hs L H) (k : HasL L p (ks.map PyData.int)) (h : Q (.bl (decide (n ∈ ks))) H) : rIn K false (.int n) (.ref p) H Q :=
  ⟨p, _, rfl, .inl (SqL.of (k.ints hS)), rfl, flat_ints ks, by rw [inV_int]; exact h⟩
theorem s_ninI {n : Int} (hS : Hs L H) (k : HasL L p (ks.map PyData.int)) (h : Q (.bl (!decide (n ∈ ks))) H) : rIn K true (.int n) (.ref p) H Q :=
  ⟨p, _, rfl, .inl (SqL.of (k.ints hS)), rfl, flat_ints ks, by rw [inV_int]; exact h⟩
/-! sums, sorts -/
theorem s_sum (hS : Hs L H) (k : HasL L p (ks.map PyData.int)) (h : Q (.int ks.sum) H) : rSum K [.ref p] H Q := ⟨p, ks, rfl, SqL.of (k.ints hS), h⟩
theorem s_sorted (hS : Hs L H) (k : HasL L p (ks.map PyData.int)) (h : ∀ q H', Hs (isL q ((sortI ks).map PyData.int) :: L) H' → Q (.ref q) H') : rSortedI K [.ref p] H Q :=
  ⟨p, ks, rfl, SqL.of (k.ints hS), fun ns q h1 h2 nq => by
    have e := sortI_eq h1 h2
    subst e
    exact h q _ (hS.newL nq (DvAll.ints _))⟩
theorem s_sortSet {w : World} (hS : Hs L H) (k : HasL L p (ks.map PyData.int)) (h64 : ks.length < 64) (h : ∀ q H', Hs (isL q ((ascOf ks).map PyData.int) :: L) H' → Q (.ref q) H') : rMkSet K w [V.ref p] H fun x H1 => tNil σ H1 fun xs H2 => rSortedSet w (x :: xs) H2 Q :=
  k_sortSet (SqL.of (k.ints hS)) h64 fun H' q s nq hq => h q H' (by
    refine ⟨solo q (.lst ((ascOf ks).map V.int)), H, solo_le hq, s, fun c o hc => ?_, ⟨_, solo_at, DvAll.ints _⟩, hS⟩
    obtain ⟨rfl, rfl⟩ := solo_of hc
    exact .inl nq)
theorem s_all {bs : List Bool} (hS : Hs L H) (k : HasL L p (bs.map PyData.bool)) (h : Q (.bl (bs.all id)) H) : rAll K [.ref p] H Q := by
  obtain ⟨us, h1, h2⟩ := k.at_ hS
  have e : us = bs.map V.bl := h2.scas (by
    clear h1 h2 h k
    induction bs with
    | nil => rfl
    | cons b r ih =>
      rw [List.map_cons, List.map_cons]
      unfold scas
      rw [ih]
      rfl)
  rw [e] at h1
  exact ⟨p, bs, rfl, SqL.of h1, h⟩
theorem s_any {bs : List Bool} (hS : Hs L H) (k : HasL L p (bs.map PyData.bool)) (h : Q (.bl (bs.any id)) H) : rAny K [.ref p] H Q := by
  obtain ⟨us, h1, h2⟩ := k.at_ hS
  have e : us = bs.map V.bl := h2.scas (by
    clear h1 h2 h k
    induction bs with
    | nil => rfl
    | cons b r ih =>
      rw [List.map_cons, List.map_cons]
      unfold scas
      rw [ih]
      rfl)
  rw [e] at h1
  exact ⟨p, bs, rfl, SqL.of h1, h⟩
/-! len, list(), tuple() -/
def sLen : List V → Hp → VK → Prop := fun xs H Q => ∃ p L ds, xs = [.ref p] ∧ Hs L H ∧ HasL L p ds ∧ Q (.int ds.length) H
theorem c_len {X : Cx} : CallR X (.builtin "len") sLen := fun pins s σ H xs us Q I r ⟨p, L, ds, e, hS, k, q⟩ => call_len_seq pins s σ H xs us Q I r (by
  obtain ⟨us, h1, h2⟩ := k.at_ hS
  exact ⟨p, us, e, .inl (SqL.of h1), by rw [h2.length]; exact q⟩)
theorem s_len (hS : Hs L H) (k : HasL L p ds) (h : Q (.int ds.length) H) : sLen [.ref p] H Q := ⟨p, L, ds, rfl, hS, k, h⟩
def sLenT : List V → Hp → VK → Prop := fun xs H Q => ∃ p ds, xs = [.ref p] ∧ Dv H (.ref p) (.tuple ds) ∧ Q (.int ds.length) H
theorem c_lenT {X : Cx} : CallR X (.builtin "len") sLenT := fun pins s σ H xs us Q I r ⟨p, ds, e, k, q⟩ => call_len_seq pins s σ H xs us Q I r (by
  obtain ⟨t, us, et, h1, h2⟩ := k.tupOf
  cases et
  exact ⟨p, us, e, .inr (SqT.of h1), by rw [h2.length]; exact q⟩)
theorem s_lenT (hS : Hs L H) (k : Pick L (dv (.ref p) (.tuple ds)) R) (h : Q (.int ds.length) H) : sLenT [.ref p] H Q := ⟨p, ds, rfl, hS.dvAt k, h⟩
def sListOf : List V → Hp → VK → Prop := fun xs H Q => ∃ p L ds, xs = [.ref p] ∧ Hs L H ∧ (HasL L p ds ∨ Dv H (.ref p) (.tuple ds)) ∧ ∀ q H', Hs (isL q ds :: L) H' → Q (.ref q) H'
theorem c_listOf {X : Cx} : CallR X (.type "list") sListOf := fun pins s σ H xs us Q I r ⟨p, L, ds, e, hS, k, q⟩ => call_list_of pins s σ H xs us Q I r (by
  rcases k with k | k
  · obtain ⟨us, h1, h2⟩ := k.at_ hS
    exact ⟨p, us, e, .inl (SqL.of h1), fun l nl => q l _ (hS.newL nl h2)⟩
  · obtain ⟨t, us, et, h1, h2⟩ := k.tupOf
    cases et
    exact ⟨p, us, e, .inr (SqT.of h1), fun l nl => q l _ (hS.newL nl h2)⟩)
theorem s_listOf (hS : Hs L H) (k : HasL L p ds) (h : ∀ q H', Hs (isL q ds :: L) H' → Q (.ref q) H') : sListOf [.ref p] H Q := ⟨p, L, ds, rfl, hS, .inl k, h⟩
theorem s_listOfT (hS : Hs L H) (k : Pick L (dv (.ref p) (.tuple ds)) R) (h : ∀ q H', Hs (isL q ds :: L) H' → Q (.ref q) H') : sListOf [.ref p] H Q := ⟨p, L, ds, rfl, hS, .inr (hS.dvAt k), h⟩
def sTupOf : List V → Hp → VK → Prop := fun xs H Q => ∃ p L ds, xs = [.ref p] ∧ Hs L H ∧ HasL L p ds ∧ ∀ q H', Hs (dv (.ref q) (.tuple ds) :: L) H' → Q (.ref q) H'
theorem c_tupOf {X : Cx} : CallR X (.type "tuple") sTupOf := fun pins s σ H xs us Q I r ⟨p, L, ds, e, hS, k, q⟩ => call_tuple_of pins s σ H xs us Q I r (by
  obtain ⟨us, h1, h2⟩ := k.at_ hS
  exact ⟨p, us, e, .inl ⟨SqL.of h1, fun l nl => q l _ (hS.newT nl h2)⟩⟩)
theorem s_tupOf (hS : Hs L H) (k : HasL L p ds) (h : ∀ q H', Hs (dv (.ref q) (.tuple ds) :: L) H' → Q (.ref q) H') : sTupOf [.ref p] H Q := ⟨p, L, ds, rfl, hS, k, h⟩
/-! displays -/
theorem s_lst {vs : List V} (hS : Hs L H) (hd : DvAll H vs ds) (hl : vs.length ≤ 100000) {B : Addr → Hp → Prop} (h : ∀ p H', Hs (isL p ds :: L) H' → B p H') : ∃ L ds, Hs L H ∧ DvAll H vs ds ∧ vs.length ≤ 100000 ∧ ∀ p H', Hs (isL p ds :: L) H' → B p H' := ⟨L, ds, hS, hd, hl, h⟩
theorem s_tup {vs : List V} (hS : Hs L H) (hd : DvAll H vs ds) (hl : vs.length ≤ 100000) {B : Addr → Hp → Prop} (h : ∀ p H', Hs (dv (.ref p) (.tuple ds) :: L) H' → B p H') : ∃ L ds, Hs L H ∧ DvAll H vs ds ∧ vs.length ≤ 100000 ∧ ∀ p H', Hs (dv (.ref p) (.tuple ds) :: L) H' → B p H' := ⟨L, ds, hS, hd, hl, h⟩
theorem s_lstC {vs : List V} (hS : Hs L H) (hl : vs.length ≤ 100000) {B : Addr → Hp → Prop} (h : ∀ p H', Hs (cell p (.lst vs) :: L) H' → B p H') : ∃ L, Hs L H ∧ vs.length ≤ 100000 ∧ ∀ p H', Hs (cell p (.lst vs) :: L) H' → B p H' := ⟨L, hS, hl, h⟩
theorem s_tupC {vs : List V} (hS : Hs L H) (hl : vs.length ≤ 100000) {B : Addr → Hp → Prop} (h : ∀ p H', Hs (cell p (.tup vs) :: L) H' → B p H') : ∃ L, Hs L H ∧ vs.length ≤ 100000 ∧ ∀ p H', Hs (cell p (.tup vs) :: L) H' → B p H' := ⟨L, hS, hl, h⟩
theorem s_lstRg {i j : Int} (hS : Hs L H) (hr : RgOk i j) {B : Addr → Hp → Prop} (h : ∀ p H', Hs (isL p ((rgI i (j - i)).map PyData.int) :: L) H' → B p H') : ∃ L, Hs L H ∧ RgOk i j ∧ ∀ p H', Hs (isL p ((rgI i (j - i)).map PyData.int) :: L) H' → B p H' := ⟨L, hS, hr, h⟩
theorem s_lstRgA {i m : Int} (hS : Hs L H) (hr : RgOk i (i + m)) {B : Addr → Hp → Prop} (h : ∀ p H', Hs (isL p ((rgI i m).map PyData.int) :: L) H' → B p H') : ∃ L, Hs L H ∧ RgOk i (i + m) ∧ ∀ p H', Hs (isL p ((rgI i (i + m - i)).map PyData.int) :: L) H' → B p H' := ⟨L, hS, hr, by
  rw [show i + m - i = m by omega]
  exact h⟩
theorem s_make {C : Addr} {B : Addr → Hp → Prop} (hS : Hs L H) (h : ∀ x H', Hs (obj C x [] :: L) H' → B x H') : ∃ L, Hs L H ∧ ∀ x H', Hs (obj C x [] :: L) H' → B x H' := ⟨L, hS, h⟩
/-! fields -/
theorem s_fld {C : Addr} {f : Str} {fs : List (Str × V)} {B : V → Prop} (hS : Hs L H) (k : Pick L (obj C a fs) R) (c : Cls K C) (n : NoAttr K C f) (e : fs.lookup f = some v) (h : B v) : ∃ b C dx fs v, V.ref a = .ref b ∧ H b = some (.ins C dx fs) ∧ Cls K C ∧ NoAttr K C f ∧ fs.lookup f = some v ∧ B v := by
  obtain ⟨dx, h1⟩ := hS.at_ k
  exact ⟨a, C, dx, fs, v, rfl, h1, c, n, e, h⟩
theorem s_fldSet {C : Addr} {f : Str} {fs : List (Str × V)} {N : Hp → Prop} (hS : Hs L H) (k : Pick L (obj C a fs) R) (c : Cls K C) (n : NoAttr K C f) (hl : fs.length < 1000) (h : ∀ H', Hs (obj C a (putF f y fs) :: R) H' → N H') :
    ∃ b C fs L R, V.ref a = .ref b ∧ Hs L H ∧ Pick L (obj C b fs) R ∧ Cls K C ∧ NoAttr K C f ∧ fs.length < 1000 ∧ ∀ H', Hs (obj C b (putF f y fs) :: R) H' → N H' := ⟨a, C, fs, L, R, rfl, hS, k, c, n, hl, h⟩
theorem s_meth {C : Addr} {m : Str} {fs : List (Str × V)} {B : Prop} (h1 : ∃ dx, H a = some (.ins C dx fs)) (e : fs.lookup m = none) (h : B) : ∃ b dx fs, V.ref a = .ref b ∧ H b = some (.ins C dx fs) ∧ fs.lookup m = none ∧ B := by
  obtain ⟨dx, h1⟩ := h1
  exact ⟨a, dx, fs, rfl, h1, e, h⟩
theorem hold_int {n : Int} {G : V → Hp → Prop} (h : G (.int n) H) : Hold L H (.int n) G := h
theorem hold_str {n : Str} {G : V → Hp → Prop} (h : G (.str n) H) : Hold L H (.str n) G := h
theorem hold_bl {n : Bool} {G : V → Hp → Prop} (h : G (.bl n) H) : Hold L H (.bool n) G := h
theorem hold_non {G : V → Hp → Prop} (h : G .non H) : Hold L H .none G := h
theorem hold_tup {G : V → Hp → Prop} (h : ∀ t, Hs (dv (.ref t) (.tuple ds) :: L) H → G (.ref t) H) : Hold L H (.tuple ds) G := h
theorem holds_nil {G : List V → Hp → Prop} (h : G [] H) : Holds [] L H G := h
theorem holds_int {n : Int} {G : List V → Hp → Prop} (h : Holds ds L H fun vs H => G (.int n :: vs) H) : Holds (.int n :: ds) L H G := h
theorem holds_str {n : Str} {G : List V → Hp → Prop} (h : Holds ds L H fun vs H => G (.str n :: vs) H) : Holds (.str n :: ds) L H G := h
theorem holds_bl {n : Bool} {G : List V → Hp → Prop} (h : Holds ds L H fun vs H => G (.bl n :: vs) H) : Holds (.bool n :: ds) L H G := h
theorem holds_non {G : List V → Hp → Prop} (h : Holds ds L H fun vs H => G (.non :: vs) H) : Holds (.none :: ds) L H G := h
theorem holds_tup {G : List V → Hp → Prop} (h : ∀ t, Hs (dv (.ref t) (.tuple es) :: L) H → Holds ds (dv (.ref t) (.tuple es) :: L) H fun vs H => G (.ref t :: vs) H) : Holds (.tuple es :: ds) L H G := h
theorem k_tFld {ta : TE} {f : Str} (h : ta σ H fun x H1 => ∃ a C dx fs v, x = .ref a ∧ H1 a = some (.ins C dx fs) ∧ Cls K C ∧ NoAttr K C f ∧ fs.lookup f = some v ∧ Q v H1) : tFld K ta f σ H Q := h
theorem k_sLst {u : TA} (h : u σ H fun xs H1 => ∃ L ds, Hs L H1 ∧ DvAll H1 xs ds ∧ xs.length ≤ 100000 ∧ ∀ p H', Hs (isL p ds :: L) H' → Q (.ref p) H') : sLst u σ H Q := h
theorem k_sLstC {u : TA} (h : u σ H fun xs H1 => ∃ L, Hs L H1 ∧ xs.length ≤ 100000 ∧ ∀ p H', Hs (cell p (.lst xs) :: L) H' → Q (.ref p) H') : sLstC u σ H Q := h
theorem k_sTup {u : TA} (h : u σ H fun xs H1 => ∃ L ds, Hs L H1 ∧ DvAll H1 xs ds ∧ xs.length ≤ 100000 ∧ ∀ p H', Hs (dv (.ref p) (.tuple ds) :: L) H' → Q (.ref p) H') : sTup u σ H Q := h
theorem k_sTupC {u : TA} (h : u σ H fun xs H1 => ∃ L, Hs L H1 ∧ xs.length ≤ 100000 ∧ ∀ p H', Hs (cell p (.tup xs) :: L) H' → Q (.ref p) H') : sTupC u σ H Q := h
theorem k_sLstRg {tr : L2.St → Hp → (Int → Int → Hp → Prop) → Prop} (h : tr σ H fun a b H1 => ∃ L, Hs L H1 ∧ RgOk a b ∧ ∀ p H', Hs (isL p ((rgI a (b - a)).map PyData.int) :: L) H' → Q (.ref p) H') : sLstRg tr σ H Q := h
theorem k_sRevL {te : TE} (h : te σ H fun x H1 => ∃ a L ds, x = .ref a ∧ Hs L H1 ∧ HasL L a ds ∧ ∀ p H', Hs (isL p ds.reverse :: L) H' → Q (.ref p) H') : sRevL K te σ H Q := h
theorem k_sMake {C : Addr} {sp : Sp} {dvs : List V} {t : TA} (h : t σ H fun vs H1 => ∃ L, Hs L H1 ∧ ∀ x H', Hs (obj C x [] :: L) H' → sp (.ref x :: (vs ++ dvs)) H' (fun v H2 => v = .non ∧ Q (.ref x) H2) E) : sMake C sp dvs E t σ H Q := h
theorem k_sFldS {ta tv : TE} {f : Str} (h : tv σ H fun y H1 => ta σ H1 fun x H2 => ∃ a C fs L R, x = .ref a ∧ Hs L H2 ∧ Pick L (obj C a fs) R ∧ Cls K C ∧ NoAttr K C f ∧ fs.length < 1000 ∧ ∀ H', Hs (obj C a (putF f y fs) :: R) H' → D.nx σ H') : sFldS K ta tv f D σ H := h
theorem k_tMeth {C : Addr} {m : Str} {sp : Sp} {dvs : List V} {ta : TE} {t : TA} (h : ta σ H fun x H1 => ∃ a dx fs, x = .ref a ∧ H1 a = some (.ins C dx fs) ∧ fs.lookup m = none ∧ t σ H1 fun vs H2 => sp (x :: (vs ++ dvs)) H2 Q E) : tMeth C m sp dvs E ta t σ H Q := h
end
section
variable {X : Cx} {e : Expr} {t : TA} {C : Addr} {sp : Sp} {dvs : List V} {E : XK}
theorem mkS (h : PE X e (tMake C sp dvs E (mcA t))) : PE X e (sMake C sp dvs E t) := weakPE h fun σ H Q z => ⟨_, z, fun vs H1 ⟨L, hS, q⟩ x dx nx nd ne => q x _ (make_new hS nx nd ne)⟩
theorem mk0S (h : PE X e (tMake C sp dvs E tNil)) : PE X e (sMake C sp dvs E tNil) := weakPE h fun σ H Q ⟨L, hS, q⟩ => fun x dx nx nd ne => q x _ (make_new hS nx nd ne)
end
end Lt
namespace Lt
open PySem PySem.Spec PyProof.Rows L2
section
variable {L R : List Asn} {A : Asn} {H : Hp}
theorem Pick.back (k : Pick L A R) : ∀ {H : Hp}, Hs (A :: R) H → Hs L H := by
  induction k with
  | here => exact fun h => h
  | there k ih => exact fun h => Hs.under (fun _ z => ih z) h.swap
theorem Hs.swap12 {B C : Asn} (h : Hs (A :: B :: C :: L) H) : Hs (A :: C :: B :: L) H := Hs.under (fun _ z => z.swap) h
theorem k_bnd {A B C : Prop} (h1 : A) (h2 : B) (h : C) : A ∧ B ∧ C := ⟨h1, h2, h⟩
/-- a word of the state, kept as it is written -/
def Wd (P : L2.St → Hp → Prop) : L2.St → Hp → Prop := P
/-- a set of blocks, ascending -/
def isSp (C a : Addr) (ks : List Int) : Asn := fun H => ∃ l, Hs [obj C a [("inside", .ref l)], isL l (ks.map PyData.int)] H
instance {C a : Addr} {ks : List Int} : Mono (isSp C a ks) := ⟨fun s ⟨l, h⟩ => ⟨l, h.sub s⟩⟩
theorem Hs.openSp {C a : Addr} {ks : List Int} (h : Hs (isSp C a ks :: L) H) : ∃ l, Hs (obj C a [("inside", .ref l)] :: isL l (ks.map PyData.int) :: L) H := by
  obtain ⟨l, h⟩ := Hs.ex (A := fun l => Hs [obj C a [("inside", .ref l)], isL l (ks.map PyData.int)]) h
  exact ⟨l, h.split⟩
theorem Hs.closeSp {C a l : Addr} {ks : List Int} (h : Hs (obj C a [("inside", .ref l)] :: isL l (ks.map PyData.int) :: L) H) : Hs (isSp C a ks :: L) H := h.join.weak fun _ z => ⟨l, z⟩
theorem Hs.insSp {C a : Addr} {ks : List Int} (h : Hs (isSp C a ks :: L) H) : ∃ dx fs, H a = some (.ins C dx fs) ∧ (∀ m : Str, m ≠ "inside" → fs.lookup m = none) := by
  obtain ⟨l, h⟩ := h.openSp
  obtain ⟨dx, e⟩ := h.hd
  refine ⟨dx, _, e, fun m hm => ?_⟩
  show (match m == ("inside" : Str) with | true => some (V.ref l) | false => none) = none
  rw [beq_eq_false_iff_ne.mpr hm]
theorem s_methSp {C a : Addr} {ks : List Int} {m : Str} {B : Prop} (hS : Hs L H) (k : Pick L (isSp C a ks) R) (hm : (m == ("inside" : Str)) = false) (h : B) : ∃ b dx fs, V.ref a = .ref b ∧ H b = some (.ins C dx fs) ∧ fs.lookup m = none ∧ B := by
  obtain ⟨dx, fs, e, f⟩ := (k.go hS).insSp
  exact ⟨a, dx, fs, rfl, e, f m (beq_eq_false_iff_ne.mp hm), h⟩
theorem s_tyL {K : PySem.W.Frag} {p : Addr} {ds : List PyData} {B : Prop} (hS : Hs L H) (k : HasL L p ds) (h : B) : tyV K "list" (.ref p) H ∧ B := by
  obtain ⟨vs, h1, _⟩ := k.at_ hS
  exact ⟨.inl ⟨rfl, _, SqL.of h1⟩, h⟩
theorem s_tyLc {K : PySem.W.Frag} {p : Addr} {xs : List V} {B : Prop} (hS : Hs L H) (k : Pick L (cell p (.lst xs)) R) (h : B) : tyV K "list" (.ref p) H ∧ B := ⟨.inl ⟨rfl, _, SqL.of (hS.at_ k)⟩, h⟩
theorem tyx_L {K : PySem.W.Frag} {p : Addr} {ds : List PyData} (hS : Hs L H) (k : HasL L p ds) : TyX K H (.ref p) (.type "list") := by
  obtain ⟨vs, h1, _⟩ := k.at_ hS
  exact .base (.lst h1)
theorem tyx_T {K : PySem.W.Frag} {p : Addr} {ds : List PyData} (hS : Hs L H) (k : Pick L (dv (.ref p) (.tuple ds)) R) : TyX K H (.ref p) (.type "tuple") := by
  obtain ⟨t, us, et, h1, h2⟩ := (hS.dvAt k).tupOf
  cases et
  exact .base (.tup h1)
theorem tyx_Lc {K : PySem.W.Frag} {p : Addr} {xs : List V} (hS : Hs L H) (k : Pick L (cell p (.lst xs)) R) : TyX K H (.ref p) (.type "list") := .base (.lst (hS.at_ k))
end
end Lt
namespace Lt
open PySem PySem.Spec PyProof.Rows L2
theorem mapP_snoc (qs : List (Int × Int)) (f m : Int) : (qs ++ [(f, m)]).map dPair = qs.map dPair ++ [.tuple [.int f, .int m]] := by rw [List.map_append] <;> rfl
theorem mapP_one (f m : Int) : [(f, m)].map dPair = [.tuple [.int f, .int m]] := rfl
end Lt
namespace Lt
open PySem PySem.Spec PyProof.Rows L2
section
variable {K : PySem.W.Frag} {L R : List Asn} {H : Hp} {Q : VK} {p q C : Addr} {ks js : List Int} {ps qs : List (Int × Int)} {x : V} {t : Value}
theorem s_eqI (hS : Hs L H) (k1 : HasL L p (ks.map PyData.int)) (k2 : HasL L q (js.map PyData.int)) (h : Q (.bl (decide (ks = js))) H) : rEqD K (.ref p) (.ref q) H Q := s_eqL shp_int (by decide) hS k1 k2 h
theorem s_neI (hS : Hs L H) (k1 : HasL L p (ks.map PyData.int)) (k2 : HasL L q (js.map PyData.int)) (h : Q (.bl (!decide (ks = js))) H) : rNeD K (.ref p) (.ref q) H Q := s_neL shp_int (by decide) hS k1 k2 h
theorem s_eqP (hS : Hs L H) (k1 : HasL L p (ps.map dPair)) (k2 : HasL L q (qs.map dPair)) (h : Q (.bl (decide (ps = qs))) H) : rEqD K (.ref p) (.ref q) H Q := s_eqL shp_pair (by decide) hS k1 k2 h
theorem s_neP (hS : Hs L H) (k1 : HasL L p (ps.map dPair)) (k2 : HasL L q (qs.map dPair)) (h : Q (.bl (!decide (ps = qs))) H) : rNeD K (.ref p) (.ref q) H Q := s_neL shp_pair (by decide) hS k1 k2 h
theorem k_isiO {b : Bool} (ht : TyX K H x t) (hk : PySem.W.kitOne K t (.ref C) = some b) (h : Q (.bl b) H) : rIsi K [x, .ref C] H Q := ⟨x, .ref C, _, _, b, rfl, .own C, ht, hk, h⟩
end
end Lt
namespace Lt
open PySem PySem.Spec PyProof.Rows L2
/-- k in xs, whole numbers -/
def sInI (neg : Bool) : R2 := fun x y H Q => ∃ (n : Int) (p : Addr) (L : List Asn) (ks : List Int), x = .int n ∧ y = .ref p ∧ Hs L H ∧ HasL L p (ks.map PyData.int) ∧ Q (.bl (if neg then !decide (n ∈ ks) else decide (n ∈ ks))) H
theorem op_inS {X : Cx} : OpR X (compareOp .In) (sInI false) := fun pins s σ H x y v u Q I rx ry ⟨n, p, L, ks, ex, ey, hS, k, q⟩ => op_in_seq pins s σ H x y v u Q I rx ry (by
  rw [ex, ey]
  exact ⟨p, _, rfl, .inl (SqL.of (k.ints hS)), rfl, flat_ints ks, by rw [inV_int]; exact q⟩)
theorem op_ninS {X : Cx} : OpR X (compareOp .NotIn) (sInI true) := fun pins s σ H x y v u Q I rx ry ⟨n, p, L, ks, ex, ey, hS, k, q⟩ => op_notIn_seq pins s σ H x y v u Q I rx ry (by
  rw [ex, ey]
  exact ⟨p, _, rfl, .inl (SqL.of (k.ints hS)), rfl, flat_ints ks, by rw [inV_int]; exact q⟩)
section
variable {L : List Asn} {H : Hp} {Q : VK} {p : Addr} {ks : List Int} {n : Int}
theorem s_inS (hS : Hs L H) (k : HasL L p (ks.map PyData.int)) (h : Q (.bl (decide (n ∈ ks))) H) : sInI false (.int n) (.ref p) H Q := ⟨n, p, L, ks, rfl, rfl, hS, k, h⟩
theorem s_ninS (hS : Hs L H) (k : HasL L p (ks.map PyData.int)) (h : Q (.bl (!decide (n ∈ ks))) H) : sInI true (.int n) (.ref p) H Q := ⟨n, p, L, ks, rfl, rfl, hS, k, h⟩
end
end Lt
namespace Lt
open PySem PySem.Spec PyProof.Rows L2
section
variable {K : PySem.W.Frag} {L R : List Asn} {H : Hp} {Q : VK} {p q : Addr} {α : Type} {f : α → PyData} {xs ys : List α} {n : Int} {ks : List Int}
theorem s_catM (hS : Hs L H) (k1 : HasL L p (xs.map f)) (k2 : HasL L q (ys.map f)) (hl : xs.length + ys.length ≤ 100000) (h : ∀ r H', Hs (isL r ((xs ++ ys).map f) :: L) H' → Q (.ref r) H') : rCat (.ref p) (.ref q) H Q :=
  s_cat hS k1 k2 (by rw [List.length_map, List.length_map]; exact hl) fun r H' h1 => h r H' (by rw [List.map_append]; exact h1)
theorem s_slTake (hS : Hs L H) (k : HasL L p (xs.map f)) (hn : 0 ≤ n) (h : ∀ q H', Hs (isL q ((xs.take n.toNat).map f) :: L) H' → Q (.ref q) H') : rSlL K (.ref p) none (some n) H Q :=
  s_slL hS k fun q H' h1 => h q H' (by rw [cutD_takeI _ hn, ← List.map_take] at h1; exact h1)
theorem s_slDrop (hS : Hs L H) (k : HasL L p (xs.map f)) (hn : 0 ≤ n) (h : ∀ q H', Hs (isL q ((xs.drop n.toNat).map f) :: L) H' → Q (.ref q) H') : rSlL K (.ref p) (some n) none H Q :=
  s_slL hS k fun q H' h1 => h q H' (by rw [cutD_dropI _ hn, ← List.map_drop] at h1; exact h1)
theorem s_revM {B : Addr → Hp → Prop} (hS : Hs L H) (k : HasL L p (xs.map f)) (h : ∀ q H', Hs (isL q (xs.reverse.map f) :: L) H' → B q H') : ∃ a L ds, V.ref p = .ref a ∧ Hs L H ∧ HasL L a ds ∧ ∀ q H', Hs (isL q ds.reverse :: L) H' → B q H' :=
  s_rev hS k fun q H' h1 => h q H' (by rw [List.map_reverse]; exact h1)
theorem s_lenM (hS : Hs L H) (k : HasL L p (xs.map f)) (h : Q (.int xs.length) H) : sLen [.ref p] H Q := s_len hS k (by rw [List.length_map]; exact h)
theorem s_appI (hS : Hs L H) (k : Pick L (isL p (ks.map PyData.int)) R) (hl : ks.length ≤ 100000) (h : ∀ H', Hs (isL p ((ks ++ [n]).map PyData.int) :: R) H' → Q .non H') : rAppend (.ref p) [.int n] H Q :=
  s_app hS k (.int n) (by rw [List.length_map]; exact hl) fun H' h1 => h H' (by rw [List.map_append]; exact h1)
end
end Lt
/-! ==, !=, len, truth, repr, str of an own instance by its class's own defs -/
namespace Lt
open PySem PySem.Spec PyProof.Rows L2
/-- what the other side of a comparison is -/
inductive Oth (H : Hp) : V → Value → Prop
  | ins {b C dx : Addr} {fs : List (Str × V)} : H b = some (.ins C dx fs) → Oth H (.ref b) (.ref C)
  | lst {b : Addr} {xs : List V} : H b = some (.lst xs) → Oth H (.ref b) (.type "list")
  | str (x : Str) : Oth H (.str x) (.type "str")
section
variable {X : Cx} {CX : CXT} {n : Nat} {C f : Addr} {fd : FuncData} {ps : List Str} {sp : Sp} {E : XK} {pins : List (Addr × Obj)} {σ : L2.St} {H : Hp} {s : Shared} {A : Around}
theorem Oth.look {M : Model} {y : V} {u tb : Value} (I : Inv X pins σ H s) (ry : RelV y u) (o : Oth H y tb) : PySem.W.Looks M s.heap (typeOf u) tb := by
  cases o with
  | ins h =>
    cases ry
    obtain ⟨mA, J, _⟩ := ins_get I.hok h
    obtain ⟨od, J, _⟩ := J.look
    exact J.type
  | @lst b xs h =>
    cases ry
    obtain ⟨_, its, n, _, h1⟩ := (show ObjOk X.prog X.w H s.heap b (.lst xs) from I.hok b _ h)
    exact (PySem.W.Looks.ld h1).andThen .now
  | str x =>
    obtain ⟨t, rfl⟩ := ry
    exact .now
/-- a def called somewhere below -/
theorem run_in (F : FnOk X.prog X.w X.K X.mg X.base CX n f fd ps sp) (hb : Binds X.K fd ps []) (hx : Passes CX X E) (sb : Sub X n A) (I : Inv X pins σ H s) {vs : List V} {us : List Value} {Q : VK} (r2 : Vals vs us) (hsp : sp vs H Q E) :
    wpAny (model X.prog X.w) A (call (.ref f) us) (fun r s' => ∃ v H', Inv X pins σ H' s' ∧ RelV v r ∧ Q v H') X.xe s := by
  have e0 : Env0 X.prog X.w X.K X.mg X.base A X.stack s H := by
    have e := I.env0
    exact ⟨by rw [sb.fr]; exact e.frames, e.mod, e.bs, e.bsz, e.funs, e.frf, e.hok, e.bare⟩
  have hl := F.len _ _ _ _ hsp
  have hl2 : us.length = ps.length := by rw [← r2.length]; exact hl
  refine wpAny_call (codeAny_mono (F.run A X.stack s H ⟨us, []⟩ us vs Q E sb.room e0 (by
    have := hb s us I.kIn (by simpa using hl2)
    simpa using this) r2 hsp) fun r s' hq => ?_)
  cases r with
  | error e => exact hx pins σ H s e s' I hq
  | ok fl =>
    cases fl with
    | ret w =>
      obtain ⟨z, H', I', rz, q⟩ := I.after hq
      exact ⟨z, H', I', rz, q⟩
    | next => exact False.elim hq
    | brk => exact False.elim hq
    | cont => exact False.elim hq
def rEqO (K : PySem.W.Frag) (C : Addr) (sp : Sp) (E : XK) : R2 := fun x y H Q => ∃ a dx fs tb, x = .ref a ∧ H a = some (.ins C dx fs) ∧ Oth H y tb ∧ PySem.W.notFirst K C tb = true ∧ sp [x, y] H (fun v H' => ∃ b, v = .bl b ∧ Q (.bl b) H') E
def rNeO (K : PySem.W.Frag) (C : Addr) (sp : Sp) (E : XK) : R2 := fun x y H Q => ∃ a dx fs tb, x = .ref a ∧ H a = some (.ins C dx fs) ∧ Oth H y tb ∧ PySem.W.notFirst K C tb = true ∧ sp [x, y] H (fun v H' => ∃ b, v = .bl b ∧ Q (.bl (!b)) H') E
theorem op_eqO (F : FnOk X.prog X.w X.K X.mg X.base CX n f fd ps sp) (hs : PySem.W.findIn X.K (.ref C) "__eq__" = some (some (.ref f))) (hf : PySem.W.isFn X.K (.ref f) = true) (hb : Binds X.K fd ps []) (hx : Passes CX X E) (hr : Room n X.A) : OpR X (compareOp .Eq) (rEqO X.K C sp E) := by
  intro pins s σ H x y v u Q I rx ry h
  obtain ⟨a, dx, fs, tb, rfl, ha, o, nf, hsp⟩ := h
  cases rx
  obtain ⟨mA, J, _⟩ := ins_get I.hok ha
  obtain ⟨od, J, _⟩ := J.look
  obtain ⟨m, hF⟩ := I.fr
  show wpAny (model X.prog X.w) X.A (richCompare .Eq (.ref a) u) _ _ _
  refine PySem.W.cmp_K (op := .Eq) (tb := tb) hr.units0 hF I.ok.mod.kin J (o.look I ry) nf hs hf (thn (run_in F hb hx ⟨hr, rfl⟩ I (.cons (show RelV (.ref _) (.ref _) from rfl) (.cons ry .nil)) hsp) fun r s' z => ?_)
  obtain ⟨v, H', I', rv, b, rfl, q⟩ := z
  cases rv
  exact ⟨.bl b, H', I', rfl, q⟩
theorem bind_ne (self : Value) : bindSpecial (.builtin "object.__ne__") self = pure (.builtin "object.__ne__", [self]) := PySem.F.slot_object_ne.bind self
theorem op_neO (F : FnOk X.prog X.w X.K X.mg X.base CX n f fd ps sp) (hs : PySem.W.findIn X.K (.ref C) "__eq__" = some (some (.ref f))) (hn : PySem.W.findIn X.K (.ref C) "__ne__" = some (some (.builtin "object.__ne__"))) (ho : PySem.W.mroIn X.K C (.type "object") = some true)
    (hf : PySem.W.isFn X.K (.ref f) = true) (hb : Binds X.K fd ps []) (hx : Passes CX X E) (hr : Room (n + 1) X.A) : OpR X (compareOp .NotEq) (rNeO X.K C sp E) := by
  intro pins s σ H x y v u Q I rx ry h
  obtain ⟨a, dx, fs, tb, rfl, ha, o, nf, hsp⟩ := h
  cases rx
  obtain ⟨mA, J, _⟩ := ins_get I.hok ha
  obtain ⟨od, J, _⟩ := J.look
  show wpAny (model X.prog X.w) X.A (richCompare .NotEq (.ref a) u) _ _ _
  have K0 := I.kIn
  have one : wpAny (model X.prog X.w) X.A (tryCompare (.ref a) (cmpInfo .NotEq).2.1 u) (fun r s' => ∃ v, r = some v ∧ EP X pins σ Q v s') X.xe s := by
    unfold tryCompare
    refine wpAny_bind (NtL.csib (id := "object.__ne__") (J.type.andThen (PySem.W.looks_findIn K0 hn)) (bind_ne _) ?_)
    refine wpAny_call (codeAny_call_builtin PySem.F.slot_object_ne.plain PySem.F.entry_object_ne (@PySem.W.check_slot (model X.prog X.w) _ _ _ "object.__ne__" "object" "__ne__" (.ref a) [u] [] _ (by decide +kernel) (by decide +kernel) (J.type.andThen (PySem.W.looks_mroIn K0 ho)) (PySem.F.args_object_ne_2 _ _) ?_))
    unfold Builtin.«object.__ne__»
    refine wpAny_bind (m := slotArgs "__ne__" 1 _) (wpAny_pure ?_)
    refine wpAny_bind (wpAny_cRoomFor hr.in1.units0 ?_)
    refine wpAny_bind (PySem.W.ifBound_K (name := "__eq__") K0 J hs hf (thn (run_in F hb hx (Sub.in1 ⟨hr, rfl⟩) I (.cons (show RelV (.ref _) (.ref _) from rfl) (.cons ry .nil)) hsp) fun r s' z => ?_))
    obtain ⟨v, H', I', rv, b, rfl, q⟩ := z
    cases rv
    refine wpAny_bind (wpAny_truthy_bool ?_)
    exact wpAny_pure (wpAny_pure ⟨_, rfl, .bl (!b), H', I', rfl, q⟩)
  unfold richCompare
  simp only [oneThing_ref]
  refine wpAny_holding (wpAny_bind (wpAny_cRoomFor hr.units0 ?_))
  refine wpAny_bind (J.type.here (wpAny_bind ((o.look I ry).here ?_)))
  split
  · rename_i q
    have e : PySem.W.subIn X.K tb (.ref C) = some false := by
      rcases Bool.or_eq_true_iff.mp nf with e | e
      · rw [beq_iff_eq.mp e] at q; simp at q
      · exact beq_iff_eq.mp e
    refine wpAny_bind ((PySem.W.looks_subIn K0 e).here ?_)
    simp only [Bool.false_eq_true, if_false]
    refine wpAny_bind (wpAny_mono one (fun r s' z => ?_) fun _ _ e => e)
    obtain ⟨v, rfl, hq⟩ := z
    exact wpAny_pure hq
  · refine wpAny_bind (wpAny_pure ?_)
    simp only [Bool.false_eq_true, if_false]
    refine wpAny_bind (wpAny_mono one (fun r s' z => ?_) fun _ _ e => e)
    obtain ⟨v, rfl, hq⟩ := z
    exact wpAny_pure hq
/-- len(o) -/
def rLenO (C : Addr) (sp : Sp) (E : XK) : List V → Hp → VK → Prop := fun xs H Q => ∃ a dx fs, xs = [.ref a] ∧ H a = some (.ins C dx fs) ∧ sp [.ref a] H (fun v H' => ∃ n : Nat, v = .int n ∧ (n : Int) < 2 ^ 63 ∧ Q (.int n) H') E
theorem call_lenO (F : FnOk X.prog X.w X.K X.mg X.base CX n f fd ps sp) (hs : PySem.W.findIn X.K (.ref C) "__len__" = some (some (.ref f))) (hf : PySem.W.isFn X.K (.ref f) = true) (hb : Binds X.K fd ps []) (hx : Passes CX X E) (hr : Room (n + 1) X.A) : CallR X (.builtin "len") (rLenO C sp E) := by
  intro pins s σ H xs us Q I r h
  obtain ⟨a, dx, fs, rfl, ha, hsp⟩ := h
  obtain ⟨u, rfl, rx⟩ := vals1 r
  cases rx
  obtain ⟨mA, J, _⟩ := ins_get I.hok ha
  obtain ⟨od, J, _⟩ := J.look
  obtain ⟨m, hF⟩ := I.fr
  refine PySem.W.len_K hF I.ok.mod.kin J hs hf (thn (run_in F hb hx (Sub.in1 ⟨hr, rfl⟩) I (.cons (show RelV (.ref _) (.ref _) from rfl) .nil) hsp) fun r s' z => ?_)
  obtain ⟨v, H', I', rv, k, rfl, hk, q⟩ := z
  obtain ⟨t, rfl⟩ := rv
  exact ⟨⟨by omega, hk⟩, .int k, H', I'.tok _, ⟨_, rfl⟩, q⟩
/-- the truth of o by its __len__ -/
theorem truthy_O {a dx : Addr} {fs : List (Str × V)} (F : FnOk X.prog X.w X.K X.mg X.base CX n f fd ps sp) (hs : PySem.W.findIn X.K (.ref C) "__len__" = some (some (.ref f))) (hn : PySem.W.findIn X.K (.ref C) "__bool__" = some none) (hf : PySem.W.isFn X.K (.ref f) = true) (hb : Binds X.K fd ps []) (hx : Passes CX X E) (sb : Sub X (n + 1) A)
    (I : Inv X pins σ H s) (ha : H a = some (.ins C dx fs)) {Qb : Bool → Shared → Prop} (hsp : sp [.ref a] H (fun v H' => ∃ n : Nat, v = .int n ∧ (n : Int) < 2 ^ 63 ∧ ∀ s', Inv X pins σ H' s' → Qb (n != 0) s') E) : wpAny (model X.prog X.w) A (truthy (.ref a)) Qb X.xe s := by
  obtain ⟨mA, J, _⟩ := ins_get I.hok ha
  obtain ⟨od, J, _⟩ := J.look
  have K0 := I.kIn
  unfold truthy
  refine wpAny_bind (m := callSpecial? (.ref a) (Str.ofString "__bool__")) (wpAny_bind (wpAny_bind (J.type.here ((PySem.W.looks_findIn K0 hn).here (wpAny_pure ?_)))))
  refine wpAny_bind (wpAny_bind (J.type.here ((PySem.W.looks_findIn K0 hs).here ?_)))
  show wpAny _ _ (if (some (Value.ref f)).isNone = true then _ else _) _ _ _
  rw [if_neg (by simp)]
  refine wpAny_bind (wpAny_runValue (codeAny_builtin PySem.entry_len ?_))
  rw [Around.under_plainId PySem.plain_len _]
  unfold Builtin.«len»
  refine wpAny_bind (m := oneArg "len" _) (wpAny_pure ?_)
  refine wpAny_bind (m := callSpecial? (.ref a) (Str.ofString "__len__")) (PySem.W.special_fn K0 J hs (beq_iff_eq.mp hf) (thn (run_in F hb hx sb.in1 I (.cons (show RelV (.ref _) (.ref _) from rfl) .nil) hsp) fun r s' z => ?_))
  obtain ⟨v, H', I', rv, k, rfl, hk, q⟩ := z
  obtain ⟨t, rfl⟩ := rv
  refine wpAny_bind (wpAny_holding (wpAny_pure ?_))
  refine wpAny_bind (wpAny_letGo ?_)
  show wpAny _ _ (if (k : Int) < 0 then _ else _) _ _ _
  rw [if_neg (by omega)]
  show wpAny _ _ (if (k : Int) ≥ 2 ^ 63 then _ else _) _ _ _
  rw [if_neg (by omega)]
  refine wpAny_bind (wpAny_mkInt (wpAny_pure ?_))
  refine wpAny_pure ?_
  have e : ((k : Int) != 0) = (k != 0) := by
    by_cases h : k = 0
    · subst h
      rfl
    · have h2 : (k : Int) ≠ 0 := by omega
      rw [bne_iff_ne.mpr h, bne_iff_ne.mpr h2]
  rw [e]
  exact q _ (I'.tok _)
/-- repr(o), str(o) -/
def rStrO (C : Addr) (sp : Sp) (E : XK) : List V → Hp → VK → Prop := fun xs H Q => ∃ a dx fs, xs = [.ref a] ∧ H a = some (.ins C dx fs) ∧ sp [.ref a] H (fun v H' => ∃ z, v = .str z ∧ Q (.str z) H') E
theorem call_reprO (F : FnOk X.prog X.w X.K X.mg X.base CX n f fd ps sp) (hs : PySem.W.findIn X.K (.ref C) "__repr__" = some (some (.ref f))) (hf : PySem.W.isFn X.K (.ref f) = true) (hb : Binds X.K fd ps []) (hx : Passes CX X E) (hr : Room (n + 1) X.A) : CallR X (.builtin "repr") (rStrO C sp E) := by
  intro pins s σ H xs us Q I r h
  obtain ⟨a, dx, fs, rfl, ha, hsp⟩ := h
  obtain ⟨u, rfl, rx⟩ := vals1 r
  cases rx
  obtain ⟨mA, J, _⟩ := ins_get I.hok ha
  obtain ⟨od, J, _⟩ := J.look
  obtain ⟨m, hF⟩ := I.fr
  refine PySem.W.repr_K hr.in1.units0 hF I.ok.mod.kin J hs hf (thn (run_in F hb hx (Sub.in1 ⟨hr, rfl⟩) I (.cons (show RelV (.ref _) (.ref _) from rfl) .nil) hsp) fun r s' z => ?_)
  obtain ⟨v, H', I', rv, k, rfl, q⟩ := z
  obtain ⟨t, rfl⟩ := rv
  exact ⟨.str k, H', I', ⟨_, rfl⟩, q⟩
theorem call_strO (F : FnOk X.prog X.w X.K X.mg X.base CX n f fd ps sp) (hs : PySem.W.findIn X.K (.ref C) "__str__" = some (some (.ref f))) (hf : PySem.W.isFn X.K (.ref f) = true) (hb : Binds X.K fd ps []) (hx : Passes CX X E) (hr : Room (n + 2) X.A) : CallR X (.type "str") (rStrO C sp E) := by
  intro pins s σ H xs us Q I r h
  obtain ⟨a, dx, fs, rfl, ha, hsp⟩ := h
  obtain ⟨u, rfl, rx⟩ := vals1 r
  cases rx
  obtain ⟨mA, J, _⟩ := ins_get I.hok ha
  obtain ⟨od, J, _⟩ := J.look
  refine PySem.W.kso_call hr.in1.in1.units0 I.kIn J hs hf (thn (run_in F hb hx (Sub.in1 (Sub.in1 ⟨hr, rfl⟩)) I (.cons (show RelV (.ref _) (.ref _) from rfl) .nil) hsp) fun r s' z => ?_)
  obtain ⟨v, H', I', rv, k, rfl, q⟩ := z
  obtain ⟨t, rfl⟩ := rv
  exact ⟨.str k, H', I', ⟨_, rfl⟩, q⟩
end
end Lt
namespace Lt
open PySem PySem.Spec PyProof.Rows L2
/-- an own class: what isinstance asks -/
structure OwnC (K : PySem.W.Frag) (C : Addr) : Prop where
  cl : Cls K C
  ha : PySem.W.findIn K (.ref C) "__class__" = some (some (.builtin "object.__class__"))
  hn : PySem.W.specialIn K (.builtin "object.__class__") "__get__" = some (some (.builtin "getset_descriptor.__get__"))
  ht : PySem.W.takesIn K (.builtin "object.__class__") = some true
  mo : PySem.W.mroIn K C (.type "object") = some true
  ty : PySem.W.typeIn K (.ref C) = some (.type "type")
section
variable {K : PySem.W.Frag} {C : Addr} {H : Hp} {a dx : Addr} {fs : List (Str × V)}
theorem OwnC.tyx (o : OwnC K C) (h : H a = some (.ins C dx fs)) : TyX K H (.ref a) (.ref C) := .base (.ins h o.cl o.ha o.hn o.ht o.mo)
theorem OwnC.self (o : OwnC K C) : PySem.W.kitOne K (.ref C) (.ref C) = some true := if_pos (beq_self_eq_true _)
theorem OwnC.other (o : OwnC K C) {T : String} (h : PySem.W.subIn K (.type T) (.ref C) = some false) : PySem.W.kitOne K (.type T) (.ref C) = some false := by
  obtain ⟨cd, hc, _⟩ := PySem.W.any_some o.cl.hd
  have e2 : ((PySem.W.clsIn K C).isSome && PySem.W.typeIn K (.ref C) == some (.type "type")) = true := by
    rw [hc, o.ty] <;> rfl
  unfold PySem.W.kitOne
  rw [if_neg (by
    intro z
    have := beq_iff_eq.mp z
    cases this)]
  show (if ((PySem.W.clsIn K C).isSome && PySem.W.typeIn K (.ref C) == some (.type "type")) = true then PySem.W.subIn K (.type T) (.ref C) else none) = some false
  rw [if_pos e2]
  exact h
theorem sub_list (K : PySem.W.Frag) (C : Addr) : PySem.W.subIn K (.type "list") (.ref C) = some false := by kernel_rfl
theorem sub_str (K : PySem.W.Frag) (C : Addr) : PySem.W.subIn K (.type "str") (.ref C) = some false := by kernel_rfl
theorem nf_self (K : PySem.W.Frag) (C : Addr) : PySem.W.notFirst K C (.ref C) = true := by
  unfold PySem.W.notFirst
  rw [beq_self_eq_true]
  rfl
theorem nf_list (K : PySem.W.Frag) (C : Addr) : PySem.W.notFirst K C (.type "list") = true := by
  unfold PySem.W.notFirst
  rw [sub_list]
  rfl
theorem nf_str (K : PySem.W.Frag) (C : Addr) : PySem.W.notFirst K C (.type "str") = true := by
  unfold PySem.W.notFirst
  rw [sub_str]
  rfl
end
end Lt
namespace Lt
open PySem PySem.Spec PyProof.Rows L2
section
variable {X : Cx}
/-- set(xs) of a list or a tuple of whole numbers -/
def rMkSet2 (K : PySem.W.Frag) (w : World) : List V → Hp → VK → Prop := fun vs H Q => ∃ (a : Addr) (ks : List Int), vs = [V.ref a] ∧ (SqL K H a (ks.map V.int) ∨ SqT K H a (ks.map V.int)) ∧ ks.length ≤ 1000 ∧
  ∀ p c, H p = none → c ≤ ks.length → Q (.ref p) (upd H p (SetO w p (fun j => decide (j ∈ ks)) c))
theorem cr_set2 (hc : X.calm = true) : CallR X (.type "set") (rMkSet2 X.K X.w) := by
  intro pins s σ H vs us Q I r hw
  obtain ⟨a, ks, rfl, hx, hk, hq⟩ := hw
  rcases hx with hx | hx
  · exact cr_setL hc pins s σ H _ us Q I r ⟨a, ks, rfl, hx, hk, hq⟩
  · obtain ⟨its, rv, pl, hz⟩ := I.tuple hx
    rw [Vals.ref1 r]
    refine call_set_tupI ks (I.ok.hd hc) (show s.heap.IsTuple a its.toArray from pl) (ints_of_vals rv) (by unfold scanBound; omega) fun g tk c R le kp => ?_
    exact ⟨.ref _, upd H s.heap.objs.size (SetO X.w s.heap.objs.size (fun j => decide (j ∈ ks)) c), I.laid (t' := tk) kp (Nat.le_refl _) (setO_new R), rfl, hq _ c (I.hok.fresh (Nat.le_refl _)) le⟩
end
section
variable {K : PySem.W.Frag} {L : List Asn} {H : Hp} {Q : VK} {a : Addr} {ks : List Int} {σ : L2.St}
/-- a list or a tuple of whole numbers that is handed in -/
def ArgI (K : PySem.W.Frag) (L : List Asn) (H : Hp) (a : Addr) (ks : List Int) : Prop := HasL L a (ks.map PyData.int) ∨ SqT K H a (ks.map V.int)
theorem s_sortSet2 {w : World} (hS : Hs L H) (k : ArgI K L H a ks) (h64 : ks.length < 64) (h : ∀ q H', Hs (isL q ((ascOf ks).map PyData.int) :: L) H' → Q (.ref q) H') : rMkSet2 K w [V.ref a] H fun x H1 => tNil σ H1 fun xs H2 => rSortedSet w (x :: xs) H2 Q := by
  have h1 : SqL K H a (ks.map V.int) ∨ SqT K H a (ks.map V.int) := by
    rcases k with k | k
    · exact .inl (SqL.of (k.ints hS))
    · exact .inr k
  refine ⟨a, ks, rfl, h1, by omega, fun p c np hc => ?_⟩
  show rSortedSet w [V.ref p] (upd H p _) Q
  refine ⟨p, _, c, rfl, upd_same, by omega, fun ns p2 h1 h2 h3 np2 => ?_⟩
  have e : ns = ascOf ks := asc_eq h1 fun k => (h2 k).trans (by simp)
  rw [e]
  exact h p2 _ ((hS.sub (same_new np)).newL np2 (DvAll.ints _))
end
end Lt
/-! sorted(a set of whole numbers), any size -/
namespace Lt
open PySem PySem.Spec PyProof.Rows L2
section
variable {P : Program} {w : World} {A : Around} {E : Value → Shared → Prop} {s : Shared} {a : Addr}
theorem sorted_setA {S : Int → Bool} {n : Nat} {Q : Value → Shared → Prop} (R : SetR w s.heap a S n) (hh : A.handled = none) (h64 : n ≤ 100000)
    (hQ : ∀ s' p (out : Array Value) (c : Nat) (ns : List Int), (∀ b o, s.heap.get? b = some o → s'.heap.get? b = some o) → s'.gens = s.gens → s'.os = s.os → s.heap.objs.size ≤ p →
      s'.heap.get? p = some (seqObj "list" out c) → IntsAre out.toList ns → ns.Pairwise (· < ·) → (∀ k, k ∈ ns ↔ S k = true) → ns.length = n → Q (.ref p) s') :
    wpAny (model P w) A (call (.builtin "sorted") [.ref a]) Q E s := by
  obtain ⟨o, es, ep, t, ho, hex, hd, g, nd, hm, hb, hf, hn, hr, hl⟩ := R
  refine Calls.call_function_entry kind_sorted plain_sorted entry_sorted (args_sorted1 _) ?_
  unfold Builtin.«sorted»
  refine wpAny_bind (m := checkCount "sorted" 1 1 _) (wpAny_pure ?_)
  refine wpAny_bind (collect_set (A := A.in1) hh ⟨o, ho, hex.1, hd⟩ hf hb hr hl fun s1 vs k1 hz g1 o1 pm => ?_)
  have hvl : vs.length = n := by rw [pm.length_eq, List.length_map, Array.length_toList]; exact hn
  have hI : IntsAre vs (vs.map Builtin.Re.reRawOf) := ints_of vs fun v hv => by
    obtain ⟨e, he, q⟩ := List.mem_map.mp (pm.mem_iff.mp hv)
    obtain ⟨k, tk, h1, _⟩ := g e he
    exact ⟨k, tk, by rw [← q]; exact h1⟩
  have pk : (vs.map Builtin.Re.reRawOf).Perm (es.toList.map keyOf) := by
    have q := pm.map Builtin.Re.reRawOf
    rw [List.map_map] at q
    exact q
  refine wpAny_bind (wpAny_newList ?_ (by rw [hvl, sizeLine_eq]; omega))
  have hoL : (s1.heap.push (seqObj "list" vs.toArray 0)).get? s1.heap.objs.size = some (seqObj "list" vs.toArray 0) := Heap.get?_push_size _ rfl
  refine wpAny_bind (wpAny_holding (wpAny_call_entry slot_list_sort ⟨_, hoL, rfl⟩ entry_list_sort (SrtO.list_sort_ord SrtO.swo_int hoL (by rw [hvl, sizeLine_eq]; omega) (fun h2 => SrtO.ints_sortable hI h2) fun out h1 h2 => ⟨_, rfl, ?_⟩) (args_list_sort _)))
  obtain ⟨a1, a2, a3⟩ := SrtO.ints_out hI h1 h2
  obtain ⟨c, hc⟩ := sortedHeap_at (vs := vs) (out := out.toArray) hoL
  have pn : (out.map SrtO.iv).Perm (es.toList.map keyOf) := a2.trans pk
  refine wpAny_pure ⟨_, rfl, hQ _ s1.heap.objs.size out.toArray c (out.map SrtO.iv) (fun b u e => ?_) g1 o1 hz hc a1 (lt_of_le_nodup _ a3 (pn.nodup_iff.mpr nd)) (fun k => by rw [pn.mem_iff, ← hm k]) ?_⟩
  · have q := k1 b u e
    have hlt := Heap.lt_size q
    show (sortedHeap (s1.heap.push (seqObj "list" vs.toArray 0)) s1.heap.objs.size vs out.toArray).get? b = some u
    rw [sortedHeap_old (Nat.ne_of_lt hlt) (by rw [size_push']; exact Nat.lt_succ_of_lt hlt)]
    exact Heap.get?_push_of_some _ q
  · rw [pn.length_eq, List.length_map, Array.length_toList]; exact hn
end
section
variable {X : Cx}
def rSortedSetA (w : World) : List V → Hp → VK → Prop := fun vs H Q => ∃ (a : Addr) (S : Int → Bool) (n : Nat), vs = [V.ref a] ∧ H a = some (SetO w a S n) ∧ n ≤ 100000 ∧
  ∀ (ns : List Int) (p : Addr), ns.Pairwise (· < ·) → (∀ k, k ∈ ns ↔ S k = true) → ns.length = n → H p = none → Q (.ref p) (upd H p (.lst (ns.map V.int)))
theorem cr_sortedSetA (hc : X.calm = true) : CallR X (.builtin "sorted") (rSortedSetA X.w) := by
  intro pins s σ H vs us Q I r h
  obtain ⟨a, S, n, rfl, ha, h64, q⟩ := h
  have R := setO_get I ha
  rw [Vals.ref1 r]
  refine sorted_setA R (I.ok.hd hc) h64 fun s' p out c ns k g o hp hg hi hs hm hl => ?_
  have hlen : (ns.map V.int).length ≤ sizeLine := by rw [List.length_map, hl, sizeLine_eq]; omega
  have hn : H p = none := I.hok.fresh hp
  have J : Inv X pins σ (upd H p (.lst (ns.map V.int))) { s with heap := s'.heap, gens := s'.gens, drawn := s'.drawn, toks := s'.toks } :=
    I.call (ch := []) (Un.laid k hp hn) (I.hok.laid k hp ⟨hlen, out.toList, c, vals_of_ints hi, hg⟩) (by rw [g]; exact I.bare) (fun _ z => nomatch z)
  have e : s' = { s with heap := s'.heap, gens := s'.gens, drawn := s'.drawn, toks := s'.toks } := by
    cases s'
    cases s
    cases o
    rfl
  rw [e]
  exact ⟨.ref p, _, J, rfl, q ns p hs hm hl hn⟩
end
section
variable {K : PySem.W.Frag} {L : List Asn} {H : Hp} {Q : VK} {a : Addr} {ks : List Int} {σ : L2.St}
theorem s_sortSetA {w : World} (hS : Hs L H) (k : ArgI K L H a ks) (hl : ks.length ≤ 1000) (h : ∀ q H', Hs (isL q ((ascOf ks).map PyData.int) :: L) H' → Q (.ref q) H') : rMkSet2 K w [V.ref a] H fun x H1 => tNil σ H1 fun xs H2 => rSortedSetA w (x :: xs) H2 Q := by
  have h1 : SqL K H a (ks.map V.int) ∨ SqT K H a (ks.map V.int) := by
    rcases k with k | k
    · exact .inl (SqL.of (k.ints hS))
    · exact .inr k
  refine ⟨a, ks, rfl, h1, hl, fun p c np hc => ?_⟩
  show rSortedSetA w [V.ref p] (upd H p _) Q
  refine ⟨p, _, c, rfl, upd_same, by omega, fun ns p2 h1 h2 h3 np2 => ?_⟩
  have e : ns = ascOf ks := asc_eq h1 fun k => (h2 k).trans (by simp)
  rw [e]
  exact h p2 _ ((hS.sub (same_new np)).newL np2 (DvAll.ints _))
end
end Lt
namespace Lt
theorem asc_ext {xs ys : List Int} (h : ∀ k, k ∈ xs ↔ k ∈ ys) : ascOf xs = ascOf ys := asc_one (asc_asc xs) (asc_asc ys) fun k => by rw [mem_asc, mem_asc, h]
theorem asc_idem (xs : List Int) : ascOf (ascOf xs) = ascOf xs := asc_ext fun k => mem_asc
theorem asc_of_asc {xs : List Int} (h : xs.Pairwise (· < ·)) : ascOf xs = xs := asc_one (asc_asc xs) h fun k => mem_asc
theorem sortI_nd {xs : List Int} (h : xs.Nodup) : sortI xs = ascOf xs := by
  have p := sortI_perm xs
  refine asc_one ?_ (asc_asc xs) fun k => by rw [p.mem_iff, mem_asc]
  have nd : (sortI xs).Nodup := p.symm.nodup h
  exact (sortI_asc xs).imp₂ (fun a b h1 h2 => by omega) nd
theorem asc_nd (xs : List Int) : (ascOf xs).Nodup := (asc_asc xs).imp fun h e => by omega
theorem strOf_asc (xs : List Int) : strOf (ascOf xs) = strOf xs := by
  unfold strOf
  rw [asc_idem]
end Lt
/-! a slot stored, the slots written out -/
namespace Lt
open PySem PySem.Spec PyProof.Rows L2
section
variable {v : V} {H : Hp} {Qs : L2.St → Hp → Prop} {σ : L2.St} {te : TE} {ti : TIp} {D : Ends} {x : V}
theorem gn0 {a0 : Option V} (h : Qs (some v :: σ) H) : gName 0 v (a0 :: σ) H Qs := h
theorem ag0 (h : te (some x :: σ) H fun y H1 => ti x y H1 fun z H2 => D.nx (some z :: σ) H2) : tAug 0 te ti D (some x :: σ) H := ⟨x, rfl, h⟩
theorem gn1 {a0 a1 : Option V} (h : Qs (a0 :: some v :: σ) H) : gName 1 v (a0 :: a1 :: σ) H Qs := h
theorem ag1 {a0 : Option V} (h : te (a0 :: some x :: σ) H fun y H1 => ti x y H1 fun z H2 => D.nx (a0 :: some z :: σ) H2) : tAug 1 te ti D (a0 :: some x :: σ) H := ⟨x, rfl, h⟩
theorem gn2 {a0 a1 a2 : Option V} (h : Qs (a0 :: a1 :: some v :: σ) H) : gName 2 v (a0 :: a1 :: a2 :: σ) H Qs := h
theorem ag2 {a0 a1 : Option V} (h : te (a0 :: a1 :: some x :: σ) H fun y H1 => ti x y H1 fun z H2 => D.nx (a0 :: a1 :: some z :: σ) H2) : tAug 2 te ti D (a0 :: a1 :: some x :: σ) H := ⟨x, rfl, h⟩
theorem gn3 {a0 a1 a2 a3 : Option V} (h : Qs (a0 :: a1 :: a2 :: some v :: σ) H) : gName 3 v (a0 :: a1 :: a2 :: a3 :: σ) H Qs := h
theorem ag3 {a0 a1 a2 : Option V} (h : te (a0 :: a1 :: a2 :: some x :: σ) H fun y H1 => ti x y H1 fun z H2 => D.nx (a0 :: a1 :: a2 :: some z :: σ) H2) : tAug 3 te ti D (a0 :: a1 :: a2 :: some x :: σ) H := ⟨x, rfl, h⟩
theorem gn4 {a0 a1 a2 a3 a4 : Option V} (h : Qs (a0 :: a1 :: a2 :: a3 :: some v :: σ) H) : gName 4 v (a0 :: a1 :: a2 :: a3 :: a4 :: σ) H Qs := h
theorem ag4 {a0 a1 a2 a3 : Option V} (h : te (a0 :: a1 :: a2 :: a3 :: some x :: σ) H fun y H1 => ti x y H1 fun z H2 => D.nx (a0 :: a1 :: a2 :: a3 :: some z :: σ) H2) : tAug 4 te ti D (a0 :: a1 :: a2 :: a3 :: some x :: σ) H := ⟨x, rfl, h⟩
theorem gn5 {a0 a1 a2 a3 a4 a5 : Option V} (h : Qs (a0 :: a1 :: a2 :: a3 :: a4 :: some v :: σ) H) : gName 5 v (a0 :: a1 :: a2 :: a3 :: a4 :: a5 :: σ) H Qs := h
theorem ag5 {a0 a1 a2 a3 a4 : Option V} (h : te (a0 :: a1 :: a2 :: a3 :: a4 :: some x :: σ) H fun y H1 => ti x y H1 fun z H2 => D.nx (a0 :: a1 :: a2 :: a3 :: a4 :: some z :: σ) H2) : tAug 5 te ti D (a0 :: a1 :: a2 :: a3 :: a4 :: some x :: σ) H := ⟨x, rfl, h⟩
theorem gn6 {a0 a1 a2 a3 a4 a5 a6 : Option V} (h : Qs (a0 :: a1 :: a2 :: a3 :: a4 :: a5 :: some v :: σ) H) : gName 6 v (a0 :: a1 :: a2 :: a3 :: a4 :: a5 :: a6 :: σ) H Qs := h
theorem ag6 {a0 a1 a2 a3 a4 a5 : Option V} (h : te (a0 :: a1 :: a2 :: a3 :: a4 :: a5 :: some x :: σ) H fun y H1 => ti x y H1 fun z H2 => D.nx (a0 :: a1 :: a2 :: a3 :: a4 :: a5 :: some z :: σ) H2) : tAug 6 te ti D (a0 :: a1 :: a2 :: a3 :: a4 :: a5 :: some x :: σ) H := ⟨x, rfl, h⟩
theorem gn7 {a0 a1 a2 a3 a4 a5 a6 a7 : Option V} (h : Qs (a0 :: a1 :: a2 :: a3 :: a4 :: a5 :: a6 :: some v :: σ) H) : gName 7 v (a0 :: a1 :: a2 :: a3 :: a4 :: a5 :: a6 :: a7 :: σ) H Qs := h
theorem ag7 {a0 a1 a2 a3 a4 a5 a6 : Option V} (h : te (a0 :: a1 :: a2 :: a3 :: a4 :: a5 :: a6 :: some x :: σ) H fun y H1 => ti x y H1 fun z H2 => D.nx (a0 :: a1 :: a2 :: a3 :: a4 :: a5 :: a6 :: some z :: σ) H2) : tAug 7 te ti D (a0 :: a1 :: a2 :: a3 :: a4 :: a5 :: a6 :: some x :: σ) H := ⟨x, rfl, h⟩
theorem gn8 {a0 a1 a2 a3 a4 a5 a6 a7 a8 : Option V} (h : Qs (a0 :: a1 :: a2 :: a3 :: a4 :: a5 :: a6 :: a7 :: some v :: σ) H) : gName 8 v (a0 :: a1 :: a2 :: a3 :: a4 :: a5 :: a6 :: a7 :: a8 :: σ) H Qs := h
theorem ag8 {a0 a1 a2 a3 a4 a5 a6 a7 : Option V} (h : te (a0 :: a1 :: a2 :: a3 :: a4 :: a5 :: a6 :: a7 :: some x :: σ) H fun y H1 => ti x y H1 fun z H2 => D.nx (a0 :: a1 :: a2 :: a3 :: a4 :: a5 :: a6 :: a7 :: some z :: σ) H2) : tAug 8 te ti D (a0 :: a1 :: a2 :: a3 :: a4 :: a5 :: a6 :: a7 :: some x :: σ) H := ⟨x, rfl, h⟩
theorem gn9 {a0 a1 a2 a3 a4 a5 a6 a7 a8 a9 : Option V} (h : Qs (a0 :: a1 :: a2 :: a3 :: a4 :: a5 :: a6 :: a7 :: a8 :: some v :: σ) H) : gName 9 v (a0 :: a1 :: a2 :: a3 :: a4 :: a5 :: a6 :: a7 :: a8 :: a9 :: σ) H Qs := h
theorem ag9 {a0 a1 a2 a3 a4 a5 a6 a7 a8 : Option V} (h : te (a0 :: a1 :: a2 :: a3 :: a4 :: a5 :: a6 :: a7 :: a8 :: some x :: σ) H fun y H1 => ti x y H1 fun z H2 => D.nx (a0 :: a1 :: a2 :: a3 :: a4 :: a5 :: a6 :: a7 :: a8 :: some z :: σ) H2) : tAug 9 te ti D (a0 :: a1 :: a2 :: a3 :: a4 :: a5 :: a6 :: a7 :: a8 :: some x :: σ) H := ⟨x, rfl, h⟩
theorem gn10 {a0 a1 a2 a3 a4 a5 a6 a7 a8 a9 a10 : Option V} (h : Qs (a0 :: a1 :: a2 :: a3 :: a4 :: a5 :: a6 :: a7 :: a8 :: a9 :: some v :: σ) H) : gName 10 v (a0 :: a1 :: a2 :: a3 :: a4 :: a5 :: a6 :: a7 :: a8 :: a9 :: a10 :: σ) H Qs := h
theorem ag10 {a0 a1 a2 a3 a4 a5 a6 a7 a8 a9 : Option V} (h : te (a0 :: a1 :: a2 :: a3 :: a4 :: a5 :: a6 :: a7 :: a8 :: a9 :: some x :: σ) H fun y H1 => ti x y H1 fun z H2 => D.nx (a0 :: a1 :: a2 :: a3 :: a4 :: a5 :: a6 :: a7 :: a8 :: a9 :: some z :: σ) H2) : tAug 10 te ti D (a0 :: a1 :: a2 :: a3 :: a4 :: a5 :: a6 :: a7 :: a8 :: a9 :: some x :: σ) H := ⟨x, rfl, h⟩
theorem gn11 {a0 a1 a2 a3 a4 a5 a6 a7 a8 a9 a10 a11 : Option V} (h : Qs (a0 :: a1 :: a2 :: a3 :: a4 :: a5 :: a6 :: a7 :: a8 :: a9 :: a10 :: some v :: σ) H) : gName 11 v (a0 :: a1 :: a2 :: a3 :: a4 :: a5 :: a6 :: a7 :: a8 :: a9 :: a10 :: a11 :: σ) H Qs := h
theorem ag11 {a0 a1 a2 a3 a4 a5 a6 a7 a8 a9 a10 : Option V} (h : te (a0 :: a1 :: a2 :: a3 :: a4 :: a5 :: a6 :: a7 :: a8 :: a9 :: a10 :: some x :: σ) H fun y H1 => ti x y H1 fun z H2 => D.nx (a0 :: a1 :: a2 :: a3 :: a4 :: a5 :: a6 :: a7 :: a8 :: a9 :: a10 :: some z :: σ) H2) : tAug 11 te ti D (a0 :: a1 :: a2 :: a3 :: a4 :: a5 :: a6 :: a7 :: a8 :: a9 :: a10 :: some x :: σ) H := ⟨x, rfl, h⟩
theorem gn12 {a0 a1 a2 a3 a4 a5 a6 a7 a8 a9 a10 a11 a12 : Option V} (h : Qs (a0 :: a1 :: a2 :: a3 :: a4 :: a5 :: a6 :: a7 :: a8 :: a9 :: a10 :: a11 :: some v :: σ) H) : gName 12 v (a0 :: a1 :: a2 :: a3 :: a4 :: a5 :: a6 :: a7 :: a8 :: a9 :: a10 :: a11 :: a12 :: σ) H Qs := h
theorem ag12 {a0 a1 a2 a3 a4 a5 a6 a7 a8 a9 a10 a11 : Option V} (h : te (a0 :: a1 :: a2 :: a3 :: a4 :: a5 :: a6 :: a7 :: a8 :: a9 :: a10 :: a11 :: some x :: σ) H fun y H1 => ti x y H1 fun z H2 => D.nx (a0 :: a1 :: a2 :: a3 :: a4 :: a5 :: a6 :: a7 :: a8 :: a9 :: a10 :: a11 :: some z :: σ) H2) : tAug 12 te ti D (a0 :: a1 :: a2 :: a3 :: a4 :: a5 :: a6 :: a7 :: a8 :: a9 :: a10 :: a11 :: some x :: σ) H := ⟨x, rfl, h⟩
theorem gn13 {a0 a1 a2 a3 a4 a5 a6 a7 a8 a9 a10 a11 a12 a13 : Option V} (h : Qs (a0 :: a1 :: a2 :: a3 :: a4 :: a5 :: a6 :: a7 :: a8 :: a9 :: a10 :: a11 :: a12 :: some v :: σ) H) : gName 13 v (a0 :: a1 :: a2 :: a3 :: a4 :: a5 :: a6 :: a7 :: a8 :: a9 :: a10 :: a11 :: a12 :: a13 :: σ) H Qs := h
theorem ag13 {a0 a1 a2 a3 a4 a5 a6 a7 a8 a9 a10 a11 a12 : Option V} (h : te (a0 :: a1 :: a2 :: a3 :: a4 :: a5 :: a6 :: a7 :: a8 :: a9 :: a10 :: a11 :: a12 :: some x :: σ) H fun y H1 => ti x y H1 fun z H2 => D.nx (a0 :: a1 :: a2 :: a3 :: a4 :: a5 :: a6 :: a7 :: a8 :: a9 :: a10 :: a11 :: a12 :: some z :: σ) H2) : tAug 13 te ti D (a0 :: a1 :: a2 :: a3 :: a4 :: a5 :: a6 :: a7 :: a8 :: a9 :: a10 :: a11 :: a12 :: some x :: σ) H := ⟨x, rfl, h⟩
theorem gn14 {a0 a1 a2 a3 a4 a5 a6 a7 a8 a9 a10 a11 a12 a13 a14 : Option V} (h : Qs (a0 :: a1 :: a2 :: a3 :: a4 :: a5 :: a6 :: a7 :: a8 :: a9 :: a10 :: a11 :: a12 :: a13 :: some v :: σ) H) : gName 14 v (a0 :: a1 :: a2 :: a3 :: a4 :: a5 :: a6 :: a7 :: a8 :: a9 :: a10 :: a11 :: a12 :: a13 :: a14 :: σ) H Qs := h
theorem ag14 {a0 a1 a2 a3 a4 a5 a6 a7 a8 a9 a10 a11 a12 a13 : Option V} (h : te (a0 :: a1 :: a2 :: a3 :: a4 :: a5 :: a6 :: a7 :: a8 :: a9 :: a10 :: a11 :: a12 :: a13 :: some x :: σ) H fun y H1 => ti x y H1 fun z H2 => D.nx (a0 :: a1 :: a2 :: a3 :: a4 :: a5 :: a6 :: a7 :: a8 :: a9 :: a10 :: a11 :: a12 :: a13 :: some z :: σ) H2) : tAug 14 te ti D (a0 :: a1 :: a2 :: a3 :: a4 :: a5 :: a6 :: a7 :: a8 :: a9 :: a10 :: a11 :: a12 :: a13 :: some x :: σ) H := ⟨x, rfl, h⟩
theorem gn15 {a0 a1 a2 a3 a4 a5 a6 a7 a8 a9 a10 a11 a12 a13 a14 a15 : Option V} (h : Qs (a0 :: a1 :: a2 :: a3 :: a4 :: a5 :: a6 :: a7 :: a8 :: a9 :: a10 :: a11 :: a12 :: a13 :: a14 :: some v :: σ) H) : gName 15 v (a0 :: a1 :: a2 :: a3 :: a4 :: a5 :: a6 :: a7 :: a8 :: a9 :: a10 :: a11 :: a12 :: a13 :: a14 :: a15 :: σ) H Qs := h
theorem ag15 {a0 a1 a2 a3 a4 a5 a6 a7 a8 a9 a10 a11 a12 a13 a14 : Option V} (h : te (a0 :: a1 :: a2 :: a3 :: a4 :: a5 :: a6 :: a7 :: a8 :: a9 :: a10 :: a11 :: a12 :: a13 :: a14 :: some x :: σ) H fun y H1 => ti x y H1 fun z H2 => D.nx (a0 :: a1 :: a2 :: a3 :: a4 :: a5 :: a6 :: a7 :: a8 :: a9 :: a10 :: a11 :: a12 :: a13 :: a14 :: some z :: σ) H2) : tAug 15 te ti D (a0 :: a1 :: a2 :: a3 :: a4 :: a5 :: a6 :: a7 :: a8 :: a9 :: a10 :: a11 :: a12 :: a13 :: a14 :: some x :: σ) H := ⟨x, rfl, h⟩
theorem gn16 {a0 a1 a2 a3 a4 a5 a6 a7 a8 a9 a10 a11 a12 a13 a14 a15 a16 : Option V} (h : Qs (a0 :: a1 :: a2 :: a3 :: a4 :: a5 :: a6 :: a7 :: a8 :: a9 :: a10 :: a11 :: a12 :: a13 :: a14 :: a15 :: some v :: σ) H) : gName 16 v (a0 :: a1 :: a2 :: a3 :: a4 :: a5 :: a6 :: a7 :: a8 :: a9 :: a10 :: a11 :: a12 :: a13 :: a14 :: a15 :: a16 :: σ) H Qs := h
theorem ag16 {a0 a1 a2 a3 a4 a5 a6 a7 a8 a9 a10 a11 a12 a13 a14 a15 : Option V} (h : te (a0 :: a1 :: a2 :: a3 :: a4 :: a5 :: a6 :: a7 :: a8 :: a9 :: a10 :: a11 :: a12 :: a13 :: a14 :: a15 :: some x :: σ) H fun y H1 => ti x y H1 fun z H2 => D.nx (a0 :: a1 :: a2 :: a3 :: a4 :: a5 :: a6 :: a7 :: a8 :: a9 :: a10 :: a11 :: a12 :: a13 :: a14 :: a15 :: some z :: σ) H2) : tAug 16 te ti D (a0 :: a1 :: a2 :: a3 :: a4 :: a5 :: a6 :: a7 :: a8 :: a9 :: a10 :: a11 :: a12 :: a13 :: a14 :: a15 :: some x :: σ) H := ⟨x, rfl, h⟩
theorem gn17 {a0 a1 a2 a3 a4 a5 a6 a7 a8 a9 a10 a11 a12 a13 a14 a15 a16 a17 : Option V} (h : Qs (a0 :: a1 :: a2 :: a3 :: a4 :: a5 :: a6 :: a7 :: a8 :: a9 :: a10 :: a11 :: a12 :: a13 :: a14 :: a15 :: a16 :: some v :: σ) H) : gName 17 v (a0 :: a1 :: a2 :: a3 :: a4 :: a5 :: a6 :: a7 :: a8 :: a9 :: a10 :: a11 :: a12 :: a13 :: a14 :: a15 :: a16 :: a17 :: σ) H Qs := h
theorem ag17 {a0 a1 a2 a3 a4 a5 a6 a7 a8 a9 a10 a11 a12 a13 a14 a15 a16 : Option V} (h : te (a0 :: a1 :: a2 :: a3 :: a4 :: a5 :: a6 :: a7 :: a8 :: a9 :: a10 :: a11 :: a12 :: a13 :: a14 :: a15 :: a16 :: some x :: σ) H fun y H1 => ti x y H1 fun z H2 => D.nx (a0 :: a1 :: a2 :: a3 :: a4 :: a5 :: a6 :: a7 :: a8 :: a9 :: a10 :: a11 :: a12 :: a13 :: a14 :: a15 :: a16 :: some z :: σ) H2) : tAug 17 te ti D (a0 :: a1 :: a2 :: a3 :: a4 :: a5 :: a6 :: a7 :: a8 :: a9 :: a10 :: a11 :: a12 :: a13 :: a14 :: a15 :: a16 :: some x :: σ) H := ⟨x, rfl, h⟩
theorem gn18 {a0 a1 a2 a3 a4 a5 a6 a7 a8 a9 a10 a11 a12 a13 a14 a15 a16 a17 a18 : Option V} (h : Qs (a0 :: a1 :: a2 :: a3 :: a4 :: a5 :: a6 :: a7 :: a8 :: a9 :: a10 :: a11 :: a12 :: a13 :: a14 :: a15 :: a16 :: a17 :: some v :: σ) H) : gName 18 v (a0 :: a1 :: a2 :: a3 :: a4 :: a5 :: a6 :: a7 :: a8 :: a9 :: a10 :: a11 :: a12 :: a13 :: a14 :: a15 :: a16 :: a17 :: a18 :: σ) H Qs := h
theorem ag18 {a0 a1 a2 a3 a4 a5 a6 a7 a8 a9 a10 a11 a12 a13 a14 a15 a16 a17 : Option V} (h : te (a0 :: a1 :: a2 :: a3 :: a4 :: a5 :: a6 :: a7 :: a8 :: a9 :: a10 :: a11 :: a12 :: a13 :: a14 :: a15 :: a16 :: a17 :: some x :: σ) H fun y H1 => ti x y H1 fun z H2 => D.nx (a0 :: a1 :: a2 :: a3 :: a4 :: a5 :: a6 :: a7 :: a8 :: a9 :: a10 :: a11 :: a12 :: a13 :: a14 :: a15 :: a16 :: a17 :: some z :: σ) H2) : tAug 18 te ti D (a0 :: a1 :: a2 :: a3 :: a4 :: a5 :: a6 :: a7 :: a8 :: a9 :: a10 :: a11 :: a12 :: a13 :: a14 :: a15 :: a16 :: a17 :: some x :: σ) H := ⟨x, rfl, h⟩
theorem gn19 {a0 a1 a2 a3 a4 a5 a6 a7 a8 a9 a10 a11 a12 a13 a14 a15 a16 a17 a18 a19 : Option V} (h : Qs (a0 :: a1 :: a2 :: a3 :: a4 :: a5 :: a6 :: a7 :: a8 :: a9 :: a10 :: a11 :: a12 :: a13 :: a14 :: a15 :: a16 :: a17 :: a18 :: some v :: σ) H) : gName 19 v (a0 :: a1 :: a2 :: a3 :: a4 :: a5 :: a6 :: a7 :: a8 :: a9 :: a10 :: a11 :: a12 :: a13 :: a14 :: a15 :: a16 :: a17 :: a18 :: a19 :: σ) H Qs := h
theorem ag19 {a0 a1 a2 a3 a4 a5 a6 a7 a8 a9 a10 a11 a12 a13 a14 a15 a16 a17 a18 : Option V} (h : te (a0 :: a1 :: a2 :: a3 :: a4 :: a5 :: a6 :: a7 :: a8 :: a9 :: a10 :: a11 :: a12 :: a13 :: a14 :: a15 :: a16 :: a17 :: a18 :: some x :: σ) H fun y H1 => ti x y H1 fun z H2 => D.nx (a0 :: a1 :: a2 :: a3 :: a4 :: a5 :: a6 :: a7 :: a8 :: a9 :: a10 :: a11 :: a12 :: a13 :: a14 :: a15 :: a16 :: a17 :: a18 :: some z :: σ) H2) : tAug 19 te ti D (a0 :: a1 :: a2 :: a3 :: a4 :: a5 :: a6 :: a7 :: a8 :: a9 :: a10 :: a11 :: a12 :: a13 :: a14 :: a15 :: a16 :: a17 :: a18 :: some x :: σ) H := ⟨x, rfl, h⟩
theorem gn20 {a0 a1 a2 a3 a4 a5 a6 a7 a8 a9 a10 a11 a12 a13 a14 a15 a16 a17 a18 a19 a20 : Option V} (h : Qs (a0 :: a1 :: a2 :: a3 :: a4 :: a5 :: a6 :: a7 :: a8 :: a9 :: a10 :: a11 :: a12 :: a13 :: a14 :: a15 :: a16 :: a17 :: a18 :: a19 :: some v :: σ) H) : gName 20 v (a0 :: a1 :: a2 :: a3 :: a4 :: a5 :: a6 :: a7 :: a8 :: a9 :: a10 :: a11 :: a12 :: a13 :: a14 :: a15 :: a16 :: a17 :: a18 :: a19 :: a20 :: σ) H Qs := h
theorem ag20 {a0 a1 a2 a3 a4 a5 a6 a7 a8 a9 a10 a11 a12 a13 a14 a15 a16 a17 a18 a19 : Option V} (h : te (a0 :: a1 :: a2 :: a3 :: a4 :: a5 :: a6 :: a7 :: a8 :: a9 :: a10 :: a11 :: a12 :: a13 :: a14 :: a15 :: a16 :: a17 :: a18 :: a19 :: some x :: σ) H fun y H1 => ti x y H1 fun z H2 => D.nx (a0 :: a1 :: a2 :: a3 :: a4 :: a5 :: a6 :: a7 :: a8 :: a9 :: a10 :: a11 :: a12 :: a13 :: a14 :: a15 :: a16 :: a17 :: a18 :: a19 :: some z :: σ) H2) : tAug 20 te ti D (a0 :: a1 :: a2 :: a3 :: a4 :: a5 :: a6 :: a7 :: a8 :: a9 :: a10 :: a11 :: a12 :: a13 :: a14 :: a15 :: a16 :: a17 :: a18 :: a19 :: some x :: σ) H := ⟨x, rfl, h⟩
theorem gn21 {a0 a1 a2 a3 a4 a5 a6 a7 a8 a9 a10 a11 a12 a13 a14 a15 a16 a17 a18 a19 a20 a21 : Option V} (h : Qs (a0 :: a1 :: a2 :: a3 :: a4 :: a5 :: a6 :: a7 :: a8 :: a9 :: a10 :: a11 :: a12 :: a13 :: a14 :: a15 :: a16 :: a17 :: a18 :: a19 :: a20 :: some v :: σ) H) : gName 21 v (a0 :: a1 :: a2 :: a3 :: a4 :: a5 :: a6 :: a7 :: a8 :: a9 :: a10 :: a11 :: a12 :: a13 :: a14 :: a15 :: a16 :: a17 :: a18 :: a19 :: a20 :: a21 :: σ) H Qs := h
theorem ag21 {a0 a1 a2 a3 a4 a5 a6 a7 a8 a9 a10 a11 a12 a13 a14 a15 a16 a17 a18 a19 a20 : Option V} (h : te (a0 :: a1 :: a2 :: a3 :: a4 :: a5 :: a6 :: a7 :: a8 :: a9 :: a10 :: a11 :: a12 :: a13 :: a14 :: a15 :: a16 :: a17 :: a18 :: a19 :: a20 :: some x :: σ) H fun y H1 => ti x y H1 fun z H2 => D.nx (a0 :: a1 :: a2 :: a3 :: a4 :: a5 :: a6 :: a7 :: a8 :: a9 :: a10 :: a11 :: a12 :: a13 :: a14 :: a15 :: a16 :: a17 :: a18 :: a19 :: a20 :: some z :: σ) H2) : tAug 21 te ti D (a0 :: a1 :: a2 :: a3 :: a4 :: a5 :: a6 :: a7 :: a8 :: a9 :: a10 :: a11 :: a12 :: a13 :: a14 :: a15 :: a16 :: a17 :: a18 :: a19 :: a20 :: some x :: σ) H := ⟨x, rfl, h⟩
theorem gn22 {a0 a1 a2 a3 a4 a5 a6 a7 a8 a9 a10 a11 a12 a13 a14 a15 a16 a17 a18 a19 a20 a21 a22 : Option V} (h : Qs (a0 :: a1 :: a2 :: a3 :: a4 :: a5 :: a6 :: a7 :: a8 :: a9 :: a10 :: a11 :: a12 :: a13 :: a14 :: a15 :: a16 :: a17 :: a18 :: a19 :: a20 :: a21 :: some v :: σ) H) : gName 22 v (a0 :: a1 :: a2 :: a3 :: a4 :: a5 :: a6 :: a7 :: a8 :: a9 :: a10 :: a11 :: a12 :: a13 :: a14 :: a15 :: a16 :: a17 :: a18 :: a19 :: a20 :: a21 :: a22 :: σ) H Qs := h
theorem ag22 {a0 a1 a2 a3 a4 a5 a6 a7 a8 a9 a10 a11 a12 a13 a14 a15 a16 a17 a18 a19 a20 a21 : Option V} (h : te (a0 :: a1 :: a2 :: a3 :: a4 :: a5 :: a6 :: a7 :: a8 :: a9 :: a10 :: a11 :: a12 :: a13 :: a14 :: a15 :: a16 :: a17 :: a18 :: a19 :: a20 :: a21 :: some x :: σ) H fun y H1 => ti x y H1 fun z H2 => D.nx (a0 :: a1 :: a2 :: a3 :: a4 :: a5 :: a6 :: a7 :: a8 :: a9 :: a10 :: a11 :: a12 :: a13 :: a14 :: a15 :: a16 :: a17 :: a18 :: a19 :: a20 :: a21 :: some z :: σ) H2) : tAug 22 te ti D (a0 :: a1 :: a2 :: a3 :: a4 :: a5 :: a6 :: a7 :: a8 :: a9 :: a10 :: a11 :: a12 :: a13 :: a14 :: a15 :: a16 :: a17 :: a18 :: a19 :: a20 :: a21 :: some x :: σ) H := ⟨x, rfl, h⟩
theorem gn23 {a0 a1 a2 a3 a4 a5 a6 a7 a8 a9 a10 a11 a12 a13 a14 a15 a16 a17 a18 a19 a20 a21 a22 a23 : Option V} (h : Qs (a0 :: a1 :: a2 :: a3 :: a4 :: a5 :: a6 :: a7 :: a8 :: a9 :: a10 :: a11 :: a12 :: a13 :: a14 :: a15 :: a16 :: a17 :: a18 :: a19 :: a20 :: a21 :: a22 :: some v :: σ) H) : gName 23 v (a0 :: a1 :: a2 :: a3 :: a4 :: a5 :: a6 :: a7 :: a8 :: a9 :: a10 :: a11 :: a12 :: a13 :: a14 :: a15 :: a16 :: a17 :: a18 :: a19 :: a20 :: a21 :: a22 :: a23 :: σ) H Qs := h
theorem ag23 {a0 a1 a2 a3 a4 a5 a6 a7 a8 a9 a10 a11 a12 a13 a14 a15 a16 a17 a18 a19 a20 a21 a22 : Option V} (h : te (a0 :: a1 :: a2 :: a3 :: a4 :: a5 :: a6 :: a7 :: a8 :: a9 :: a10 :: a11 :: a12 :: a13 :: a14 :: a15 :: a16 :: a17 :: a18 :: a19 :: a20 :: a21 :: a22 :: some x :: σ) H fun y H1 => ti x y H1 fun z H2 => D.nx (a0 :: a1 :: a2 :: a3 :: a4 :: a5 :: a6 :: a7 :: a8 :: a9 :: a10 :: a11 :: a12 :: a13 :: a14 :: a15 :: a16 :: a17 :: a18 :: a19 :: a20 :: a21 :: a22 :: some z :: σ) H2) : tAug 23 te ti D (a0 :: a1 :: a2 :: a3 :: a4 :: a5 :: a6 :: a7 :: a8 :: a9 :: a10 :: a11 :: a12 :: a13 :: a14 :: a15 :: a16 :: a17 :: a18 :: a19 :: a20 :: a21 :: a22 :: some x :: σ) H := ⟨x, rfl, h⟩
theorem gn24 {a0 a1 a2 a3 a4 a5 a6 a7 a8 a9 a10 a11 a12 a13 a14 a15 a16 a17 a18 a19 a20 a21 a22 a23 a24 : Option V} (h : Qs (a0 :: a1 :: a2 :: a3 :: a4 :: a5 :: a6 :: a7 :: a8 :: a9 :: a10 :: a11 :: a12 :: a13 :: a14 :: a15 :: a16 :: a17 :: a18 :: a19 :: a20 :: a21 :: a22 :: a23 :: some v :: σ) H) : gName 24 v (a0 :: a1 :: a2 :: a3 :: a4 :: a5 :: a6 :: a7 :: a8 :: a9 :: a10 :: a11 :: a12 :: a13 :: a14 :: a15 :: a16 :: a17 :: a18 :: a19 :: a20 :: a21 :: a22 :: a23 :: a24 :: σ) H Qs := h
theorem ag24 {a0 a1 a2 a3 a4 a5 a6 a7 a8 a9 a10 a11 a12 a13 a14 a15 a16 a17 a18 a19 a20 a21 a22 a23 : Option V} (h : te (a0 :: a1 :: a2 :: a3 :: a4 :: a5 :: a6 :: a7 :: a8 :: a9 :: a10 :: a11 :: a12 :: a13 :: a14 :: a15 :: a16 :: a17 :: a18 :: a19 :: a20 :: a21 :: a22 :: a23 :: some x :: σ) H fun y H1 => ti x y H1 fun z H2 => D.nx (a0 :: a1 :: a2 :: a3 :: a4 :: a5 :: a6 :: a7 :: a8 :: a9 :: a10 :: a11 :: a12 :: a13 :: a14 :: a15 :: a16 :: a17 :: a18 :: a19 :: a20 :: a21 :: a22 :: a23 :: some z :: σ) H2) : tAug 24 te ti D (a0 :: a1 :: a2 :: a3 :: a4 :: a5 :: a6 :: a7 :: a8 :: a9 :: a10 :: a11 :: a12 :: a13 :: a14 :: a15 :: a16 :: a17 :: a18 :: a19 :: a20 :: a21 :: a22 :: a23 :: some x :: σ) H := ⟨x, rfl, h⟩
theorem gn25 {a0 a1 a2 a3 a4 a5 a6 a7 a8 a9 a10 a11 a12 a13 a14 a15 a16 a17 a18 a19 a20 a21 a22 a23 a24 a25 : Option V} (h : Qs (a0 :: a1 :: a2 :: a3 :: a4 :: a5 :: a6 :: a7 :: a8 :: a9 :: a10 :: a11 :: a12 :: a13 :: a14 :: a15 :: a16 :: a17 :: a18 :: a19 :: a20 :: a21 :: a22 :: a23 :: a24 :: some v :: σ) H) : gName 25 v (a0 :: a1 :: a2 :: a3 :: a4 :: a5 :: a6 :: a7 :: a8 :: a9 :: a10 :: a11 :: a12 :: a13 :: a14 :: a15 :: a16 :: a17 :: a18 :: a19 :: a20 :: a21 :: a22 :: a23 :: a24 :: a25 :: σ) H Qs := h
theorem ag25 {a0 a1 a2 a3 a4 a5 a6 a7 a8 a9 a10 a11 a12 a13 a14 a15 a16 a17 a18 a19 a20 a21 a22 a23 a24 : Option V} (h : te (a0 :: a1 :: a2 :: a3 :: a4 :: a5 :: a6 :: a7 :: a8 :: a9 :: a10 :: a11 :: a12 :: a13 :: a14 :: a15 :: a16 :: a17 :: a18 :: a19 :: a20 :: a21 :: a22 :: a23 :: a24 :: some x :: σ) H fun y H1 => ti x y H1 fun z H2 => D.nx (a0 :: a1 :: a2 :: a3 :: a4 :: a5 :: a6 :: a7 :: a8 :: a9 :: a10 :: a11 :: a12 :: a13 :: a14 :: a15 :: a16 :: a17 :: a18 :: a19 :: a20 :: a21 :: a22 :: a23 :: a24 :: some z :: σ) H2) : tAug 25 te ti D (a0 :: a1 :: a2 :: a3 :: a4 :: a5 :: a6 :: a7 :: a8 :: a9 :: a10 :: a11 :: a12 :: a13 :: a14 :: a15 :: a16 :: a17 :: a18 :: a19 :: a20 :: a21 :: a22 :: a23 :: a24 :: some x :: σ) H := ⟨x, rfl, h⟩
theorem gn26 {a0 a1 a2 a3 a4 a5 a6 a7 a8 a9 a10 a11 a12 a13 a14 a15 a16 a17 a18 a19 a20 a21 a22 a23 a24 a25 a26 : Option V} (h : Qs (a0 :: a1 :: a2 :: a3 :: a4 :: a5 :: a6 :: a7 :: a8 :: a9 :: a10 :: a11 :: a12 :: a13 :: a14 :: a15 :: a16 :: a17 :: a18 :: a19 :: a20 :: a21 :: a22 :: a23 :: a24 :: a25 :: some v :: σ) H) : gName 26 v (a0 :: a1 :: a2 :: a3 :: a4 :: a5 :: a6 :: a7 :: a8 :: a9 :: a10 :: a11 :: a12 :: a13 :: a14 :: a15 :: a16 :: a17 :: a18 :: a19 :: a20 :: a21 :: a22 :: a23 :: a24 :: a25 :: a26 :: σ) H Qs := h
theorem ag26 {a0 a1 a2 a3 a4 a5 a6 a7 a8 a9 a10 a11 a12 a13 a14 a15 a16 a17 a18 a19 a20 a21 a22 a23 a24 a25 : Option V} (h : te (a0 :: a1 :: a2 :: a3 :: a4 :: a5 :: a6 :: a7 :: a8 :: a9 :: a10 :: a11 :: a12 :: a13 :: a14 :: a15 :: a16 :: a17 :: a18 :: a19 :: a20 :: a21 :: a22 :: a23 :: a24 :: a25 :: some x :: σ) H fun y H1 => ti x y H1 fun z H2 => D.nx (a0 :: a1 :: a2 :: a3 :: a4 :: a5 :: a6 :: a7 :: a8 :: a9 :: a10 :: a11 :: a12 :: a13 :: a14 :: a15 :: a16 :: a17 :: a18 :: a19 :: a20 :: a21 :: a22 :: a23 :: a24 :: a25 :: some z :: σ) H2) : tAug 26 te ti D (a0 :: a1 :: a2 :: a3 :: a4 :: a5 :: a6 :: a7 :: a8 :: a9 :: a10 :: a11 :: a12 :: a13 :: a14 :: a15 :: a16 :: a17 :: a18 :: a19 :: a20 :: a21 :: a22 :: a23 :: a24 :: a25 :: some x :: σ) H := ⟨x, rfl, h⟩
theorem gn27 {a0 a1 a2 a3 a4 a5 a6 a7 a8 a9 a10 a11 a12 a13 a14 a15 a16 a17 a18 a19 a20 a21 a22 a23 a24 a25 a26 a27 : Option V} (h : Qs (a0 :: a1 :: a2 :: a3 :: a4 :: a5 :: a6 :: a7 :: a8 :: a9 :: a10 :: a11 :: a12 :: a13 :: a14 :: a15 :: a16 :: a17 :: a18 :: a19 :: a20 :: a21 :: a22 :: a23 :: a24 :: a25 :: a26 :: some v :: σ) H) : gName 27 v (a0 :: a1 :: a2 :: a3 :: a4 :: a5 :: a6 :: a7 :: a8 :: a9 :: a10 :: a11 :: a12 :: a13 :: a14 :: a15 :: a16 :: a17 :: a18 :: a19 :: a20 :: a21 :: a22 :: a23 :: a24 :: a25 :: a26 :: a27 :: σ) H Qs := h
theorem ag27 {a0 a1 a2 a3 a4 a5 a6 a7 a8 a9 a10 a11 a12 a13 a14 a15 a16 a17 a18 a19 a20 a21 a22 a23 a24 a25 a26 : Option V} (h : te (a0 :: a1 :: a2 :: a3 :: a4 :: a5 :: a6 :: a7 :: a8 :: a9 :: a10 :: a11 :: a12 :: a13 :: a14 :: a15 :: a16 :: a17 :: a18 :: a19 :: a20 :: a21 :: a22 :: a23 :: a24 :: a25 :: a26 :: some x :: σ) H fun y H1 => ti x y H1 fun z H2 => D.nx (a0 :: a1 :: a2 :: a3 :: a4 :: a5 :: a6 :: a7 :: a8 :: a9 :: a10 :: a11 :: a12 :: a13 :: a14 :: a15 :: a16 :: a17 :: a18 :: a19 :: a20 :: a21 :: a22 :: a23 :: a24 :: a25 :: a26 :: some z :: σ) H2) : tAug 27 te ti D (a0 :: a1 :: a2 :: a3 :: a4 :: a5 :: a6 :: a7 :: a8 :: a9 :: a10 :: a11 :: a12 :: a13 :: a14 :: a15 :: a16 :: a17 :: a18 :: a19 :: a20 :: a21 :: a22 :: a23 :: a24 :: a25 :: a26 :: some x :: σ) H := ⟨x, rfl, h⟩
theorem gn28 {a0 a1 a2 a3 a4 a5 a6 a7 a8 a9 a10 a11 a12 a13 a14 a15 a16 a17 a18 a19 a20 a21 a22 a23 a24 a25 a26 a27 a28 : Option V} (h : Qs (a0 :: a1 :: a2 :: a3 :: a4 :: a5 :: a6 :: a7 :: a8 :: a9 :: a10 :: a11 :: a12 :: a13 :: a14 :: a15 :: a16 :: a17 :: a18 :: a19 :: a20 :: a21 :: a22 :: a23 :: a24 :: a25 :: a26 :: a27 :: some v :: σ) H) : gName 28 v (a0 :: a1 :: a2 :: a3 :: a4 :: a5 :: a6 :: a7 :: a8 :: a9 :: a10 :: a11 :: a12 :: a13 :: a14 :: a15 :: a16 :: a17 :: a18 :: a19 :: a20 :: a21 :: a22 :: a23 :: a24 :: a25 :: a26 :: a27 :: a28 :: σ) H Qs := h
theorem ag28 {a0 a1 a2 a3 a4 a5 a6 a7 a8 a9 a10 a11 a12 a13 a14 a15 a16 a17 a18 a19 a20 a21 a22 a23 a24 a25 a26 a27 : Option V} (h : te (a0 :: a1 :: a2 :: a3 :: a4 :: a5 :: a6 :: a7 :: a8 :: a9 :: a10 :: a11 :: a12 :: a13 :: a14 :: a15 :: a16 :: a17 :: a18 :: a19 :: a20 :: a21 :: a22 :: a23 :: a24 :: a25 :: a26 :: a27 :: some x :: σ) H fun y H1 => ti x y H1 fun z H2 => D.nx (a0 :: a1 :: a2 :: a3 :: a4 :: a5 :: a6 :: a7 :: a8 :: a9 :: a10 :: a11 :: a12 :: a13 :: a14 :: a15 :: a16 :: a17 :: a18 :: a19 :: a20 :: a21 :: a22 :: a23 :: a24 :: a25 :: a26 :: a27 :: some z :: σ) H2) : tAug 28 te ti D (a0 :: a1 :: a2 :: a3 :: a4 :: a5 :: a6 :: a7 :: a8 :: a9 :: a10 :: a11 :: a12 :: a13 :: a14 :: a15 :: a16 :: a17 :: a18 :: a19 :: a20 :: a21 :: a22 :: a23 :: a24 :: a25 :: a26 :: a27 :: some x :: σ) H := ⟨x, rfl, h⟩
theorem gn29 {a0 a1 a2 a3 a4 a5 a6 a7 a8 a9 a10 a11 a12 a13 a14 a15 a16 a17 a18 a19 a20 a21 a22 a23 a24 a25 a26 a27 a28 a29 : Option V} (h : Qs (a0 :: a1 :: a2 :: a3 :: a4 :: a5 :: a6 :: a7 :: a8 :: a9 :: a10 :: a11 :: a12 :: a13 :: a14 :: a15 :: a16 :: a17 :: a18 :: a19 :: a20 :: a21 :: a22 :: a23 :: a24 :: a25 :: a26 :: a27 :: a28 :: some v :: σ) H) : gName 29 v (a0 :: a1 :: a2 :: a3 :: a4 :: a5 :: a6 :: a7 :: a8 :: a9 :: a10 :: a11 :: a12 :: a13 :: a14 :: a15 :: a16 :: a17 :: a18 :: a19 :: a20 :: a21 :: a22 :: a23 :: a24 :: a25 :: a26 :: a27 :: a28 :: a29 :: σ) H Qs := h
theorem ag29 {a0 a1 a2 a3 a4 a5 a6 a7 a8 a9 a10 a11 a12 a13 a14 a15 a16 a17 a18 a19 a20 a21 a22 a23 a24 a25 a26 a27 a28 : Option V} (h : te (a0 :: a1 :: a2 :: a3 :: a4 :: a5 :: a6 :: a7 :: a8 :: a9 :: a10 :: a11 :: a12 :: a13 :: a14 :: a15 :: a16 :: a17 :: a18 :: a19 :: a20 :: a21 :: a22 :: a23 :: a24 :: a25 :: a26 :: a27 :: a28 :: some x :: σ) H fun y H1 => ti x y H1 fun z H2 => D.nx (a0 :: a1 :: a2 :: a3 :: a4 :: a5 :: a6 :: a7 :: a8 :: a9 :: a10 :: a11 :: a12 :: a13 :: a14 :: a15 :: a16 :: a17 :: a18 :: a19 :: a20 :: a21 :: a22 :: a23 :: a24 :: a25 :: a26 :: a27 :: a28 :: some z :: σ) H2) : tAug 29 te ti D (a0 :: a1 :: a2 :: a3 :: a4 :: a5 :: a6 :: a7 :: a8 :: a9 :: a10 :: a11 :: a12 :: a13 :: a14 :: a15 :: a16 :: a17 :: a18 :: a19 :: a20 :: a21 :: a22 :: a23 :: a24 :: a25 :: a26 :: a27 :: a28 :: some x :: σ) H := ⟨x, rfl, h⟩
theorem gn30 {a0 a1 a2 a3 a4 a5 a6 a7 a8 a9 a10 a11 a12 a13 a14 a15 a16 a17 a18 a19 a20 a21 a22 a23 a24 a25 a26 a27 a28 a29 a30 : Option V} (h : Qs (a0 :: a1 :: a2 :: a3 :: a4 :: a5 :: a6 :: a7 :: a8 :: a9 :: a10 :: a11 :: a12 :: a13 :: a14 :: a15 :: a16 :: a17 :: a18 :: a19 :: a20 :: a21 :: a22 :: a23 :: a24 :: a25 :: a26 :: a27 :: a28 :: a29 :: some v :: σ) H) : gName 30 v (a0 :: a1 :: a2 :: a3 :: a4 :: a5 :: a6 :: a7 :: a8 :: a9 :: a10 :: a11 :: a12 :: a13 :: a14 :: a15 :: a16 :: a17 :: a18 :: a19 :: a20 :: a21 :: a22 :: a23 :: a24 :: a25 :: a26 :: a27 :: a28 :: a29 :: a30 :: σ) H Qs := h
theorem ag30 {a0 a1 a2 a3 a4 a5 a6 a7 a8 a9 a10 a11 a12 a13 a14 a15 a16 a17 a18 a19 a20 a21 a22 a23 a24 a25 a26 a27 a28 a29 : Option V} (h : te (a0 :: a1 :: a2 :: a3 :: a4 :: a5 :: a6 :: a7 :: a8 :: a9 :: a10 :: a11 :: a12 :: a13 :: a14 :: a15 :: a16 :: a17 :: a18 :: a19 :: a20 :: a21 :: a22 :: a23 :: a24 :: a25 :: a26 :: a27 :: a28 :: a29 :: some x :: σ) H fun y H1 => ti x y H1 fun z H2 => D.nx (a0 :: a1 :: a2 :: a3 :: a4 :: a5 :: a6 :: a7 :: a8 :: a9 :: a10 :: a11 :: a12 :: a13 :: a14 :: a15 :: a16 :: a17 :: a18 :: a19 :: a20 :: a21 :: a22 :: a23 :: a24 :: a25 :: a26 :: a27 :: a28 :: a29 :: some z :: σ) H2) : tAug 30 te ti D (a0 :: a1 :: a2 :: a3 :: a4 :: a5 :: a6 :: a7 :: a8 :: a9 :: a10 :: a11 :: a12 :: a13 :: a14 :: a15 :: a16 :: a17 :: a18 :: a19 :: a20 :: a21 :: a22 :: a23 :: a24 :: a25 :: a26 :: a27 :: a28 :: a29 :: some x :: σ) H := ⟨x, rfl, h⟩
theorem gn31 {a0 a1 a2 a3 a4 a5 a6 a7 a8 a9 a10 a11 a12 a13 a14 a15 a16 a17 a18 a19 a20 a21 a22 a23 a24 a25 a26 a27 a28 a29 a30 a31 : Option V} (h : Qs (a0 :: a1 :: a2 :: a3 :: a4 :: a5 :: a6 :: a7 :: a8 :: a9 :: a10 :: a11 :: a12 :: a13 :: a14 :: a15 :: a16 :: a17 :: a18 :: a19 :: a20 :: a21 :: a22 :: a23 :: a24 :: a25 :: a26 :: a27 :: a28 :: a29 :: a30 :: some v :: σ) H) : gName 31 v (a0 :: a1 :: a2 :: a3 :: a4 :: a5 :: a6 :: a7 :: a8 :: a9 :: a10 :: a11 :: a12 :: a13 :: a14 :: a15 :: a16 :: a17 :: a18 :: a19 :: a20 :: a21 :: a22 :: a23 :: a24 :: a25 :: a26 :: a27 :: a28 :: a29 :: a30 :: a31 :: σ) H Qs := h
theorem ag31 {a0 a1 a2 a3 a4 a5 a6 a7 a8 a9 a10 a11 a12 a13 a14 a15 a16 a17 a18 a19 a20 a21 a22 a23 a24 a25 a26 a27 a28 a29 a30 : Option V} (h : te (a0 :: a1 :: a2 :: a3 :: a4 :: a5 :: a6 :: a7 :: a8 :: a9 :: a10 :: a11 :: a12 :: a13 :: a14 :: a15 :: a16 :: a17 :: a18 :: a19 :: a20 :: a21 :: a22 :: a23 :: a24 :: a25 :: a26 :: a27 :: a28 :: a29 :: a30 :: some x :: σ) H fun y H1 => ti x y H1 fun z H2 => D.nx (a0 :: a1 :: a2 :: a3 :: a4 :: a5 :: a6 :: a7 :: a8 :: a9 :: a10 :: a11 :: a12 :: a13 :: a14 :: a15 :: a16 :: a17 :: a18 :: a19 :: a20 :: a21 :: a22 :: a23 :: a24 :: a25 :: a26 :: a27 :: a28 :: a29 :: a30 :: some z :: σ) H2) : tAug 31 te ti D (a0 :: a1 :: a2 :: a3 :: a4 :: a5 :: a6 :: a7 :: a8 :: a9 :: a10 :: a11 :: a12 :: a13 :: a14 :: a15 :: a16 :: a17 :: a18 :: a19 :: a20 :: a21 :: a22 :: a23 :: a24 :: a25 :: a26 :: a27 :: a28 :: a29 :: a30 :: some x :: σ) H := ⟨x, rfl, h⟩
theorem gn32 {a0 a1 a2 a3 a4 a5 a6 a7 a8 a9 a10 a11 a12 a13 a14 a15 a16 a17 a18 a19 a20 a21 a22 a23 a24 a25 a26 a27 a28 a29 a30 a31 a32 : Option V} (h : Qs (a0 :: a1 :: a2 :: a3 :: a4 :: a5 :: a6 :: a7 :: a8 :: a9 :: a10 :: a11 :: a12 :: a13 :: a14 :: a15 :: a16 :: a17 :: a18 :: a19 :: a20 :: a21 :: a22 :: a23 :: a24 :: a25 :: a26 :: a27 :: a28 :: a29 :: a30 :: a31 :: some v :: σ) H) : gName 32 v (a0 :: a1 :: a2 :: a3 :: a4 :: a5 :: a6 :: a7 :: a8 :: a9 :: a10 :: a11 :: a12 :: a13 :: a14 :: a15 :: a16 :: a17 :: a18 :: a19 :: a20 :: a21 :: a22 :: a23 :: a24 :: a25 :: a26 :: a27 :: a28 :: a29 :: a30 :: a31 :: a32 :: σ) H Qs := h
theorem ag32 {a0 a1 a2 a3 a4 a5 a6 a7 a8 a9 a10 a11 a12 a13 a14 a15 a16 a17 a18 a19 a20 a21 a22 a23 a24 a25 a26 a27 a28 a29 a30 a31 : Option V} (h : te (a0 :: a1 :: a2 :: a3 :: a4 :: a5 :: a6 :: a7 :: a8 :: a9 :: a10 :: a11 :: a12 :: a13 :: a14 :: a15 :: a16 :: a17 :: a18 :: a19 :: a20 :: a21 :: a22 :: a23 :: a24 :: a25 :: a26 :: a27 :: a28 :: a29 :: a30 :: a31 :: some x :: σ) H fun y H1 => ti x y H1 fun z H2 => D.nx (a0 :: a1 :: a2 :: a3 :: a4 :: a5 :: a6 :: a7 :: a8 :: a9 :: a10 :: a11 :: a12 :: a13 :: a14 :: a15 :: a16 :: a17 :: a18 :: a19 :: a20 :: a21 :: a22 :: a23 :: a24 :: a25 :: a26 :: a27 :: a28 :: a29 :: a30 :: a31 :: some z :: σ) H2) : tAug 32 te ti D (a0 :: a1 :: a2 :: a3 :: a4 :: a5 :: a6 :: a7 :: a8 :: a9 :: a10 :: a11 :: a12 :: a13 :: a14 :: a15 :: a16 :: a17 :: a18 :: a19 :: a20 :: a21 :: a22 :: a23 :: a24 :: a25 :: a26 :: a27 :: a28 :: a29 :: a30 :: a31 :: some x :: σ) H := ⟨x, rfl, h⟩
theorem gn33 {a0 a1 a2 a3 a4 a5 a6 a7 a8 a9 a10 a11 a12 a13 a14 a15 a16 a17 a18 a19 a20 a21 a22 a23 a24 a25 a26 a27 a28 a29 a30 a31 a32 a33 : Option V} (h : Qs (a0 :: a1 :: a2 :: a3 :: a4 :: a5 :: a6 :: a7 :: a8 :: a9 :: a10 :: a11 :: a12 :: a13 :: a14 :: a15 :: a16 :: a17 :: a18 :: a19 :: a20 :: a21 :: a22 :: a23 :: a24 :: a25 :: a26 :: a27 :: a28 :: a29 :: a30 :: a31 :: a32 :: some v :: σ) H) : gName 33 v (a0 :: a1 :: a2 :: a3 :: a4 :: a5 :: a6 :: a7 :: a8 :: a9 :: a10 :: a11 :: a12 :: a13 :: a14 :: a15 :: a16 :: a17 :: a18 :: a19 :: a20 :: a21 :: a22 :: a23 :: a24 :: a25 :: a26 :: a27 :: a28 :: a29 :: a30 :: a31 :: a32 :: a33 :: σ) H Qs := h
theorem ag33 {a0 a1 a2 a3 a4 a5 a6 a7 a8 a9 a10 a11 a12 a13 a14 a15 a16 a17 a18 a19 a20 a21 a22 a23 a24 a25 a26 a27 a28 a29 a30 a31 a32 : Option V} (h : te (a0 :: a1 :: a2 :: a3 :: a4 :: a5 :: a6 :: a7 :: a8 :: a9 :: a10 :: a11 :: a12 :: a13 :: a14 :: a15 :: a16 :: a17 :: a18 :: a19 :: a20 :: a21 :: a22 :: a23 :: a24 :: a25 :: a26 :: a27 :: a28 :: a29 :: a30 :: a31 :: a32 :: some x :: σ) H fun y H1 => ti x y H1 fun z H2 => D.nx (a0 :: a1 :: a2 :: a3 :: a4 :: a5 :: a6 :: a7 :: a8 :: a9 :: a10 :: a11 :: a12 :: a13 :: a14 :: a15 :: a16 :: a17 :: a18 :: a19 :: a20 :: a21 :: a22 :: a23 :: a24 :: a25 :: a26 :: a27 :: a28 :: a29 :: a30 :: a31 :: a32 :: some z :: σ) H2) : tAug 33 te ti D (a0 :: a1 :: a2 :: a3 :: a4 :: a5 :: a6 :: a7 :: a8 :: a9 :: a10 :: a11 :: a12 :: a13 :: a14 :: a15 :: a16 :: a17 :: a18 :: a19 :: a20 :: a21 :: a22 :: a23 :: a24 :: a25 :: a26 :: a27 :: a28 :: a29 :: a30 :: a31 :: a32 :: some x :: σ) H := ⟨x, rfl, h⟩
theorem gn34 {a0 a1 a2 a3 a4 a5 a6 a7 a8 a9 a10 a11 a12 a13 a14 a15 a16 a17 a18 a19 a20 a21 a22 a23 a24 a25 a26 a27 a28 a29 a30 a31 a32 a33 a34 : Option V} (h : Qs (a0 :: a1 :: a2 :: a3 :: a4 :: a5 :: a6 :: a7 :: a8 :: a9 :: a10 :: a11 :: a12 :: a13 :: a14 :: a15 :: a16 :: a17 :: a18 :: a19 :: a20 :: a21 :: a22 :: a23 :: a24 :: a25 :: a26 :: a27 :: a28 :: a29 :: a30 :: a31 :: a32 :: a33 :: some v :: σ) H) : gName 34 v (a0 :: a1 :: a2 :: a3 :: a4 :: a5 :: a6 :: a7 :: a8 :: a9 :: a10 :: a11 :: a12 :: a13 :: a14 :: a15 :: a16 :: a17 :: a18 :: a19 :: a20 :: a21 :: a22 :: a23 :: a24 :: a25 :: a26 :: a27 :: a28 :: a29 :: a30 :: a31 :: a32 :: a33 :: a34 :: σ) H Qs := h
theorem ag34 {a0 a1 a2 a3 a4 a5 a6 a7 a8 a9 a10 a11 a12 a13 a14 a15 a16 a17 a18 a19 a20 a21 a22 a23 a24 a25 a26 a27 a28 a29 a30 a31 a32 a33 : Option V} (h : te (a0 :: a1 :: a2 :: a3 :: a4 :: a5 :: a6 :: a7 :: a8 :: a9 :: a10 :: a11 :: a12 :: a13 :: a14 :: a15 :: a16 :: a17 :: a18 :: a19 :: a20 :: a21 :: a22 :: a23 :: a24 :: a25 :: a26 :: a27 :: a28 :: a29 :: a30 :: a31 :: a32 :: a33 :: some x :: σ) H fun y H1 => ti x y H1 fun z H2 => D.nx (a0 :: a1 :: a2 :: a3 :: a4 :: a5 :: a6 :: a7 :: a8 :: a9 :: a10 :: a11 :: a12 :: a13 :: a14 :: a15 :: a16 :: a17 :: a18 :: a19 :: a20 :: a21 :: a22 :: a23 :: a24 :: a25 :: a26 :: a27 :: a28 :: a29 :: a30 :: a31 :: a32 :: a33 :: some z :: σ) H2) : tAug 34 te ti D (a0 :: a1 :: a2 :: a3 :: a4 :: a5 :: a6 :: a7 :: a8 :: a9 :: a10 :: a11 :: a12 :: a13 :: a14 :: a15 :: a16 :: a17 :: a18 :: a19 :: a20 :: a21 :: a22 :: a23 :: a24 :: a25 :: a26 :: a27 :: a28 :: a29 :: a30 :: a31 :: a32 :: a33 :: some x :: σ) H := ⟨x, rfl, h⟩
theorem gn35 {a0 a1 a2 a3 a4 a5 a6 a7 a8 a9 a10 a11 a12 a13 a14 a15 a16 a17 a18 a19 a20 a21 a22 a23 a24 a25 a26 a27 a28 a29 a30 a31 a32 a33 a34 a35 : Option V} (h : Qs (a0 :: a1 :: a2 :: a3 :: a4 :: a5 :: a6 :: a7 :: a8 :: a9 :: a10 :: a11 :: a12 :: a13 :: a14 :: a15 :: a16 :: a17 :: a18 :: a19 :: a20 :: a21 :: a22 :: a23 :: a24 :: a25 :: a26 :: a27 :: a28 :: a29 :: a30 :: a31 :: a32 :: a33 :: a34 :: some v :: σ) H) : gName 35 v (a0 :: a1 :: a2 :: a3 :: a4 :: a5 :: a6 :: a7 :: a8 :: a9 :: a10 :: a11 :: a12 :: a13 :: a14 :: a15 :: a16 :: a17 :: a18 :: a19 :: a20 :: a21 :: a22 :: a23 :: a24 :: a25 :: a26 :: a27 :: a28 :: a29 :: a30 :: a31 :: a32 :: a33 :: a34 :: a35 :: σ) H Qs := h
theorem ag35 {a0 a1 a2 a3 a4 a5 a6 a7 a8 a9 a10 a11 a12 a13 a14 a15 a16 a17 a18 a19 a20 a21 a22 a23 a24 a25 a26 a27 a28 a29 a30 a31 a32 a33 a34 : Option V} (h : te (a0 :: a1 :: a2 :: a3 :: a4 :: a5 :: a6 :: a7 :: a8 :: a9 :: a10 :: a11 :: a12 :: a13 :: a14 :: a15 :: a16 :: a17 :: a18 :: a19 :: a20 :: a21 :: a22 :: a23 :: a24 :: a25 :: a26 :: a27 :: a28 :: a29 :: a30 :: a31 :: a32 :: a33 :: a34 :: some x :: σ) H fun y H1 => ti x y H1 fun z H2 => D.nx (a0 :: a1 :: a2 :: a3 :: a4 :: a5 :: a6 :: a7 :: a8 :: a9 :: a10 :: a11 :: a12 :: a13 :: a14 :: a15 :: a16 :: a17 :: a18 :: a19 :: a20 :: a21 :: a22 :: a23 :: a24 :: a25 :: a26 :: a27 :: a28 :: a29 :: a30 :: a31 :: a32 :: a33 :: a34 :: some z :: σ) H2) : tAug 35 te ti D (a0 :: a1 :: a2 :: a3 :: a4 :: a5 :: a6 :: a7 :: a8 :: a9 :: a10 :: a11 :: a12 :: a13 :: a14 :: a15 :: a16 :: a17 :: a18 :: a19 :: a20 :: a21 :: a22 :: a23 :: a24 :: a25 :: a26 :: a27 :: a28 :: a29 :: a30 :: a31 :: a32 :: a33 :: a34 :: some x :: σ) H := ⟨x, rfl, h⟩
theorem isGN {n : Nat} (h : gName n v σ H Qs) : gName n v σ H Qs := h
theorem isAG {n : Nat} (h : tAug n te ti D σ H) : tAug n te ti D σ H := h
end
end Lt
/-! min(rows, key=lambda row: (a, b)) -/
namespace Lt
open PySem PySem.Spec PyProof.Rows L2
def klt (a b : Int × Int) : Bool := HT.lexLt [a.1, a.2] [b.1, b.2]
theorem klt_iff {a b : Int × Int} : klt a b = true ↔ a.1 < b.1 ∨ (a.1 = b.1 ∧ a.2 < b.2) := by
  unfold klt
  rw [HT.lexLt_cons]
  by_cases h : a.1 = b.1
  · rw [if_pos h, HT.lexLt_cons]
    by_cases h2 : a.2 = b.2
    · rw [if_pos h2, HT.lexLt_nil_nil]
      constructor
      · intro z
        cases z
      · intro z
        omega
    · rw [if_neg h2, decide_eq_true_eq]
      omega
  · rw [if_neg h, decide_eq_true_eq]
    omega
theorem klt_no {a b : Int × Int} : klt a b = false ↔ ¬ (a.1 < b.1 ∨ (a.1 = b.1 ∧ a.2 < b.2)) := by
  rw [← klt_iff]
  cases klt a b <;> simp
/-- i is the first least one -/
def Least (kf : Nat → Int × Int) (n i : Nat) : Prop := ∀ j, j < n → klt (kf j) (kf i) = false ∧ (j < i → klt (kf i) (kf j) = true)
section
variable {prog : Program} {w : World} {A : Around} {E : Value → Shared → Prop} {l q I S : Addr} {vs : List Value} {R : Result → Shared → Prop} {Q : Value → Shared → Prop} {G : List (Addr × Int × Int) → Shared → Prop}
theorem ml_loop (kf : Nat → Int × Int) (hh : A.handled = none) (hlI : l ≠ I) (hSI : S ≠ I) (hl : ∀ ks s, G ks s → s.heap.IsList l vs.toArray)
    (hfr : ∀ ks (s : Shared) (h' : Heap) (tk : Nat) (it : Addr), it = I ∨ it = S → G ks s → (∀ b o, b ≠ it → s.heap.get? b = some o → h'.get? b = some o) → (∃ o, h'.get? it = some o) → G ks { s with heap := h', toks := tk })
    (hlt : ∀ ks (s : Shared) p1 p2, G ks s → p1 ∈ ks → p2 ∈ ks → ∀ (E : Value → Shared → Prop) (Q : Value → Shared → Prop), Q (.bool (klt p1.2 p2.2)) s → wpAny (model prog w) A.in1 (richCompare .Lt (.ref p1.1) (.ref p2.1)) Q E s)
    (turn : ∀ (i : Nat) (v : Value) ks (s : Shared), vs[i]? = some v → G ks s →
      wpAny (model prog w) A.in1 (call (.ref q) [v]) (fun u s' => ∃ t, u = .ref t ∧ G ((t, kf i) :: ks) s' ∧ (∀ o, s.heap.get? I = some o → s'.heap.get? I = some o) ∧ ∀ o, s.heap.get? S = some o → s'.heap.get? S = some o) (fun _ _ => False) s)
    (hR : ∀ i v ks s (h1 h' : Heap) (t1 t' : Nat), vs[i]? = some v → Least kf vs.length i → G ks s → (∀ b o, b ≠ I → s.heap.get? b = some o → h1.get? b = some o) → (∀ b o, b ≠ S → h1.get? b = some o → h'.get? b = some o) → R (.ok (.ret v)) { s with heap := h', toks := t' }) :
    ∀ (r j i : Nat) (s : Shared) (ks : List (Addr × Int × Int)) (vb : Value) (tb : Addr) (c : Nat), vs.length - (j + 1) = r → j + 1 ≤ vs.length → G ks s →
      s.heap.get? S = some (seqObj "list" #[vb, .ref tb] c) → s.heap.IsListIter I l (j + 1) → (tb, kf i) ∈ ks → vs[i]? = some vb → i ≤ j → (∀ j', j' ≤ j → klt (kf j') (kf i) = false ∧ (j' < i → klt (kf i) (kf j') = true)) →
      codeAny (model prog w) A (.builtin "min.loop" ⟨[.ref I, .ref q, .ref S], []⟩) R s := by
  have hname : (toString "min" ++ toString ".loop" : String) = "min.loop" := by decide
  have W := Walks.list (prog := prog) (w := w) (A := A.in1) hh I l hlI vs.toArray
  have hsz : vs.toArray.size = vs.length := List.size_toArray ..
  intro r
  induction r with
  | zero =>
    intro j i s ks vb tb c hr hj hG nS hit hk hvb hij hbest
    have hin : j + 1 = vs.length := by omega
    refine codeAny_builtin PySem.F.entry_min_loop ?_
    rw [Around.under_plainId PySem.F.plain_min_loop _]
    show wpAny _ A.in1 (seqItems? (.ref S) >>= _) _ _ _
    refine wpAny_bind (wpAny_seqItems nS rfl ?_)
    show wpAny _ A.in1 (tryCatch (pyNext (.ref I)) _ >>= _) _ _ _
    refine wpAny_bind (wpAny_tryCatch (W.done _ _ _ ⟨by rw [hsz, ← hin]; exact hit, hl ks s hG⟩ fun h' tk' hk' => ?_))
    have hS' := hk' S _ (by simpa using hSI) nS
    have s1 := Heap.SameBut.update h' S (Obj.mapSeq fun _ => (#[] : Array Value))
    show wpAny _ A.in1 (updateSeq S (fun _ => #[]) >>= _) _ _ _
    refine wpAny_bind ?_
    refine wpAny_updateSeq hS' rfl (wpAny_bind (wpAny_letGo (wpAny_pure ?_)))
    exact hR i vb ks s h' _ tk' _ hvb (fun j' hj' => hbest j' (by omega)) hG (fun b o hb e => hk' b o (by simpa using hb) e) fun b o hb e => (s1.2 b hb).trans e
  | succ r ih =>
    intro j i s ks vb tb c hr hj hG nS hit hk hvb hij hbest
    have hlt1 : j + 1 < vs.length := by omega
    refine codeAny_builtin PySem.F.entry_min_loop ?_
    rw [Around.under_plainId PySem.F.plain_min_loop _]
    show wpAny _ A.in1 (seqItems? (.ref S) >>= _) _ _ _
    refine wpAny_bind (wpAny_seqItems nS rfl ?_)
    show wpAny _ A.in1 (tryCatch (pyNext (.ref I)) _ >>= _) _ _ _
    refine wpAny_bind (wpAny_tryCatch (W.item (j + 1) _ _ _ (by rw [hsz]; exact hlt1) ⟨hit, hl ks s hG⟩ fun v h' tk' hP hst' hk' => ?_))
    have hv : vs[j + 1]? = some v := by simpa using hP
    obtain ⟨oI', hoI', hoc, hod⟩ := id hst'.1
    have nS' := hk' S _ (by simpa using hSI) nS
    have G1 := hfr ks s h' tk' I (.inl rfl) hG (fun b o hb e => hk' b o (by simpa using hb) e) ⟨_, hoI'⟩
    show wpAny _ A.in1 (tryCatch (holding [v] (call (.ref q) [v])) _ >>= _) _ _ _
    refine wpAny_bind (wpAny_tryCatch (wpAny_holding (wpAny_mono (turn (j + 1) v ks _ hv G1) (fun x s2 he => ?_) fun _ _ hF => hF.elim)))
    obtain ⟨t2, rfl, G2, kI, kS⟩ := he
    have nS2 := kS _ nS'
    have nI2 := kI _ hoI'
    have hit2 : s2.heap.IsListIter I l (j + 1 + 1) := ⟨oI', nI2, hoc, hod⟩
    show wpAny _ A.in1 (tryCatch (holding [v, .ref t2] (richCompare .Lt (.ref t2) (.ref tb) >>= _)) _ >>= _) _ _ _
    refine wpAny_bind (wpAny_tryCatch (wpAny_holding (wpAny_bind (hlt _ s2 (t2, kf (j + 1)) (tb, kf i) G2 (.head _) (.tail _ hk) _ _ ?_))))
    refine wpAny_bind (wpAny_holding (wpAny_truthy_bool ?_))
    refine wpAny_bind (wpAny_letGo (wpAny_pure ?_))
    cases hb' : klt (kf (j + 1)) (kf i) with
    | true =>
      have s1 := Heap.SameBut.update s2.heap S (Obj.mapSeq fun _ => #[v, .ref t2])
      obtain ⟨c2, hc2⟩ : ∃ c2, (s2.heap.update S (Obj.mapSeq fun _ => #[v, .ref t2])).get? S = some (seqObj "list" #[v, .ref t2] c2) := ⟨_, get?_update_seq nS2 fun _ => #[v, .ref t2]⟩
      simp only [if_true]
      refine wpAny_bind ?_
      refine wpAny_updateSeq nS2 rfl (wpAny_bind (wpAny_letGo ?_))
      rw [hname]
      refine wpAny_pure ⟨plainId_quiet PySem.F.plain_min_loop _, ih (j + 1) (j + 1) _ ((t2, kf (j + 1)) :: ks) v t2 c2 (by omega) hlt1 (hfr _ _ _ _ S (.inr rfl) G2 (fun b o hb e => (s1.2 b hb).trans e) ⟨_, hc2⟩) hc2 ⟨oI', (s1.2 I hSI.symm).trans nI2, hoc, hod⟩ (.head _) hv (Nat.le_refl _) fun j' hj' => ?_⟩
      rw [klt_iff] at hb'
      by_cases e : j' = j + 1
      · subst e
        exact ⟨by rw [klt_no]; omega, fun z => absurd z (Nat.lt_irrefl _)⟩
      · obtain ⟨b1, b2⟩ := hbest j' (by omega)
        rw [klt_no] at b1
        refine ⟨by rw [klt_no]; omega, fun _ => by rw [klt_iff]; omega⟩
    | false =>
      simp only [Bool.false_eq_true, if_false]
      refine wpAny_bind (wpAny_letGo ?_)
      rw [hname]
      refine wpAny_pure ⟨plainId_quiet PySem.F.plain_min_loop _, ih (j + 1) i _ ((t2, kf (j + 1)) :: ks) vb tb c (by omega) hlt1 G2 nS2 hit2 (.tail _ hk) hvb (by omega) fun j' hj' => ?_⟩
      by_cases e : j' = j + 1
      · subst e
        exact ⟨hb', fun z => by omega⟩
      · exact hbest j' (by omega)
theorem ml_call {s : Shared} {G : Addr → Addr → List (Addr × Int × Int) → Shared → Prop} (kf : Nat → Int × Int) (hh : A.handled = none) (hne : 0 < vs.length) (hls : s.heap.IsList l vs.toArray)
    (hl : ∀ I S ks s', G I S ks s' → s'.heap.IsList l vs.toArray)
    (hfr : ∀ I S ks (s' : Shared) (h' : Heap) (tk : Nat) (it : Addr), it = I ∨ it = S → G I S ks s' → (∀ b o, b ≠ it → s'.heap.get? b = some o → h'.get? b = some o) → (∃ o, h'.get? it = some o) → G I S ks { s' with heap := h', toks := tk })
    (hlt : ∀ I S ks (s' : Shared) p1 p2, G I S ks s' → p1 ∈ ks → p2 ∈ ks → ∀ (E : Value → Shared → Prop) (Q : Value → Shared → Prop), Q (.bool (klt p1.2 p2.2)) s' → wpAny (model prog w) A.in1 (richCompare .Lt (.ref p1.1) (.ref p2.1)) Q E s')
    (turn : ∀ I S (i : Nat) (v : Value) ks (s' : Shared), vs[i]? = some v → G I S ks s' →
      wpAny (model prog w) A.in1 (call (.ref q) [v]) (fun u s2 => ∃ t, u = .ref t ∧ G I S ((t, kf i) :: ks) s2 ∧ (∀ o, s'.heap.get? I = some o → s2.heap.get? I = some o) ∧ ∀ o, s'.heap.get? S = some o → s2.heap.get? S = some o) (fun _ _ => False) s')
    (hG : ∀ (h' : Heap), (∀ b o, s.heap.get? b = some o → h'.get? b = some o) → (∃ o, h'.get? s.heap.objs.size = some o) → (∃ o, h'.get? (s.heap.objs.size + 1) = some o) → G s.heap.objs.size (s.heap.objs.size + 1) [] { s with heap := h' })
    (hQ : ∀ I S i v ks s' (h1 h' : Heap) (t1 t' : Nat), vs[i]? = some v → Least kf vs.length i → G I S ks s' → (∀ b o, b ≠ I → s'.heap.get? b = some o → h1.get? b = some o) → (∀ b o, b ≠ S → h1.get? b = some o → h'.get? b = some o) → Q v { s' with heap := h', toks := t' }) :
    wpAny (model prog w) A (call (.builtin "min") [.ref l] [(Str.ofString "key", .ref q)]) Q E s := by
  have hname : (toString "min" ++ toString ".loop" : String) = "min.loop" := by decide
  obtain ⟨ol, hol, _⟩ := id hls
  have hll : l < s.heap.objs.size := Heap.lt_size hol
  refine kmk_tree PySem.F.kind_min PySem.F.plain_min PySem.F.entry_min (kmk_min_key _ _) ?_
  show wpAny _ A.in1 (Builtin.Builtins.bindParams "min" ["key", "default"] 0 ⟨[], [(Str.ofString "key", .ref q)]⟩ >>= _) _ _ s
  refine wpAny_bind (wpAny_of_eq (show Builtin.Builtins.bindParams "min" ["key", "default"] 0 ⟨[], [(Str.ofString "key", .ref q)]⟩ = pure [some (.ref q), none] from rfl) ?_)
  refine wpAny_bind (wpAny_pure ?_)
  refine wpAny_bind (wpAny_pyIter_list hls ?_)
  refine wpAny_bind (wpAny_newList ?_ (Nat.zero_le _))
  rw [hname]
  have hS : (s.heap.push { cls := .type "list_iterator", data := .fields #[.ref l, .int 0 0] }).objs.size = s.heap.objs.size + 1 := size_push' ..
  have hlI : l ≠ s.heap.objs.size := Nat.ne_of_lt hll
  have hSI : s.heap.objs.size + 1 ≠ s.heap.objs.size := Nat.ne_of_gt (Nat.lt_succ_self _)
  refine wpAny_pure ⟨plainId_quiet PySem.F.plain_min_loop _, ?_⟩
  have gI : ((s.heap.push { cls := .type "list_iterator", data := .fields #[.ref l, .int 0 0] }).push (seqObj "list" #[] 0)).get? s.heap.objs.size = some { cls := .type "list_iterator", data := .fields #[.ref l, .int 0 0] } :=
    Heap.get?_push_of_some _ (Heap.get?_push_size _ rfl)
  have gS : ((s.heap.push { cls := .type "list_iterator", data := .fields #[.ref l, .int 0 0] }).push (seqObj "list" #[] 0)).get? (s.heap.objs.size + 1) = some (seqObj "list" #[] 0) := by
    rw [← hS]
    exact Heap.get?_push_size _ rfl
  have GH := hG ((s.heap.push { cls := .type "list_iterator", data := .fields #[.ref l, .int 0 0] }).push (seqObj "list" #[] 0)) (fun b x e => Heap.get?_push_of_some _ (Heap.get?_push_of_some _ e)) ⟨_, gI⟩ ⟨_, gS⟩
  have W := Walks.list (prog := prog) (w := w) (A := A.in1) hh s.heap.objs.size l hlI vs.toArray
  have hsz : vs.toArray.size = vs.length := List.size_toArray ..
  refine codeAny_builtin PySem.F.entry_min_loop ?_
  rw [Around.under_plainId PySem.F.plain_min_loop _, hS]
  show wpAny _ A.in1 (seqItems? (.ref _) >>= _) _ _ _
  refine wpAny_bind (wpAny_seqItems gS rfl ?_)
  show wpAny _ A.in1 (tryCatch (pyNext (.ref s.heap.objs.size)) _ >>= _) _ _ _
  refine wpAny_bind (wpAny_tryCatch (W.item 0 _ _ _ (by rw [hsz]; exact hne) ⟨⟨_, gI, rfl, rfl⟩, hl _ _ _ _ GH⟩ fun v h' tk' hP hst' hk' => ?_))
  have hv : vs[0]? = some v := by simpa using hP
  obtain ⟨oI', hoI', hoc, hod⟩ := id hst'.1
  have gS' := hk' _ _ (by simpa using hSI) gS
  have G1 := hfr _ _ _ _ h' tk' _ (.inl rfl) GH (fun b o hb e => hk' b o (by simpa using hb) e) ⟨_, hoI'⟩
  show wpAny _ A.in1 (tryCatch (holding [v] (call (.ref q) [v])) _ >>= _) _ _ _
  refine wpAny_bind (wpAny_tryCatch (wpAny_holding (wpAny_mono (turn _ _ 0 v _ _ hv G1) (fun x s2 he => ?_) fun _ _ hF => hF.elim)))
  obtain ⟨t2, rfl, G2, kI, kS⟩ := he
  have nS2 := kS _ gS'
  have nI2 := kI _ hoI'
  have s1 := Heap.SameBut.update s2.heap (s.heap.objs.size + 1) (Obj.mapSeq fun _ => #[v, .ref t2])
  obtain ⟨c2, hc2⟩ : ∃ c2, (s2.heap.update (s.heap.objs.size + 1) (Obj.mapSeq fun _ => #[v, .ref t2])).get? (s.heap.objs.size + 1) = some (seqObj "list" #[v, .ref t2] c2) := ⟨_, get?_update_seq nS2 fun _ => #[v, .ref t2]⟩
  show wpAny _ A.in1 (updateSeq (s.heap.objs.size + 1) (fun _ => #[v, .ref t2]) >>= _) _ _ _
  refine wpAny_bind ?_
  refine wpAny_updateSeq nS2 rfl ?_
  rw [hname]
  refine wpAny_pure ⟨plainId_quiet PySem.F.plain_min_loop _, ml_loop (G := G s.heap.objs.size (s.heap.objs.size + 1)) kf hh hlI hSI (hl _ _) (hfr _ _) (hlt _ _) (turn _ _) (fun i v ks s' h1 h2 u1 u2 a b c d e => hQ _ _ i v ks s' h1 h2 u1 u2 a b c d e) _ 0 0 _ ((t2, kf 0) :: []) v t2 c2 rfl hne (hfr _ _ _ _ _ _ _ (.inr rfl) G2 (fun b o hb e => (s1.2 b hb).trans e) ⟨_, hc2⟩) hc2 ⟨oI', (s1.2 _ hSI.symm).trans nI2, hoc, hod⟩ (.head _) hv (Nat.le_refl _) fun j' hj' => ?_⟩
  have e : j' = 0 := by omega
  subst e
  exact ⟨by rw [klt_no]; omega, fun h => absurd h (Nat.lt_irrefl _)⟩
end

/-! ### in a def -/
section
variable {CX : CXT} {P : Program} {w : World} {K : PySem.W.Frag} {mg : Str → Option Value} {base : Heap} {k : Nat} {f c' : Addr} {qual : Str} {params : Arguments} {body : Expr} {scope : Scope} {pm ctv : Value} {N ps : List Str} {A : Around} {outer : List Env} {s : Shared} {H : Hp} {args : Args} {us : List Value} {vs : List V} {Q : VK} {E : XK}
/-- a lambda without captured names is called -/
theorem run_lam (ho : s.heap.get? f = some (PySem.W.kla_obj "<lambda>" qual params body scope [] pm c' ctv)) (hco : H c' = some (LamX.CodeO c' qual)) (S : FnScope N ps scope) (hr : Room (k + 1) A) (e0 : Env0 P w K mg base A outer s H)
    (hb : bindArgs (PySem.W.kla_fn "<lambda>" qual params body scope [] pm (.ref c') ctv) args = pure (ps.zip us)) (r : Vals vs us) (hl : vs.length = ps.length)
    (hbody : Room k (A.deeper (envOfC qual scope s.heap.objs.size f (.ref c'))) → ∃ t, PE (cxOf CX P w K mg base N qual scope f (.ref c') A outer s H E) body t ∧ t (L2.start N vs) H Q) :
    codeAny (model P w) A (.call (.ref f) args) (CR CX outer P w H s Q E) s := by
  have lim : s.heap.NoLimit := e0.mod.nolimit.keeps fun b o e => (e0.bs b o e).1
  have hkind : ∀ y ∈ ps.zip us, scope.names.lookup y.1 = some .local ∨ (scope.names.lookup y.1 = some .cell ∧ ((cellsFrom (s.heap.objs.size + 1) scope.names []).lookup y.1).isSome = true) := fun ⟨n, v⟩ hy => by
    rcases S.par n (List.of_mem_zip hy).1 with q | q
    · exact .inl q
    · exact .inr ⟨q, PySem.W.cellsFrom_some _ _ _ (.inl q)⟩
  obtain ⟨⟨oc, vs', t, hoc, hdc, hvc⟩, _, _⟩ := e0.hok c' _ hco
  refine PySem.W.kla_callFunE hr.depth ho rfl S.co S.gen rfl ⟨c', oc, vs', t, rfl, hoc, hdc, hvc⟩ ?_
  rw [hb]
  refine wpAny_pure ?_
  refine wpAny_newFunctionEnv_cells S.kind hkind fun env he s1 x => ?_
  subst he
  refine ⟨lim.keeps x.toInCall.keep, ?_⟩
  obtain ⟨t, ht, hq⟩ := hbody (hr.deeper _)
  have I : Inv (cxOf CX P w K mg base N qual scope f (.ref c') A outer s H E) [] (L2.start N vs) H s1 := inv_start S hr.hd e0 hl r x
  refine PySem.W.kla_codeExpr (wpAny_mono (ht.run [] s1 (L2.start N vs) H _ I hq) (fun u s' hs => ?_) fun e s' hs => hs)
  obtain ⟨v, H', J, rv, q⟩ := hs
  exact ⟨v, H', J.os, J.bare, J.base, J.hok, rv, q⟩
end
structure Lone (X : Cx) (pins : List (Addr × Obj)) (H : Hp) (s : Shared) (it : Addr) : Prop where
  no : H it = none
  loc : it ≠ X.env.locals
  new : X.s_0.heap.objs.size ≤ it
  cel : ∀ x c, X.env.cells.lookup x = some c → c ≠ it
  pin : ∀ p ∈ X.pn ++ pins, p.1 ≠ it
  frm : it ∉ frs X.stack
  has : ∃ o, s.heap.get? it = some o
section
variable {X : Cx} {pins : List (Addr × Obj)} {σ : L2.St} {H H' : Hp} {s : Shared} {it : Addr}
theorem big_ne {n a b : Nat} (h : n ≤ a) (h2 : b < n) : a ≠ b := fun z => by omega
theorem lone_new {h' : Heap} (I : Inv X pins σ H s) (h : s.heap.objs.size ≤ it) (hh : ∃ o, h'.get? it = some o) : Lone X pins H { s with heap := h' } it :=
  ⟨I.hok.fresh h, big_ne h I.lt, Nat.le_trans I.sz h, fun x c e => by
    obtain ⟨v, o, ho, _⟩ := I.cell x c e
    exact (big_ne h (Heap.lt_size ho)).symm, fun p hp => (big_ne h (Heap.lt_size (I.pin p hp).1)).symm, fun z => by
      rcases List.mem_cons.mp (I.stkSub _ z) with e | e
      · exact big_ne h I.lt e
      · exact I.nofs h e, hh⟩
/-- what holds as the rows are walked -/
def MinG (X : Cx) (pins : List (Addr × Obj)) (σ : L2.St) (H : Hp) (f : Addr) (fo : Obj) (I S : Addr) (ks : List (Addr × Int × Int)) (s : Shared) : Prop :=
  ∃ H', Inv X pins σ H' s ∧ Same H H' ∧ (∀ p ∈ ks, H' p.1 = some (.tup [.int p.2.1, .int p.2.2])) ∧ s.heap.get? f = some fo ∧ H' f = none ∧ f ∉ frs X.stack ∧ f ≠ I ∧ f ≠ S ∧ Lone X pins H' s I ∧ Lone X pins H' s S
variable {f I S a : Addr} {fo : Obj} {ks : List (Addr × Int × Int)} {h' : Heap} {tk : Nat}
theorem Lone.keep (l : Lone X pins H s a) (k : ∀ b o, b ≠ it → s.heap.get? b = some o → h'.get? b = some o) (hh : ∃ o, h'.get? it = some o) : Lone X pins H { s with heap := h', toks := tk } a :=
  ⟨l.no, l.loc, l.new, l.cel, l.pin, l.frm, by
    by_cases e : a = it
    · rw [e]
      exact hh
    · obtain ⟨o, ho⟩ := l.has
      exact ⟨o, k a o e ho⟩⟩
theorem minG_fr (g : MinG X pins σ H f fo I S ks s) (hit : it = I ∨ it = S) (k : ∀ b o, b ≠ it → s.heap.get? b = some o → h'.get? b = some o) (hh : ∃ o, h'.get? it = some o) : MinG X pins σ H f fo I S ks { s with heap := h', toks := tk } := by
  obtain ⟨H', J, sm, hk, hf, nf, ff, f1, f2, lI, lS⟩ := g
  have l : Lone X pins H' s it ∧ f ≠ it := by
    rcases hit with rfl | rfl
    · exact ⟨lI, f1⟩
    · exact ⟨lS, f2⟩
  exact ⟨H', J.turned k l.1.no l.1.loc (.inr l.1.new) l.1.cel l.1.pin, sm, hk, k f _ l.2 hf, nf, ff, f1, f2, lI.keep k hh, lS.keep k hh⟩
theorem minG_end {h1 : Heap} {t1 : Nat} (g : MinG X pins σ H f fo I S ks s) (k1 : ∀ b o, b ≠ I → s.heap.get? b = some o → h1.get? b = some o) (k2 : ∀ b o, b ≠ S → h1.get? b = some o → h'.get? b = some o) :
    ∃ H', Inv X pins σ H' { s with heap := h', toks := tk } ∧ Same H H' := by
  obtain ⟨H', J, sm, hk, hf, nf, ff, f1, f2, lI, lS⟩ := g
  have J1 := J.turned (t' := t1) k1 lI.no lI.loc (.inr lI.new) lI.cel lI.pin
  exact ⟨H', J1.turned (t' := tk) k2 lS.no lS.loc (.inr lS.new) lS.cel lS.pin, sm⟩
theorem minG_lt (g : MinG X pins σ H f fo I S ks s) {p1 p2 : Addr × Int × Int} (m1 : p1 ∈ ks) (m2 : p2 ∈ ks) (hu : X.A.in1.units < cLine) {E : Value → Shared → Prop} {Q : Value → Shared → Prop} (q : Q (.bool (klt p1.2 p2.2)) s) :
    wpAny (model X.prog X.w) X.A.in1 (richCompare .Lt (.ref p1.1) (.ref p2.1)) Q E s := by
  obtain ⟨H', J, sm, hk, _⟩ := g
  obtain ⟨its, r1, q1, _⟩ := J.tuple (.inl (.inl (hk p1 m1)) : SqT X.K H' p1.1 [.int p1.2.1, .int p1.2.2])
  obtain ⟨its2, r2, q2, _⟩ := J.tuple (.inl (.inl (hk p2 m2)) : SqT X.K H' p2.1 [.int p2.2.1, .int p2.2.2])
  have i1 : IntsAre its.toArray.toList [p1.2.1, p1.2.2] := intsAre_of (ns := [p1.2.1, p1.2.2]) r1
  have i2 : IntsAre its2.toArray.toList [p2.2.1, p2.2.2] := intsAre_of (ns := [p2.2.1, p2.2.2]) r2
  exact HT.lt_tupInts q1 q2 i1 i2 hu q
variable {k : Nat} {c' : Addr} {qual x : Str} {params : Arguments} {body : Expr} {scope : Scope} {pm ctv : Value} {N : List Str} {tb : TE} {kp : Int × Int}
def tKey (N : List Str) (tb : TE) (H : Hp) (a : Addr) (kp : Int × Int) : Prop := ∀ H3, Same H H3 → tb (L2.start N [.ref a]) H3 (fun v H4 => ∃ kt, v = .ref kt ∧ Same H3 H4 ∧ H4 kt = some (.tup [.int kp.1, .int kp.2]))
theorem minG_turn (g : MinG X pins σ H f (PySem.W.kla_obj "<lambda>" qual params body scope [] pm c' ctv) I S ks s) (hco : H c' = some (LamX.CodeO c' qual)) (Sc : FnScope N [x] scope) (hr : Room (k + 2) X.A)
    (hb : ∀ u, bindArgs (PySem.W.kla_fn "<lambda>" qual params body scope [] pm (.ref c') ctv) ⟨[u], []⟩ = pure [(x, u)])
    (hp : ∀ (A : Around) (outer : List Env) (s : Shared) (H : Hp), Room k (A.deeper (envOfC qual scope s.heap.objs.size f (.ref c'))) → PE (cxOf C8.CX0 X.prog X.w X.K X.mg X.base N qual scope f (.ref c') A outer s H C8.E0) body tb)
    (ht : tKey N tb H a kp) :
    wpAny (model X.prog X.w) X.A.in1 (call (.ref f) [.ref a]) (fun u s2 => ∃ t, u = .ref t ∧ MinG X pins σ H f (PySem.W.kla_obj "<lambda>" qual params body scope [] pm c' ctv) I S ((t, kp) :: ks) s2 ∧ (∀ o, s.heap.get? I = some o → s2.heap.get? I = some o) ∧ ∀ o, s.heap.get? S = some o → s2.heap.get? S = some o) (fun _ _ => False) s := by
  obtain ⟨H', J, sm, hk, hf, nf, ff, f1, f2, lI, lS⟩ := g
  refine wpAny_call (codeAny_mono (run_lam (CX := C8.CX0) (E := C8.E0) (us := [.ref a]) (vs := [.ref a]) (ps := [x]) hf (sm _ _ hco) Sc hr.in1 J.env0.in1 (hb _) (.cons rfl .nil) rfl fun hr' => ⟨tb, hp _ _ _ _ hr', ht H' sm⟩) fun r s2 hq => ?_)
  cases r with
  | error e => exact (show False from hq).elim
  | ok fl =>
    cases fl with
    | ret u =>
      obtain ⟨v, H4, os, bare, un, hok, rv, kt, rfl, sm2, hkt⟩ := hq
      obtain rfl : u = .ref kt := rv
      obtain ⟨hh, g, d, t, os'⟩ := s2
      obtain rfl : os' = s.os := os
      have kk : ∀ b o, H' b = none → b ∉ frs X.stack → s.heap.get? b = some o → hh.get? b = some o := fun b o h1 h2 e => un.keep b o e h1 h2 (by simp)
      have ll : ∀ b, Lone X pins H' s b → Lone X pins H4 ⟨hh, g, d, t, s.os⟩ b := fun b l => by
        obtain ⟨o, ho⟩ := l.has
        exact ⟨un.free b o ho l.no (by simp), l.loc, l.new, l.cel, l.pin, l.frm, o, kk b o l.no l.frm ho⟩
      refine ⟨kt, rfl, ⟨H4, J.call (h' := hh) (g' := g) (d' := d) (t' := t) (ch := []) un hok bare (fun b z => absurd z (by simp)), sm.trans sm2, fun p hp => ?_, kk f _ nf ff hf, un.free f _ hf nf (by simp), ff, f1, f2, ll I lI, ll S lS⟩, fun o e => kk I o lI.no lI.frm e, fun o e => kk S o lS.no lS.frm e⟩
      rcases List.mem_cons.mp hp with rfl | hp
      · exact hkt
      · exact sm2 _ _ (hk p hp)
    | next => exact False.elim hq
    | brk => exact False.elim hq
    | cont => exact False.elim hq
end
/-! ### a lambda is made: what becomes of the table -/
/-- the table at P has grown by a code object, or all is as it was -/
def TabStep (P : Addr) (q : Str) (H H1 : Hp) : Prop := H1 = H ∨ ∃ (ps : Array Value) (pos : Pos) (c : Addr), H P = some (.tbl ps) ∧ H c = none ∧ H1 = upd (upd H P (.tbl (ps ++ #[rawInt pos.line, rawInt pos.col, .ref c]))) c (LamX.CodeO c q)
section
variable {X : Cx} {pins : List (Addr × Obj)} {σ : L2.St} {H : Hp} {s : Shared}
theorem make_lam {c P : Addr} {params : Arguments} {body : Expr} {scope : Scope} {pos : Pos} {E : Value → Shared → Prop} {Q : Value → Shared → Prop} (I : Inv X pins σ H s) (TB : LamX.TabB X.base X.mg c P) (hcode : X.env.code = .ref c)
    (hT : LamX.TabS H P (X.env.qual ++ "<lambda>")) (hdef : defaultsOf params X.env = ([], [])) (hfree : ∀ y ∈ scope.names, y.2 = .free → ∃ c, X.env.cells.lookup y.1 = some c)
    (h : ∀ (f c' : Addr) (pm ctv : Value) (H1 : Hp) (s' : Shared), Inv X pins σ H1 s' → TabStep P (X.env.qual ++ "<lambda>") H H1 → LamX.TabS H1 P (X.env.qual ++ "<lambda>") →
      s'.heap.get? f = some (PySem.W.kla_obj "<lambda>" (X.env.qual ++ "<lambda>") params body scope (cloFrom X.env.cells scope.names []) pm c' ctv) → H1 f = none → f ∉ frs X.stack → H1 c' = some (LamX.CodeO c' (X.env.qual ++ "<lambda>")) → Q (.ref f) s') :
    wpAny (model X.prog X.w) X.A (eval (.Lambda params body scope pos) X.env) Q E s := by
  obtain ⟨ps, hP, ht, ha⟩ := id hT
  have bP : s.heap.BuiltinsAt X.mg P := TB.bm.keeps I.bk
  have hP' : s.heap.get? P = some { cls := .none, data := .fields ps } := I.hok P _ hP
  have away : ∀ f, s.heap.objs.size ≤ f → f ∉ frs X.stack := fun f hf z => by
    rcases List.mem_cons.mp (I.stkSub _ z) with e | e
    · exact big_ne hf I.lt e
    · exact I.nofs hf e
  refine PySem.W.kla_eval hdef ?_
  cases hc : codeAmong pos ps.toList with
  | some cv =>
    obtain ⟨c', rfl, hco⟩ := ha pos cv hc
    refine PySem.W.kla_makeFunctionHit (mg := X.mg) (c := c) (P := P) (ps := ps) (closure_ok hfree) I.ok.glob (I.mod.glob.keeps I.bk) hcode (TB.code.keeps I.bk) hP' ht hc bP fun ctv h' tk hx hsz => ?_
    exact h h'.objs.size c' _ ctv H _ (I.kept fun b o e => Heap.get?_push_of_some _ (hx b o e)) (.inl rfl) hT (Heap.get?_push_size _ rfl) (I.hok.fresh hsz) (away _ hsz) hco
  | none =>
    refine PySem.W.kla_makeFunction (mg := X.mg) (c := c) (P := P) (ps := ps) (closure_ok hfree) I.ok.glob (I.mod.glob.keeps I.bk) hcode (TB.code.keeps I.bk) hP' ht hc TB.gP bP fun c' ctv h' tk hx hge hlt hrec htb => ?_
    obtain ⟨c2, oc, vs, t, e2, hoc, hd, hv⟩ := hrec
    cases e2
    have hsz : s.heap.objs.size ≤ h'.objs.size := Nat.le_trans hge (Nat.le_of_lt hlt)
    have nC : H c' = none := I.hok.fresh hge
    have nPc : P ≠ c' := ne_of_none hP nC
    have I1 := LamX.inv_table (t' := tk) (more := #[rawInt pos.line, rawInt pos.col, .ref c']) (h' := h'.push (PySem.W.kla_obj "<lambda>" (X.env.qual ++ "<lambda>") params body scope (cloFrom X.env.cells scope.names []) ((X.mg "__name__").getD .none) c' ctv)) I hP
      (fun b o hb e => Heap.get?_push_of_some _ (hx b o hb e)) (Heap.get?_push_of_some _ htb) hge ⟨oc, vs, t, Heap.get?_push_of_some _ hoc, hd, hv⟩
    have n2 : h'.objs.size ≠ P := big_ne hsz (Heap.lt_size hP')
    have keepC : ∀ b q, H b = some (LamX.CodeO b q) → upd (upd H P (.tbl (ps ++ #[rawInt pos.line, rawInt pos.col, .ref c']))) c' (LamX.CodeO c' (X.env.qual ++ "<lambda>")) b = some (LamX.CodeO b q) := fun b q e => by
      rw [upd_ne (ne_of_none e nC), upd_ne fun z => LamX.codeO_ne ps (Option.some.inj (e.symm.trans (by rw [z]; exact hP)))]
      exact e
    refine h h'.objs.size c' _ ctv _ _ I1 (.inr ⟨ps, _, c', hP, nC, rfl⟩) ⟨_, by rw [upd_ne nPc, upd_same], ?_, fun p' cv hcv => ?_⟩ (Heap.get?_push_size _ rfl) ?_ (away _ hsz) upd_same
    · rw [Array.toList_append]
      exact PySem.TriplesOk_snoc _ _ _ _ ht
    · rw [Array.toList_append] at hcv
      rcases LamX.among_app _ ht hcv with z | z
      · obtain ⟨c0, e1, e2⟩ := ha p' cv z
        exact ⟨c0, e1, keepC _ _ e2⟩
      · exact ⟨c', z, upd_same⟩
    · rw [upd_ne (Nat.ne_of_gt hlt), upd_ne n2]
      exact I.hok.fresh hsz
end
/-! ### the rule -/
def rMinK (P : Addr) (lq : Str) (N : List Str) (tb : TE) (vs : List V) (H1 : Hp) (Q : VK) : Prop := ∃ (l : Addr) (as : List Addr) (kf : Nat → Int × Int), vs = [.ref l] ∧ 0 < as.length ∧ LamX.TabS H1 P lq ∧ H1 l = some (.lst (as.map V.ref)) ∧
  ∀ H2, TabStep P lq H1 H2 → LamX.TabS H2 P lq → H2 l = some (.lst (as.map V.ref)) ∧ (∀ i a, as[i]? = some a → tKey N tb H2 a (kf i)) ∧ ∀ i a H3, as[i]? = some a → Least kf as.length i → Same H2 H3 → Q (.ref a) H3
def tMinK (P : Addr) (lq : Str) (N : List Str) (tb : TE) (t : TA) : TE := fun σ H Q => t σ H fun vs H1 => rMinK P lq N tb vs H1 Q
section
variable {X : Cx} {c P : Addr} {k : Nat} {mn x : Str} {params : Arguments} {body : Expr} {scope : Scope} {N : List Str} {e : Expr} {t : TA} {tb : TE} {nm : Option Str} {p lpos kpos pos : Pos}
theorem vals_refs : ∀ {as : List Addr} {us : List Value}, Vals (as.map V.ref) us → us = as.map Value.ref
  | [], _, .nil => rfl
  | a :: as, _, .cons r t => by
    obtain rfl := r
    rw [vals_refs t]
    rfl
theorem clo_nil {cells : List (Str × Addr)} : ∀ {names : List (Str × NameKind)} {acc : List (Str × Addr)}, (∀ y ∈ names, y.2 ≠ .free) → cloFrom cells names acc = acc
  | [], _, _ => rfl
  | (n, k) :: r, acc, h => by
    have h1 : k ≠ .free := h (n, k) (.head _)
    unfold cloFrom
    rw [if_neg (by simpa using h1)]
    exact clo_nil fun y hy => h y (.tail _ hy)
theorem pe_minK (TB : LamX.TabB X.base X.mg c P) (hcode : X.env.code = .ref c) (hr : Room (k + 2) X.A)
    (hg : Gl X mn) (hm : X.mg mn = none) (hv : bootBuiltins mn = some (.builtin "min")) (ha : PA X [e] t) (hdef : defaultsOf params X.env = ([], [])) (Sc : FnScope N [x] scope) (hb : ∀ (q : Str) (pm cv ctv : Value) u, bindArgs (PySem.W.kla_fn "<lambda>" q params body scope [] pm cv ctv) ⟨[u], []⟩ = pure [(x, u)])
    (hp : ∀ (f c' : Addr) (A : Around) (outer : List Env) (s : Shared) (H : Hp), Room k (A.deeper (envOfC (X.env.qual ++ "<lambda>") scope s.heap.objs.size f (.ref c'))) → PE (cxOf C8.CX0 X.prog X.w X.K X.mg X.base N (X.env.qual ++ "<lambda>") scope f (.ref c') A outer s H C8.E0) body tb)
    (hn : mn ≠ "__name__" := by decide) (hdb : (mn == ("__debug__" : Str)) = false := by decide)
    (hkw : nm = some (Str.ofString "key") := by rfl)
    (he : backTo pos (starEach [e] X.env) = (false, eval e X.env) :: backTo pos (starEach [] X.env) := by rfl) (hpl : (backTo pos (starEach [e] X.env)).any (·.1) = false := by rfl) :
    PE X (.Call (.Name mn p) [e] [⟨nm, .Lambda params body scope lpos, kpos⟩] pos) (tMinK P (X.env.qual ++ "<lambda>") N tb t) := by
  subst hkw
  have hfree : ∀ y ∈ scope.names, y.2 = .free → ∃ c, X.env.cells.lookup y.1 = some c := fun y hy z => absurd z (Sc.nofree y hy)
  have hclo : cloFrom X.env.cells scope.names [] = [] := clo_nil Sc.nofree
  refine ⟨fun pins s σ H Q I h => ?_⟩
  refine wpAny_Call_Name_kw (ld_blt I hg hm hv ?_ hn hdb)
  refine PyProof.Rows.callWith_kw (thn (ha.run pos pins s σ H _ I h) fun us s1 ⟨vs, H1, I1, r1, q1⟩ => ?_) he hpl rfl rfl
  obtain ⟨l, as, kf, rfl, hne, hT, hl, q1⟩ := q1
  obtain rfl := Vals.ref1 r1
  show wpAny _ _ (evalAll ((do let v ← eval (.Lambda params body scope lpos) X.env; standAt pos; pure v) :: [])) _ _ _
  refine wpAny_evalAll_cons (wpAny_bind (make_lam I1 TB hcode hT hdef hfree fun f c' pm ctv H2 s2 I2 eN T2 hf hfn hfr hco => wpAny_bind (wpAny_standAt (wpAny_pure (wpAny_evalAll_nil ?_)))))
  rw [hclo] at hf
  obtain ⟨hl2, q2, q3⟩ := q1 H2 eN T2
  show wpAny _ _ (call (.builtin "min") [.ref l] [(Str.ofString "key", .ref f)]) _ _ _
  have hls : ∀ {H' : Hp} {s' : Shared}, Inv X pins σ H' s' → H' l = some (.lst (as.map V.ref)) → s'.heap.IsList l (as.map Value.ref).toArray := fun {H' s'} J e => by
    obtain ⟨its, rv, pl, _⟩ := J.list (.inl (.inl e))
    rw [← vals_refs rv]
    exact pl.isList
  have hlen : (as.map Value.ref).length = as.length := List.length_map ..
  have at_ : ∀ {i : Nat} {v : Value}, (as.map Value.ref)[i]? = some v → ∃ a, as[i]? = some a ∧ v = .ref a := fun {i v} e => by
    rw [List.getElem?_map] at e
    cases h : as[i]? with
    | none =>
      rw [h] at e
      cases e
    | some a =>
      rw [h] at e
      cases e
      exact ⟨a, rfl, rfl⟩
  have szf : f < s2.heap.objs.size := Heap.lt_size hf
  refine ml_call (G := MinG X pins σ H2 f (PySem.W.kla_obj "<lambda>" (X.env.qual ++ "<lambda>") params body scope [] pm c' ctv)) kf hr.hd (by rw [hlen]; exact hne) (hls I2 hl2) (fun I S ks s' g => ?_)
    (fun I S ks s' h' tk it hit g k hh => minG_fr g hit k hh) (fun I S ks s' p1 p2 g m1 m2 E Q q => minG_lt g m1 m2 ?_ q) (fun I S i v ks s' hv g => ?_) (fun h' kk e1 e2 => ?_) (fun I S i v ks s' h1 h' t1 t' hv hlst g k1 k2 => ?_)
  · obtain ⟨H', J, sm, _⟩ := g
    exact hls J (sm _ _ hl2)
  · have := hr.in1.un
    omega
  · obtain ⟨a, ha', rfl⟩ := at_ hv
    exact minG_turn g hco Sc hr (hb _ _ _ _) (hp f c') (q2 i a ha')
  · refine ⟨H2, I2.kept kk, Same.refl _, fun p hp => absurd hp (by simp), kk _ _ hf, hfn, hfr, Nat.ne_of_lt szf, Nat.ne_of_lt (Nat.lt_succ_of_lt szf), ?_, ?_⟩
    · exact lone_new I2 (Nat.le_refl _) e1
    · exact lone_new I2 (Nat.le_succ _) e2
  · obtain ⟨a, ha', rfl⟩ := at_ hv
    obtain ⟨H', J, sm⟩ := minG_end (tk := t') (t1 := t1) g k1 k2
    exact ⟨.ref a, H', J, rfl, q3 i a H' ha' (by rw [hlen] at hlst; exact hlst) sm⟩
end

/-! ### by pieces -/
def tab (P : Addr) (q : Str) : Asn := fun H => LamX.TabS H P q
section
variable {L R : List Asn} {H H1 : Hp} {P : Addr} {q : Str}
instance : Mono (tab P q) := ⟨fun s t => t.ext s⟩
theorem Hs.tabStep (h : Hs (tab P q :: L) H) (st : TabStep P q H H1) (t : LamX.TabS H1 P q) : Hs (tab P q :: L) H1 := by
  rcases st with rfl | ⟨ps, pos, c, hP, nc, rfl⟩
  · exact h
  · obtain ⟨Ha, Hb, s1, s2, d, ta, hb⟩ := h
    obtain ⟨ps', hPa, tr, ha⟩ := id ta
    have e1 := s1 _ _ hPa
    rw [hP] at e1
    obtain rfl : ps = ps' := by
      injection e1 with e1
      injection e1
    have nb : Hb P = none := by
      rcases d _ _ hPa with z | ⟨xs, z⟩
      · exact z
      · cases z
    have nca : Ha c = none := by
      cases e : Ha c with
      | none => rfl
      | some o =>
        have := s1 _ _ e
        rw [nc] at this
        cases this
    have ncb : Hb c = none := by
      cases e : Hb c with
      | none => rfl
      | some o =>
        have := s2 _ _ e
        rw [nc] at this
        cases this
    have nPc : P ≠ c := ne_of_none hP nc
    refine ⟨upd (upd Ha P (.tbl (ps ++ #[rawInt pos.line, rawInt pos.col, .ref c]))) c (LamX.CodeO c q), Hb, fun a o e => ?_, fun a o e => ?_, fun a o e => ?_, ?_, hb⟩
    · by_cases h1 : a = c
      · rw [h1, upd_same] at e ⊢
        exact e
      · rw [upd_ne h1] at e ⊢
        by_cases h2 : a = P
        · rw [h2, upd_same] at e ⊢
          exact e
        · rw [upd_ne h2] at e ⊢
          exact s1 _ _ e
    · rw [upd_ne (fun z => by rw [z, ncb] at e; cases e), upd_ne (fun z => by rw [z, nb] at e; cases e)]
      exact s2 _ _ e
    · by_cases h1 : a = c
      · rw [h1]
        exact .inl ncb
      · by_cases h2 : a = P
        · rw [h2]
          exact .inl nb
        · rw [upd_ne h1, upd_ne h2] at e
          exact d _ _ e
    · obtain ⟨ps2, hP2, tr2, ha2⟩ := t
      rw [upd_ne nPc, upd_same] at hP2
      obtain rfl : ps ++ #[rawInt pos.line, rawInt pos.col, .ref c] = ps2 := by
        injection hP2 with z
        injection z
      refine ⟨_, by rw [upd_ne nPc, upd_same], tr2, fun pos' cv hc => ?_⟩
      rw [Array.toList_append] at hc
      rcases LamX.among_app _ tr hc with z | z
      · obtain ⟨c0, e0, hc0⟩ := ha _ _ z
        refine ⟨c0, e0, ?_⟩
        rw [upd_ne (ne_of_none hc0 nca), upd_ne fun z => LamX.codeO_ne ps (Option.some.inj (hc0.symm.trans (by rw [z]; exact hPa)))]
        exact hc0
      · exact ⟨c, z, upd_same⟩
/-- all of H0 is there -/
def below (H0 : Hp) : Asn := fun H => Same H0 H
instance {H0 : Hp} : Mono (below H0) := ⟨fun s h => h.trans s⟩
theorem Hs.below : Hs [below H] H := ⟨H, fun _ => none, Same.refl H, (fun _ _ e => by cases e), (fun _ _ _ => .inl rfl), Same.refl H, True.intro⟩
theorem dv_pair {x : V} {u : Int × Int} (h : Dv H x (dPair u)) : ∃ a, x = .ref a ∧ H a = some (.tup [.int u.1, .int u.2]) := by
  cases h with
  | tup ha hs =>
    cases hs with
    | cons h1 t =>
      cases t with
      | cons h2 t2 =>
        cases t2
        cases h1
        cases h2
        exact ⟨_, rfl, ha⟩
theorem dv_refs : ∀ {us : List V} {ps : List (Int × Int)}, DvAll H us (ps.map dPair) → ∃ as : List Addr, us = as.map V.ref ∧ as.length = ps.length ∧ ∀ (i : Nat) (a : Addr), as[i]? = some a → ∃ u, ps[i]? = some u ∧ Dv H (.ref a) (dPair u)
  | [], [], _ => ⟨[], rfl, rfl, fun i a e => by simp at e⟩
  | _ :: _, _ :: _, .cons h t => by
    obtain ⟨as, rfl, h2, h3⟩ := dv_refs t
    obtain ⟨a, rfl, _⟩ := dv_pair h
    refine ⟨a :: as, rfl, congrArg (· + 1) h2, fun i b e => ?_⟩
    rcases i with _ | i
    · obtain rfl : a = b := Option.some.inj e
      exact ⟨_, rfl, h⟩
    · exact h3 i b e
theorem s_minK {p : Addr} {N : List Str} {tb : TE} {Q : VK} {ps : List (Int × Int)} {kf : Int × Int → Int × Int} (hS : Hs L H) (kt : Pick L (tab P q) R) (kl : HasL R p (ps.map dPair)) (hne : 0 < ps.length)
    (hk : ∀ (u : Int × Int) (r : Addr) (H3 : Hp), Hs [dv (.ref r) (dPair u), below H3] H3 → tb (L2.start N [.ref r]) H3 (fun v H4 => Dv H4 v (dPair (kf u)) ∧ Same H3 H4))
    (h : ∀ (H' : Hp) (r : Addr) (u : Int × Int), u ∈ ps → (∀ y ∈ ps, klt (kf y) (kf u) = false) → Hs (dv (.ref r) (dPair u) :: tab P q :: R) H' → Q (.ref r) H') : rMinK P q N tb [.ref p] H Q := by
  have hT := kt.go hS
  obtain ⟨us, hp, hd⟩ := kl.at_ hT.tl
  obtain ⟨as, rfl, hlen, hat⟩ := dv_refs hd
  refine ⟨p, as, fun i => kf (ps.getD i (0, 0)), rfl, by rw [hlen]; exact hne, hT.hd, hp, fun H2 st t2 => ?_⟩
  have hT2 := hT.tabStep st t2
  obtain ⟨us2, hp2, hd2⟩ := kl.at_ hT2.tl
  have e2 : H2 p = some (.lst (as.map V.ref)) := by
    rcases st with rfl | ⟨w, pos, c, hP, nc, rfl⟩
    · exact hp
    · rw [upd_ne (ne_of_none hp nc), upd_ne fun z => by rw [z, hP] at hp; cases hp]
      exact hp
  rw [e2] at hp2
  obtain rfl : as.map V.ref = us2 := by
    injection hp2 with z
    injection z
  have hat2 : ∀ (i : Nat) (a : Addr), as[i]? = some a → ∃ u, ps[i]? = some u ∧ Dv H2 (.ref a) (dPair u) := by
    obtain ⟨as2, e3, _, h3⟩ := dv_refs hd2
    have : as = as2 := by
      have inj : ∀ {l1 l2 : List Addr}, l1.map V.ref = l2.map V.ref → l1 = l2 := fun {l1 l2} e => map_inj (fun a b e => by injection e) e
      exact inj e3
    subst this
    exact h3
  refine ⟨e2, fun i a ha H3 sm => ?_, fun i a H3 ha hl sm => ?_⟩
  · obtain ⟨u, hu, hv⟩ := hat2 i a ha
    have eu : ps.getD i (0, 0) = u := by simp [hu]
    have hv3 := hv.sub sm
    have hb : Hs [dv (.ref a) (dPair u), below H3] H3 := Hs.add (A := dv (.ref a) (dPair u)) hv3 Hs.below
    have key := hk u a H3 hb
    have post : (fun v H4 => Dv H4 v (dPair (kf u)) ∧ Same H3 H4) = (fun v H4 => ∃ kt, v = V.ref kt ∧ Same H3 H4 ∧ H4 kt = some (.tup [.int (kf (ps.getD i (0, 0))).1, .int (kf (ps.getD i (0, 0))).2])) := by
      rw [eu]
      funext v H4
      refine propext ⟨fun ⟨z1, z2⟩ => ?_, fun ⟨kt, z1, z2, z3⟩ => ?_⟩
      · obtain ⟨kt, e, e'⟩ := dv_pair z1
        exact ⟨kt, e, z2, e'⟩
      · subst z1
        exact ⟨.tup z3 (.cons (.int _) (.cons (.int _) .nil)), z2⟩
    rw [post] at key
    exact key
  · obtain ⟨u, hu, hv⟩ := hat2 i a ha
    have eu : ps.getD i (0, 0) = u := by simp [hu]
    refine h H3 a u (List.mem_of_getElem? hu) (fun y hy => ?_) (Hs.add (hv.sub sm) (hT2.sub sm))
    obtain ⟨j, hj, ej⟩ := List.getElem_of_mem hy
    have hj2 : ps[j]? = some y := by rw [List.getElem?_eq_getElem hj, ej]
    have ey : ps.getD j (0, 0) = y := by simp [hj2]
    have z := (hl j (by rw [hlen]; exact hj)).1
    have z : klt (kf (ps.getD j (0, 0))) (kf (ps.getD i (0, 0))) = false := z
    rw [ey, eu] at z
    exact z
end

/-- a def whose code object is named -/
theorem okC {P : Program} {w : World} {K : PySem.W.Frag} {mg : Str → Option Value} {base : Heap} {x qual : Str} {params : Arguments} {body : List Stmt} {scope : Scope} {dvs : List V} {kws : List (Str × V)} {f c : Addr} {fd : FuncData} {CX : CXT} {N ps : List Str} {k : Nat} {sp : Sp}
    (F : FunD K x qual params body scope dvs kws f fd) (hc : fd.code = .ref c) (S : FnScope N ps scope) (len : ∀ vs H Q E, sp vs H Q E → vs.length = ps.length)
    (hbody : ∀ (A : Around) (outer : List Env) (s : Shared) (H : Hp) (vs : List V) (Q : VK) (E : XK), Room k (A.deeper (envOfC qual scope s.heap.objs.size f (.ref c))) → sp vs H Q E →
      ∃ t, PSs (cxOf CX P w K mg base N qual scope f (.ref c) A outer s H E) body t ∧ t { nx := fun _ H' => Q .non H', rt := Q } (L2.start N vs) H) : FnOk P w K mg base CX (k + 1) f fd ps sp := by
  obtain ⟨oc, od, dV, kV, doc, pm, an, cdv, ct, osl, rfl, lk, hcd, _, _⟩ := F.ex
  obtain rfl : cdv = .ref c := hc
  exact fn_of lk hcd S len fun A outer s H vs Q E hr hsp => hbody A outer s H vs Q E hr hsp
/-- the table of the code object at c -/
def tabIn (K : PySem.W.Frag) (c : Addr) : Option Addr := match K.lookup c with
  | some ⟨_, _, .fields vs, _⟩ => (match (vs[11]? : Option Value) with
    | some (.ref P) => some P
    | _ => none)
  | _ => none
end Lt
/-! xs.remove(t): items are data -/
namespace Lt
open PySem PySem.Spec PyProof.Rows L2 SeqAt MeetsSeq
theorem rm_loop (l : Addr) (items : Array Value) (n : Nat) (x : Value) (e : Value → Bool) (j : Nat) (hj : j < items.size) (hit : e items[j] = true) (k : Nat) (hs1 : items.size ≤ sizeLine) :
    ∀ i : Nat, j - i = k → i ≤ j → (∀ m (hm : m < items.size), i ≤ m → m < j → e items[m] = false) → Meets (Builtin.«list.remove.loop» ⟨[.ref l, x, rawInt i], []⟩)
      (fun A R s => s.heap.get? l = some { cls := .type "list", dict := none, data := .seq items n, slots := #[] } ∧ (∀ y, y ∈ items → EqAt A.in1 s y x (e y)) ∧ R (.ok (.ret .none)) { s with heap := s.heap.update l (Obj.mapSeq fun xs => xs.eraseIdxIfInBounds j) }) := by
  induction k with
  | zero =>
    intro i hk hij hno prog w A R s h
    obtain ⟨hp, g, d, tk, os⟩ := s
    obtain ⟨hl, he, h⟩ := h
    have hij' : i = j := by omega
    subst hij'
    wp_walk using AutoSeq1.wpAny_loadPart' hl
    have hi : items[((i : Nat) : Int).toNat]? = some items[i] := by simp [hj]
    rw [hi]
    refine wpAny_bind (he _ (Array.getElem_mem hj) prog w _ _ ?_)
    rw [hit]
    have hz' : (items.eraseIdxIfInBounds i).size ≤ sizeLine + 1 := Nat.le_trans (size_erased items _) (Nat.le_succ_of_le hs1)
    wp_walk using (wpAny_updateSeq hl rfl (hz := hs1) (_hz' := hz')), AutoSeq1.wpAny_loadPart' hl
    simpa using h
  | succ k ih =>
    intro i hk hij hno prog w A R s h
    obtain ⟨hp, g, d, tk, os⟩ := s
    obtain ⟨hl, he, h⟩ := h
    have hlt : i < items.size := by omega
    wp_walk using AutoSeq1.wpAny_loadPart' hl
    have hi : items[((i : Nat) : Int).toNat]? = some items[i] := by simp [hlt]
    have hc : ((i : Int) + 1) = ((i + 1 : Nat) : Int) := by push_cast; rfl
    rw [hi]
    refine wpAny_bind (he _ (Array.getElem_mem hlt) prog w _ _ ?_)
    rw [hno i hlt (Nat.le_refl _) (by omega)]
    wp_walk
    rw [hc]
    exact ⟨plainId_quiet plain_remove_loop _, codeAny_builtin entry_remove_loop (by
      rw [Around.under_plainId plain_remove_loop _]
      exact ih (i + 1) (by omega) (by omega) (fun m hm h1 h2 => hno m hm (by omega) h2) prog w A R _ ⟨hl, he, h⟩)⟩
theorem rm_at (l : Addr) (items : Array Value) (n : Nat) (x : Value) (e : Value → Bool) (j : Nat) (hj : j < items.size)
    (hit : e items[j] = true) (hno : ∀ m (hm : m < items.size), m < j → e items[m] = false) (hs1 : items.size ≤ sizeLine) :
    Meets (Builtin.«list.remove» ⟨[.ref l, x], []⟩)
      (fun A R s => s.heap.get? l = some { cls := .type "list", dict := none, data := .seq items n, slots := #[] } ∧ (∀ y, y ∈ items → EqAt A.in1 s y x (e y)) ∧ R (.ok (.ret .none)) { s with heap := s.heap.update l (Obj.mapSeq fun xs => xs.eraseIdxIfInBounds j) }) := by
  intro prog w A R s h
  obtain ⟨hp, g, d, tk, os⟩ := s
  obtain ⟨hl, he, h⟩ := h
  wp_walk using AutoSeq1.wpAny_loadPart' hl
  exact ⟨plainId_quiet plain_remove_loop _, codeAny_builtin entry_remove_loop (by
    rw [Around.under_plainId plain_remove_loop _]
    exact rm_loop l items n x e j hj hit _ hs1 0 rfl (Nat.zero_le _) (fun m hm _ h2 => hno m hm h2) prog w A R _ ⟨hl, he, h⟩)⟩
section
variable {X : Cx}
def rRemD (K : PySem.W.Frag) : V → List V → Hp → VK → Prop := fun x xs H Q => ∃ (a : Addr) (y : V) (d : PyData) (us : List V) (ds : List PyData) (j : Nat) (z : PyData), x = V.ref a ∧ xs = [y] ∧ H a = some (.lst us) ∧ DpAll K H us ds ∧ Dp K H y d ∧
  SeqAt.shaped (.list ds) = true ∧ SeqAt.shaped d = true ∧ ds[j]? = some z ∧ PyData.eqv z d = true ∧ (∀ (m : Nat) (z' : PyData), m < j → ds[m]? = some z' → PyData.eqv z' d = false) ∧ Q .non (upd H a (.lst (us.eraseIdx j)))
theorem mt_remD (hu : X.A.units + 65 < cLine) : MtM X "list.remove" (rRemD X.K) := by
  intro pins s σ H x xs v us Q I rx rxs h
  obtain ⟨a, y, d, ws, ds, j, z, rfl, rfl, hH, ha, hy, sl, sd, hz, hzj, hno, q⟩ := h
  cases rx
  obtain ⟨uy, rfl, ry⟩ := rxs.one
  obtain ⟨bs, r1⟩ := Dp.reads I d y uy hy ry
  have hxs : PyData.canLayAll0 ds = true := SeqAt.canLay_of_shaped sl
  have hroom : X.A.units + 1 + min (PyData.depthAll ds) d.depth < cLine := room_in_shaped sd hu
  obtain ⟨hlen, its, n, rv, hl, e⟩ := I.lstM hH
  obtain ⟨as, h4⟩ := Dp.readsAll I ds _ its ha rv
  have hn : its.length = ds.length := SeqAt.ReadsAll.length ds its as h4
  have hmap : its.map (SeqAt.readOf s.heap) = ds := SeqAt.readsAll_map ds its as hxs h4
  obtain ⟨hjd, _⟩ := List.getElem?_eq_some_iff.mp hz
  have hjl : j < its.length := by omega
  have hj : j < its.toArray.size := by simpa using hjl
  have at_ : ∀ (m : Nat) (hm : m < its.toArray.size) (z' : PyData), ds[m]? = some z' → SeqAt.readOf s.heap its.toArray[m] = z' := by
    intro m hm z' hz'
    have hml : m < its.length := by simpa using hm
    rw [← hmap, List.getElem?_map, List.getElem?_eq_getElem hml] at hz'
    have e1 : SeqAt.readOf s.heap its[m] = z' := Option.some.inj (show some (SeqAt.readOf s.heap its[m]) = some z' from hz')
    simpa using e1
  refine call_meets PySem.F.slot_list_remove ⟨_, e, rfl⟩ PySem.F.entry_list_remove (PySem.F.args_list_remove_2 _ _)
    (rm_at a its.toArray n uy (fun u => PyData.eqv (SeqAt.readOf s.heap u) d) j hj ?_ ?_ (by rw [List.size_toArray]; omega)) ⟨e, SeqAt.items_eqAt (vs := its.toArray) (show ReadsAll s.heap its.toArray.toList ds as from h4) r1 hxs (SeqAt.canLay_of_shaped sd) hroom, ?_⟩
  · show PyData.eqv (SeqAt.readOf s.heap its.toArray[j]) d = true
    rw [at_ j hj z hz]
    exact hzj
  · intro m hm hmj
    have hmd : m < ds.length := by
      have := hm
      rw [List.size_toArray] at this
      omega
    have hz' : ds[m]? = some ds[m] := List.getElem?_eq_getElem hmd
    show PyData.eqv (SeqAt.readOf s.heap its.toArray[m]) d = false
    rw [at_ m hm _ hz']
    exact hno m _ hmj hz'
  · have rr := rv.eraseIdx j
    refine ⟨.non, _, I.lset (its' := its.eraseIdx j) (t' := s.toks) hH e ?_ rr ?_, rfl, q⟩
    · show its.toArray.eraseIdxIfInBounds j = (its.eraseIdx j).toArray
      rw [List.eraseIdxIfInBounds_toArray]
    · have z2 := len_erase ws j
      omega
end

theorem DvAll.erase {H : Hp} : ∀ {us : List V} {ds : List PyData} (j : Nat), DvAll H us ds → DvAll H (us.eraseIdx j) (ds.eraseIdx j)
  | _, _, _, .nil => .nil
  | _, _, 0, .cons _ t => t
  | _, _, j + 1, .cons h t => .cons h (DvAll.erase j t)
theorem map_erase {α : Type} (f : α → PyData) : ∀ (xs : List α) (j : Nat), (xs.map f).eraseIdx j = (xs.eraseIdx j).map f
  | [], _ => rfl
  | _ :: _, 0 => rfl
  | x :: xs, j + 1 => congrArg (f x :: ·) (map_erase f xs j)
theorem first_of {α : Type} [DecidableEq α] : ∀ {xs : List α} {w : α}, w ∈ xs → ∃ j : Nat, xs[j]? = some w ∧ (∀ m z, m < j → xs[m]? = some z → z ≠ w) ∧ xs.eraseIdx j = xs.erase w
  | [], _, h => absurd h (by simp)
  | x :: xs, w, h => by
    by_cases e : x = w
    · subst e
      exact ⟨0, rfl, fun m z hm => absurd hm (Nat.not_lt_zero _), by simp⟩
    · have h2 : w ∈ xs := by
        rcases List.mem_cons.mp h with z | z
        · exact absurd z.symm e
        · exact z
      obtain ⟨j, h1, h3, h4⟩ := first_of h2
      refine ⟨j + 1, h1, fun m z hm hz => ?_, ?_⟩
      · rcases m with _ | m
        · rw [← Option.some.inj (show some x = some z from hz)]
          exact e
        · exact h3 m z (by omega) hz
      · rw [List.erase_cons, if_neg (by simpa using e), List.eraseIdx_cons_succ, h4]
section
variable {K : PySem.W.Frag} {H : Hp} {Q : VK} {p : Addr} {x : V} {L R : List Asn}
theorem eqv_shp {α : Type} {f : α → PyData} {n : Nat} (S : Shp α f n) (a b : α) [Decidable (a = b)] : PyData.eqv (f a) (f b) = decide (a = b) := by
  by_cases e : a = b
  · rw [decide_eq_true e, e, eqv_true (S.ti b)]
  · rw [decide_eq_false e]
    exact eqv_false (S.ti a) (S.ti b) fun z => e (S.inj _ _ z)
theorem s_remD {α : Type} {f : α → PyData} {n : Nat} {xs : List α} {w : α} [DecidableEq α] (S : Shp α f n) (hn : n + 1 ≤ 64) (hS : Hs L H) (k : Pick L (isL p (xs.map f)) R) (hx : Dv H x (f w)) (hm : w ∈ xs) (h : ∀ H', Hs (isL p ((xs.erase w).map f) :: R) H' → Q .non H') : rRemD K (.ref p) [x] H Q := by
  obtain ⟨us, h2⟩ := (k.go hS).openL
  have h5 := h2.hd
  obtain ⟨j, h3, h4, h6⟩ := first_of hm
  have sl : SeqAt.shaped (.list (xs.map f)) = true := shaped_of ((shp_list S).ti xs) (Nat.le_trans ((shp_list S).dp xs) hn)
  refine ⟨p, x, f w, us, xs.map f, j, f w, rfl, rfl, h5.1, h5.2.dp, hx.dp, sl, shaped_of (S.ti w) (Nat.le_trans (S.dp w) (by omega)), by rw [List.getElem?_map, h3] <;> rfl, eqv_true (S.ti w), fun m z hm' hz => ?_, h _ ?_⟩
  · rw [List.getElem?_map] at hz
    cases e : xs[m]? with
    | none =>
      rw [e] at hz
      cases hz
    | some y =>
      rw [e] at hz
      obtain rfl : f y = z := Option.some.inj hz
      rw [eqv_shp S, decide_eq_false (h4 m y hm' e)]
  · rw [← h6, ← map_erase]
    exact (k.go hS).putL (h5.2.erase j)
end
theorem hu65 {k : Nat} {A : Around} (r : Room k A) : A.units + 65 < cLine := by
  have := r.un
  omega
end Lt
/-! while, by pieces -/
namespace Lt
open PySem PySem.Spec PyProof.Rows L2
section
variable {L : List Asn} {H : Hp} {σ : L2.St} {D : Ends} {c : TT} {tb : TS}
/-- a turn has ended: the word W holds with a smaller measure -/
def Nx (W : Nat → L2.St → List Asn → Prop) (m : Nat) : L2.St → Hp → Prop := fun σ' H' => ∃ m' L', (m' < m ∧ W m' σ' L') ∧ Hs L' H'
def Wh (W : Nat → L2.St → List Asn → Prop) : Nat → L2.St → Hp → Prop := fun m σ H => ∃ L, W m σ L ∧ Hs L H
theorem Nx.out {W : Nat → L2.St → List Asn → Prop} {m : Nat} : ∀ σ' H', Nx W m σ' H' → ∃ m', m' < m ∧ Wh W m' σ' H' := fun _ _ ⟨m', L', ⟨h1, h2⟩, h3⟩ => ⟨m', h1, L', h2, h3⟩
/-- a turn goes on: refine s_turn ?_ -/
theorem s_turn {W : Nat → L2.St → List Asn → Prop} {m : Nat} {nx : L2.St → Hp → Prop} (h : tb { D with nx := Nx W m, ct := Nx W m, bk := nx } σ H) :
    ∃ N : L2.St → Hp → Prop, (∀ σ' H', N σ' H' → ∃ m', m' < m ∧ Wh W m' σ' H') ∧ tb { D with nx := N, ct := N, bk := nx } σ H := ⟨Nx W m, Nx.out, h⟩
theorem s_while (W : Nat → L2.St → List Asn → Prop) (hS : Hs L H) (h0 : ∃ m, W m σ L)
    (turn : ∀ m σ L H, W m σ L → Hs L H → c σ H fun b H1 => if b = true then ∃ N : L2.St → Hp → Prop, (∀ σ' H', N σ' H' → ∃ m', m' < m ∧ Wh W m' σ' H') ∧ tb { D with nx := N, ct := N, bk := D.nx } σ H1 else D.nx σ H1) : tWhile c tb D σ H := by
  obtain ⟨m0, w0⟩ := h0
  exact ⟨Wh W, ⟨m0, L, w0, hS⟩, fun m σ H ⟨L, w, hS⟩ => turn m σ L H w hS⟩
end
end Lt
/-! pieces: plain Lean -/
namespace Lt
theorem klt_anti {a b : Int × Int} (h1 : klt a b = false) (h2 : klt b a = false) : a = b := by
  rw [klt_no] at h1 h2
  obtain ⟨a1, a2⟩ := a
  obtain ⟨b1, b2⟩ := b
  simp only at h1 h2
  rw [Prod.mk.injEq]
  omega
/-- the pieces as the rule tells them -/
inductive Pcs : List (Int × Int) → Int → List (Int × Int) → Prop
  | done {rows : List (Int × Int)} {rest : Int} : rest ≤ 0 → Pcs rows rest []
  | last {rows : List (Int × Int)} {rest : Int} {u : Int × Int} : 0 < rest → u ∈ rows → rest ≤ u.2 → (∀ y ∈ rows, rest ≤ y.2 → klt (y.2, y.1) (u.2, u.1) = false) → Pcs rows rest [(u.1, rest)]
  | more {rows out : List (Int × Int)} {rest : Int} {u : Int × Int} : 0 < rest → (∀ y ∈ rows, y.2 < rest) → u ∈ rows → (∀ y ∈ rows, klt (-y.2, y.1) (-u.2, u.1) = false) → Pcs (rows.erase u) (rest - u.2) out → Pcs rows rest (u :: out)
theorem Pcs.uniq {rows out : List (Int × Int)} {rest : Int} (h : Pcs rows rest out) : ∀ {out2 : List (Int × Int)}, Pcs rows rest out2 → out = out2 := by
  induction h with
  | done h0 =>
    intro out2 h2
    cases h2 with
    | done _ => rfl
    | last h1 => omega
    | more h1 => omega
  | @last rows rest u h0 hm hw hl =>
    intro out2 h2
    cases h2 with
    | done h1 => omega
    | @last _ _ w _ hm2 hw2 hl2 =>
      have e := klt_anti (hl _ hm2 hw2) (hl2 _ hm hw)
      rw [Prod.mk.injEq] at e
      rw [e.2]
    | more _ h1 => have := h1 _ hm; omega
  | @more rows out rest u h0 ha hm hl _ ih =>
    intro out2 h2
    cases h2 with
    | done h1 => omega
    | last _ hm2 hw2 => have := ha _ hm2; omega
    | @more _ out3 _ w _ _ hm2 hl2 ht2 =>
      have e := klt_anti (hl _ hm2) (hl2 _ hm)
      rw [Prod.mk.injEq] at e
      have e2 : u = w := Prod.ext (by omega) (by omega)
      subst e2
      rw [ih ht2]
/-! sizes -/
def sizes (rows : List (Int × Int)) : Int := (rows.map (·.2)).sum
theorem sizes_cons (p : Int × Int) (r : List (Int × Int)) : sizes (p :: r) = p.2 + sizes r := by simp [sizes]
theorem sizes_erase {rows : List (Int × Int)} {u : Int × Int} (h : u ∈ rows) : sizes (rows.erase u) = sizes rows - u.2 := by
  induction rows with
  | nil => simp at h
  | cons p r ih =>
    by_cases e : p = u
    · subst e
      rw [List.erase_cons_head, sizes_cons]
      omega
    · rw [List.erase_cons_tail (by simpa using e), sizes_cons, sizes_cons, ih ((List.mem_cons.mp h).resolve_left (Ne.symm e))]
      omega
theorem sizes_cat : ∀ {rows : List (Int × Int)}, (∀ p ∈ rows, 1 ≤ p.2) → sizes rows = (catS rows).length
  | [], _ => rfl
  | p :: r, h => by
    have e : catS (p :: r) = rgI p.1 p.2 ++ catS r := by simp [catS]
    have h1 := h p (by simp)
    rw [sizes_cons, sizes_cat fun q hq => h q (by simp [hq]), e, List.length_append, rgI_len]
    omega
theorem sizes_str (ks : List Int) : sizes (strOf ks) = (ascOf ks).length := by
  rw [sizes_cat (strOk ks).pos, (strOk ks).cat]
theorem sizes_pos {rows : List (Int × Int)} (h : 0 < sizes rows) : 0 < rows.length := by
  cases rows with
  | nil => exact absurd h (by decide)
  | cons _ _ => exact Nat.succ_pos _
/-- the first blocks ascend -/
theorem sep_first : ∀ {o : Option Int} {qs : List (Int × Int)}, SepFrom o qs → (∀ p ∈ qs, 1 ≤ p.2) → (∀ x, o = some x → ∀ p ∈ qs, x < p.1) ∧ qs.Pairwise (·.1 < ·.1)
  | _, [], _, _ => ⟨fun _ _ p hp => by simp at hp, .nil⟩
  | o, (f, m) :: r, ⟨h1, h2⟩, hp => by
    have h0 := hp (f, m) (by simp)
    obtain ⟨i1, i2⟩ := sep_first h2 fun p z => hp p (by simp [z])
    have i3 := i1 _ rfl
    refine ⟨fun x hx p z => ?_, .cons (fun p z => ?_) i2⟩
    · have h3 := h1 x hx
      rcases List.mem_cons.mp z with rfl | z
      · exact h3
      · have := i3 p z
        simp only at h0
        omega
    · have := i3 p z
      simp only at h0 ⊢
      omega
theorem str_first (ks : List Int) : (strOf ks).Pairwise (·.1 < ·.1) := (sep_first (strOk ks).sep (strOk ks).pos).2
theorem first_nd {rows : List (Int × Int)} (h : rows.Pairwise (·.1 < ·.1)) : rows.Nodup := h.imp fun z e => by rw [e] at z; omega
theorem nd_filter {rows : List (Int × Int)} (h : rows.Nodup) (u : Int × Int) : rows.filter (fun p => !decide (p = u)) = rows.erase u := by
  rw [h.erase_eq_filter]
  congr 1
  funext p
  by_cases e : p = u <;> simp [e]
/-! the law's own walk: the best so far -/
def bestStep (rest : Int) (b : Option (Int × Int)) (p : Int × Int) : Option (Int × Int) := match b with
  | none => some p
  | some b => if rest ≤ b.2 then (if rest ≤ p.2 ∧ p.2 < b.2 then some p else some b) else (if b.2 < p.2 then some p else some b)
def BestOk (rest : Int) (qs : List (Int × Int)) (b : Int × Int) : Prop := b ∈ qs ∧
  ((rest ≤ b.2 ∧ ∀ y ∈ qs, rest ≤ y.2 → b.2 < y.2 ∨ (y.2 = b.2 ∧ b.1 ≤ y.1)) ∨ (b.2 < rest ∧ ∀ y ∈ qs, y.2 < b.2 ∨ (y.2 = b.2 ∧ b.1 ≤ y.1)))
theorem best_step {rest : Int} {qs : List (Int × Int)} {b : Option (Int × Int)} {p : Int × Int} (h : match b with | none => qs = [] | some b => BestOk rest qs b) (ha : ∀ y ∈ qs, y.1 < p.1) :
    ∃ c, bestStep rest b p = some c ∧ BestOk rest (qs ++ [p]) c := by
  have mp : p ∈ qs ++ [p] := List.mem_append_right _ (List.mem_singleton_self p)
  cases b with
  | none =>
    subst h
    refine ⟨p, rfl, by simp, ?_⟩
    by_cases e : rest ≤ p.2
    · exact .inl ⟨e, fun y hy _ => by rw [List.mem_singleton.mp hy]; omega⟩
    · exact .inr ⟨by omega, fun y hy => by rw [List.mem_singleton.mp hy]; omega⟩
  | some b =>
    obtain ⟨hb, h⟩ := h
    have mb : b ∈ qs ++ [p] := List.mem_append_left _ hb
    have hab := ha b hb
    have key : ∀ {y : Int × Int} {C : Prop}, y ∈ qs ++ [p] → (y ∈ qs → C) → (y = p → C) → C := fun hy c1 c2 => by
      rcases List.mem_append.mp hy with z | z
      · exact c1 z
      · exact c2 (List.mem_singleton.mp z)
    by_cases e1 : rest ≤ b.2
    · rcases h with ⟨_, h⟩ | ⟨h, _⟩
      · by_cases e2 : rest ≤ p.2 ∧ p.2 < b.2
        · refine ⟨p, by simp [bestStep, e1, e2], mp, .inl ⟨e2.1, fun y hy hr => key hy (fun z => ?_) fun z => ?_⟩⟩
          · have := h y z hr
            omega
          · subst z
            omega
        · refine ⟨b, by simp only [bestStep, e1, e2]; simp, mb, .inl ⟨e1, fun y hy hr => key hy (fun z => h y z hr) fun z => ?_⟩⟩
          subst z
          omega
      · omega
    · rcases h with ⟨h, _⟩ | ⟨_, h⟩
      · omega
      · by_cases e2 : b.2 < p.2
        · refine ⟨p, by simp [bestStep, e1, e2], mp, ?_⟩
          by_cases e3 : rest ≤ p.2
          · refine .inl ⟨e3, fun y hy hr => key hy (fun z => ?_) fun z => ?_⟩
            · have := h y z
              omega
            · subst z
              omega
          · refine .inr ⟨by omega, fun y hy => key hy (fun z => ?_) fun z => ?_⟩
            · have := h y z
              omega
            · subst z
              omega
        · refine ⟨b, by simp only [bestStep, e1, e2]; simp, mb, .inr ⟨by omega, fun y hy => key hy (h y) fun z => ?_⟩⟩
          subst z
          omega
theorem best_take {rest : Int} {rows : List (Int × Int)} (hp : rows.Pairwise (·.1 < ·.1)) : ∀ i : Nat, i ≤ rows.length → match (rows.take i).foldl (bestStep rest) none with | none => rows.take i = [] | some b => BestOk rest (rows.take i) b
  | 0, _ => rfl
  | i + 1, hi => by
    have ih := best_take (rest := rest) hp i (by omega)
    have hx : rows[i]? = some rows[i] := List.getElem?_eq_getElem (by omega)
    obtain ⟨c, e, hc⟩ := best_step (p := rows[i]) ih fun y hy => by
      obtain ⟨j, hj, rfl⟩ := List.mem_iff_getElem.mp hy
      rw [List.length_take] at hj
      rw [List.getElem_take]
      exact List.pairwise_iff_getElem.mp hp j i (by omega) (by omega) (by omega)
    rw [take_snoc hx, List.foldl_append]
    show match bestStep rest ((rows.take i).foldl (bestStep rest) none) rows[i] with | none => _ | some b => _
    rw [e]
    exact hc
theorem best_all {rest : Int} {rows : List (Int × Int)} (hp : rows.Pairwise (·.1 < ·.1)) (h : 0 < rows.length) : ∃ b, rows.foldl (bestStep rest) none = some b ∧ BestOk rest rows b := by
  have z := best_take (rest := rest) hp rows.length (Nat.le_refl _)
  rw [List.take_length] at z
  cases e : rows.foldl (bestStep rest) none with
  | none =>
    rw [e] at z
    rw [z] at h
    exact absurd h (by decide)
  | some b =>
    rw [e] at z
    exact ⟨b, rfl, z⟩
theorem Pcs.ofBest {rest : Int} {rows : List (Int × Int)} {b : Int × Int} (hr : 0 < rest) (h : BestOk rest rows b) :
    (rest ≤ b.2 → Pcs rows rest [(b.1, rest)]) ∧ (b.2 < rest → ∀ out, Pcs (rows.erase b) (rest - b.2) out → Pcs rows rest (b :: out)) := by
  obtain ⟨hm, h⟩ := h
  refine ⟨fun e => .last hr hm e fun y hy hw => ?_, fun e out ho => .more hr (fun y hy => ?_) hm (fun y hy => ?_) ho⟩
  · rw [klt_no]
    rcases h with ⟨_, h⟩ | ⟨h, _⟩
    · have := h y hy hw
      simp only
      omega
    · omega
  · rcases h with ⟨h, _⟩ | ⟨_, h⟩
    · omega
    · have := h y hy
      omega
  · rw [klt_no]
    rcases h with ⟨h, _⟩ | ⟨_, h⟩
    · omega
    · have := h y hy
      simp only
      omega
theorem strOf_len (ks : List Int) : (strOf ks).length ≤ ks.length := by
  have a2 := strStep_len (ascOf ks) []
  have a3 := len_asc ks
  unfold strOf
  simp only [List.length_nil] at a2
  omega
/-- midway: acc is told, rest is still to be told by rows -/
structure PcsIn (ks : List Int) (n : Int) (rows : List (Int × Int)) (rest : Int) (acc : List (Int × Int)) : Prop where
  pos : ∀ p ∈ rows, 1 ≤ p.2
  fst : rows.Pairwise (·.1 < ·.1)
  r0 : 0 ≤ rest
  r1 : rest ≤ sizes rows
  len : acc.length ≤ 501
  len1 : 0 < rest → acc.length + rows.length ≤ 500
  go : ∀ out, Pcs rows rest out → Pcs (strOf ks) n (acc ++ out)
theorem PcsIn.start {ks : List Int} {n : Int} (h : ks.Pairwise (· < ·)) (h5 : ks.length ≤ 500) (n0 : 0 ≤ n) (n1 : n ≤ ks.length) : PcsIn ks n (strOf ks) n [] :=
  ⟨(strOk ks).pos, str_first ks, n0, by rw [sizes_str, asc_of_asc h]; exact n1, by simp, fun _ => by have := strOf_len ks; simp; omega, fun out h => h⟩
theorem PcsIn.start2 {ks : List Int} {n : Int} (h : ks.Nodup) (h5 : ks.length ≤ 500) (n0 : 0 ≤ n) (n1 : n ≤ ks.length) : PcsIn ks n (strOf ks) n [] :=
  ⟨(strOk ks).pos, str_first ks, n0, by rw [sizes_str, ← sortI_nd h, (sortI_perm ks).length_eq]; exact n1, by simp, fun _ => by have := strOf_len ks; simp; omega, fun out h => h⟩
section
variable {ks : List Int} {n rest : Int} {rows acc : List (Int × Int)} {u : Int × Int}
theorem sizes_nn {rows : List (Int × Int)} (h : ∀ p ∈ rows, 1 ≤ p.2) : 0 ≤ sizes rows := by
  rw [sizes_cat h]
  omega
theorem PcsIn.ne (h : PcsIn ks n rows rest acc) (r : 0 < rest) : 0 < rows.length := sizes_pos (by have := h.r1; omega)
theorem PcsIn.last (h : PcsIn ks n rows rest acc) (r : 0 < rest) (hm : u ∈ rows) (hw : rest ≤ u.2) (hl : ∀ y ∈ rows, rest ≤ y.2 → klt (y.2, y.1) (u.2, u.1) = false) (rows2 : List (Int × Int)) (hs : ∀ p ∈ rows2, 1 ≤ p.2) (hf : rows2.Pairwise (·.1 < ·.1)) : PcsIn ks n rows2 0 (acc ++ [(u.1, rest)]) := by
  have h1 := h.len1 r
  have h2 := h.ne r
  refine ⟨hs, hf, Int.le_refl _, sizes_nn hs, by rw [List.length_append, List.length_singleton]; omega, fun z => absurd z (by decide), fun out ho => ?_⟩
  cases ho with
  | done _ =>
    rw [List.append_nil]
    exact h.go _ (.last r hm hw hl)
  | last z => exact absurd z (by decide)
  | more z => exact absurd z (by decide)
theorem PcsIn.more (h : PcsIn ks n rows rest acc) (r : 0 < rest) (ha : ∀ y ∈ rows, y.2 < rest) (hm : u ∈ rows) (hl : ∀ y ∈ rows, klt (-y.2, y.1) (-u.2, u.1) = false) : PcsIn ks n (rows.erase u) (rest - u.2) (acc ++ [u]) := by
  have h1 := h.len1 r
  have h2 := h.ne r
  have h3 := ha u hm
  have h4 := h.r1
  have h5 : (rows.erase u).length = rows.length - 1 := List.length_erase_of_mem hm
  refine ⟨fun p hp => h.pos p (List.mem_of_mem_erase hp), h.fst.sublist (List.erase_sublist ..), by omega, by rw [sizes_erase hm]; omega, by rw [List.length_append, List.length_singleton]; omega, fun _ => by rw [List.length_append, List.length_singleton]; omega, fun out ho => ?_⟩
  rw [List.append_assoc]
  exact h.go _ (.more r ha hm hl ho)
theorem PcsIn.best (h : PcsIn ks n rows rest acc) (r : 0 < rest) : ∃ b, rows.foldl (bestStep rest) none = some b ∧ BestOk rest rows b := best_all h.fst (h.ne r)
theorem PcsIn.lawStep (h : PcsIn ks n rows rest acc) (r : 0 < rest) (hb : BestOk rest rows u) : PcsIn ks n (rows.erase u) (rest - min rest u.2) (acc ++ [(u.1, min rest u.2)]) := by
  have h1 := h.len1 r
  have h2 := h.ne r
  have hm := hb.1
  have key := Pcs.ofBest r hb
  have pe : ∀ p ∈ rows.erase u, 1 ≤ p.2 := fun p hp => h.pos p (List.mem_of_mem_erase hp)
  have fe := h.fst.sublist (List.erase_sublist (a := u))
  by_cases e : rest ≤ u.2
  · rw [show min rest u.2 = rest by omega, show rest - rest = 0 by omega]
    refine ⟨pe, fe, Int.le_refl _, sizes_nn pe, by rw [List.length_append, List.length_singleton]; omega, fun z => absurd z (by decide), fun out ho => ?_⟩
    cases ho with
    | done _ =>
      rw [List.append_nil]
      exact h.go _ (key.1 e)
    | last z => exact absurd z (by decide)
    | more z => exact absurd z (by decide)
  · have h3 : u.2 < rest := by omega
    have h4 := h.r1
    have h5 : (rows.erase u).length = rows.length - 1 := List.length_erase_of_mem hm
    rw [show min rest u.2 = u.2 by omega]
    refine ⟨pe, fe, by omega, by rw [sizes_erase hm]; omega, by rw [List.length_append, List.length_singleton]; omega, fun _ => by rw [List.length_append, List.length_singleton]; omega, fun out ho => ?_⟩
    rw [List.append_assoc]
    exact h.go _ (key.2 h3 out ho)
theorem PcsIn.done (h : PcsIn ks n rows rest acc) (r : ¬ 0 < rest) : Pcs (strOf ks) n acc := by
  have z := h.go [] (.done (by omega))
  rwa [List.append_nil] at z
end
end Lt
/-! rules with the written part told: for what stands within a comprehension -/
namespace Lt
open PySem PySem.Spec PyProof.Rows L2
section
variable {X : Cx} (K : PySem.W.Frag) (h : X.K = K)
include h
theorem slL_K : SlR X (rSlL K) := by
  subst h
  exact sl_list
theorem slT_K : SlR X (rSlT K) := by
  subst h
  exact sl_tup
theorem ixL_K : IxR X (rIxL K) := by
  subst h
  exact ix_list
theorem ixT_K : IxR X (rIxT K) := by
  subst h
  exact ix_tup
theorem len_K : CallR X (.builtin "len") (fun xs H Q => ∃ p ys, xs = [.ref p] ∧ (SqL K H p ys ∨ SqT K H p ys) ∧ Q (.int ys.length) H) := by
  subst h
  exact call_len_seq
theorem listOf_K : CallR X (.type "list") (fun xs H Q => ∃ p ys, xs = [.ref p] ∧ (SqL K H p ys ∨ SqT K H p ys) ∧ ∀ l, H l = none → Q (.ref l) (upd H l (.lst ys))) := by
  subst h
  exact call_list_of
theorem tupOf_K : CallR X (.type "tuple") (fun xs H Q => ∃ p ys, xs = [.ref p] ∧ ((SqL K H p ys ∧ ∀ l, H l = none → Q (.ref l) (upd H l (.tup ys))) ∨ (SqT K H p ys ∧ Q (.ref p) H))) := by
  subst h
  exact call_tuple_of
end
end Lt
/-! comprehensions over a tuple, by pieces -/
namespace Lt
open PySem PySem.Spec PyProof.Rows L2
section
variable {K : PySem.W.Frag} {L R L0 R0 : List Asn} {H : Hp} {Q : VK} {σ : L2.St} {a : Addr} {ks : List Int} {g : TG} {vs : List Nat} {tt : TT} {te : TE} {Qd : Addr → Hp → Prop}
theorem Dv.tupInts (h : Dv H (.ref a) (.tuple (ks.map PyData.int))) : H a = some (.tup (ks.map V.int)) := by
  obtain ⟨t, us, e, h1, h2⟩ := h.tupOf
  cases e
  rw [h1, h2.intsEq]
theorem s_lcTI (P : Nat → List PyData → List Asn → Prop) (hS : Hs L0 H) (k : Pick L0 (dv (.ref a) (.tuple (ks.map PyData.int))) R0) (h0 : P 0 [] R0)
    (hs : ∀ D i k acc H' L, ks[i]? = some k → P i acc L → acc.length ≤ i → Hs (isL D acc :: dv (.ref a) (.tuple (ks.map PyData.int)) :: L) H' → g (.int k) (wipe σ vs) H' fun σ2 H2 => wipe σ2 vs = wipe σ vs ∧ tt σ2 H2 fun b H3 =>
      if b = true then te σ2 H3 fun y H4 => ∃ acc, H4 D = some (.lst acc) ∧ acc.length < sizeLine ∧ LcS [dv (.ref a) (.tuple (ks.map PyData.int))] P D (i + 1) (upd H4 D (.lst (acc ++ [y]))) else LcS [dv (.ref a) (.tuple (ks.map PyData.int))] P D (i + 1) H3)
    (h : ∀ D acc H' L, P ks.length acc L → acc.length ≤ ks.length → Hs (isL D acc :: dv (.ref a) (.tuple (ks.map PyData.int)) :: L) H' → Qd D H') :
    (∃ xs, SqT K H a xs) ∧ ∀ D, H D = none → ∃ W : Nat → Nat → Hp → Prop, (∃ m, W 0 m (upd H D (.lst []))) ∧ ∀ i m H, W i m H →
      ((Itt K a).stop i H ∧ Qd D H) ∨ ((Itt K a).go i H ∧ ∃ Nx : Hp → Prop, (∀ H', Nx H' → ∃ m', m' < m ∧ W (i + 1) m' H') ∧ ∀ x H', (Itt K a).yld i H x H' → g x (wipe σ vs) H' fun σ2 H2 => wipe σ2 vs = wipe σ vs ∧ tt σ2 H2 fun b H3 =>
        if b = true then te σ2 H3 fun y H4 => ∃ acc, H4 D = some (.lst acc) ∧ acc.length < sizeLine ∧ Nx (upd H4 D (.lst (acc ++ [y]))) else Nx H3) := by
  have h1 := k.go hS
  have d0 : Dv H (.ref a) (.tuple (ks.map PyData.int)) := h1.hd
  refine ⟨⟨_, SqT.of d0.tupInts⟩, fun D nD => lc_it (Qd := Qd D) (walk_tup (K := K) (a := a) (xs := ks.map V.int)) (LcS [dv (.ref a) (.tuple (ks.map PyData.int))] P D) ⟨R0, [], h0, Nat.le_refl _, h1.newL nD .nil⟩ (fun i H' _ hp => ?_) (fun i x H1 H' hi hp hy => ?_) fun H' hp => ?_⟩
  · obtain ⟨L, acc, _, _, z⟩ := hp
    have d1 : Dv H' (.ref a) (.tuple (ks.map PyData.int)) := z.tl.hd
    exact SqT.of d1.tupInts
  · obtain ⟨L, acc, hP, hal, z⟩ := hp
    obtain ⟨rfl, hx⟩ := hy
    obtain ⟨k, rfl, hk⟩ := int_at hx
    exact hs D i k acc _ L hk hP hal z
  · obtain ⟨L, acc, hP, hal, z⟩ := hp
    rw [List.length_map] at hP hal
    exact h D acc H' L hP hal z
end
theorem k_tMinK {P : Addr} {lq : Str} {N : List Str} {tb : TE} {t : TA} {σ : L2.St} {H : Hp} {Q : VK} (h : t σ H fun vs H1 => rMinK P lq N tb vs H1 Q) : tMinK P lq N tb t σ H Q := h
theorem beq_pair : (instBEqOfDecidableEq : BEq (Int × Int)) = instBEqProd := by
  have h : ∀ (b1 b2 : BEq (Int × Int)), (∀ a b, b1.beq a b = b2.beq a b) → b1 = b2 := fun b1 b2 h => by
    cases b1
    cases b2
    congr
    funext a b
    exact h a b
  refine h _ _ fun a b => ?_
  obtain ⟨a1, a2⟩ := a
  obtain ⟨b1, b2⟩ := b
  show decide ((a1, a2) = (b1, b2)) = (a1 == b1 && a2 == b2)
  by_cases h1 : a1 = b1
  · by_cases h2 : a2 = b2
    · simp [h1, h2]
    · simp [h1, h2]
  · simp [h1]
theorem s_remP {K : PySem.W.Frag} {H : Hp} {Q : VK} {p : Addr} {x : V} {L R : List Asn} {xs : List (Int × Int)} {w : Int × Int} (hS : Hs L H) (k : Pick L (isL p (xs.map dPair)) R) (hx : Dv H x (dPair w)) (hm : w ∈ xs) (h : ∀ H', Hs (isL p ((xs.erase w).map dPair) :: R) H' → Q .non H') : rRemD K (.ref p) [x] H Q :=
  s_remD shp_pair (by decide) hS k hx hm fun H' h1 => h H' (by
    rw [beq_pair] at h1
    exact h1)
theorem eqD_K {X : Cx} (K : PySem.W.Frag) (h : X.K = K) (hu : X.A.units + 64 < cLine) : OpR X (compareOp .Eq) (rEqD K) := by
  subst h
  exact op_eqD hu
theorem neD_K {X : Cx} (K : PySem.W.Frag) (h : X.K = K) (hu : X.A.units + 64 < cLine) : OpR X (compareOp .NotEq) (rNeD K) := by
  subst h
  exact op_neD hu
def rMin2 : List V → Hp → VK → Prop := fun xs H Q => ∃ i j : Int, xs = [.int i, .int j] ∧ Q (.int (min i j)) H
def rMax2 : List V → Hp → VK → Prop := fun xs H Q => ∃ i j : Int, xs = [.int i, .int j] ∧ Q (.int (max i j)) H
theorem c_min2 {X : Cx} (hc : X.calm = true) : CallR X (.builtin "min") rMin2 := fun pins s σ H xs us Q I r ⟨i, j, e, q⟩ => call_min2 hc pins s σ H xs us Q I r ⟨i, j, e, by
  rw [show (if j < i then j else i) = min i j by split <;> omega]
  exact q⟩
theorem c_max2 {X : Cx} (hc : X.calm = true) : CallR X (.builtin "max") rMax2 := fun pins s σ H xs us Q I r ⟨i, j, e, q⟩ => call_max2 hc pins s σ H xs us Q I r ⟨i, j, e, by
  rw [show (if i < j then j else i) = max i j by split <;> omega]
  exact q⟩
theorem s_min2 {i j : Int} {H : Hp} {Q : VK} (h : Q (.int (min i j)) H) : rMin2 [.int i, .int j] H Q := ⟨i, j, rfl, h⟩
theorem s_max2 {i j : Int} {H : Hp} {Q : VK} (h : Q (.int (max i j)) H) : rMax2 [.int i, .int j] H Q := ⟨i, j, rfl, h⟩
theorem pg_tupK {X : Cx} (K : PySem.W.Frag) (n : Nat) {es : List Expr} {k : Nat} {t : TGs} {pos : Pos} (hK : X.K = K) (hc : X.calm = true) (h : PGs X es t)
    (hn : (assignEach es X.env).length = n := by rfl) (hst : (assignEach es X.env).findIdx? (·.1) = none := by rfl) : PG X (.Tuple es k pos) (gTup K n t) := by
  subst hK
  exact pg_tup hc h hn hst
end Lt
/-! (law_callG and walk_ofG follow law_call and walk_of line by line)
guards known: a def called where no repr is under way; str and f-string of a list of whole numbers; bool of an own instance -/
namespace Lt
open PySem PySem.Spec PyProof.Rows L2
structure FnG (P : Program) (w : World) (K : PySem.W.Frag) (mg : Str → Option Value) (base : Heap) (CX : CXT) (k : Nat) (f : Addr) (fd : FuncData) (ps : List Str) (sp : Sp) : Prop where
  len : ∀ vs H Q E, sp vs H Q E → vs.length = ps.length
  run : ∀ (A : Around) (outer : List Env) (s : Shared) (H : Hp) (args : Args) (us : List Value) (vs : List V) (Q : VK) (E : XK), A.guards = some [] → Room k A → Env0 P w K mg base A outer s H → BindsTo s fd args (ps.zip us) → Vals vs us → sp vs H Q E →
    codeAny (model P w) A (.call (.ref f) args) (CR CX outer P w H s Q E) s
/-- a def, its body read where the guards are known -/
theorem FunD.okG {P : Program} {w : World} {K : PySem.W.Frag} {mg : Str → Option Value} {base : Heap} {x qual : Str} {params : Arguments} {body : List Stmt} {scope : Scope} {dvs : List V} {kws : List (Str × V)} {f : Addr} {fd : FuncData} {CX : CXT} {N ps : List Str} {k : Nat} {sp : Sp}
    (F : FunD K x qual params body scope dvs kws f fd) (S : FnScope N ps scope) (len : ∀ vs H Q E, sp vs H Q E → vs.length = ps.length)
    (hbody : ∀ (cdv : Value) (A : Around) (outer : List Env) (s : Shared) (H : Hp) (vs : List V) (Q : VK) (E : XK), A.guards = some [] → Room k (A.deeper (envOfC qual scope s.heap.objs.size f cdv)) → sp vs H Q E →
      ∃ t, PSs (cxOf CX P w K mg base N qual scope f cdv A outer s H E) body t ∧ t { nx := fun _ H' => Q .non H', rt := Q } (start N vs) H) : FnG P w K mg base CX (k + 1) f fd ps sp := by
  obtain ⟨oc, od, dV, kV, doc, pm, an, cdv, ct, osl, rfl, lk, hcd, _, _⟩ := F.ex
  refine ⟨len, fun A outer s H args us vs Q E hg hr e0 hb r hsp => ?_⟩
  have hl := len _ _ _ _ hsp
  have KX : K.In s.heap := e0.mod.kin.keeps fun b o e => (e0.bs b o e).1
  have lim : s.heap.NoLimit := e0.mod.nolimit.keeps fun b o e => (e0.bs b o e).1
  have hkind : ∀ y ∈ ps.zip us, scope.names.lookup y.1 = some .local ∨ (scope.names.lookup y.1 = some .cell ∧ ((cellsFrom (s.heap.objs.size + 1) scope.names []).lookup y.1).isSome = true) := fun ⟨n, v⟩ hy => by
    rcases S.par n (List.of_mem_zip hy).1 with q | q
    · exact .inl q
    · exact .inr ⟨q, PySem.W.cellsFrom_some _ _ _ (.inl q)⟩
  refine codeAny_call_function hr.depth (KX _ _ lk) rfl S.co S.gen rfl (PySem.W.codeRec_of KX hcd) (hb _ _ _ _ ?_)
  refine wpAny_newFunctionEnv_cells S.kind hkind fun env he s1 x => ?_
  subst he
  refine ⟨lim.keeps x.toInCall.keep, codeAny_func ?_⟩
  obtain ⟨t, ht, hq⟩ := hbody cdv A outer s H vs Q E hg (hr.deeper _) hsp
  have I : Inv (cxOf CX P w K mg base N qual scope f cdv A outer s H E) [] (start N vs) H s1 := inv_start S hr.hd e0 hl r x
  refine wpAny_mono (ht.run [] s1 (start N vs) H _ I hq) (fun fl s' hs => ?_) fun e s' hs => hs
  have fin : ∀ {σ' : L2.St} {H' : Hp} {v : V} {u : Value}, Inv (cxOf CX P w K mg base N qual scope f cdv A outer s H E) [] σ' H' s' → RelV v u → Q v H' → CE outer P w H s Q u s' :=
    fun {σ' H' v u} J rv q => ⟨v, H', J.os, J.bare, J.base, J.hok, rv, q⟩
  cases fl with
  | ret u =>
    obtain ⟨v, σ', H', J, rv, q⟩ := hs
    exact fin J rv q
  | next =>
    obtain ⟨σ', H', J, q⟩ := hs
    exact fin (v := V.non) (u := Value.none) J rfl q
  | brk =>
    obtain ⟨_, _, _, q⟩ := hs
    exact False.elim q
  | cont =>
    obtain ⟨_, _, _, q⟩ := hs
    exact False.elim q
section
variable {X : Cx} {CX : CXT} {k n : Nat} {f C : Addr} {fd : FuncData} {ps : List Str} {sp : Sp} {dvs : List V} {ds : List Value} {E : XK} {x m : Str} {p pos apos : Pos} {e o : Expr} {es : List Expr} {ta : TE} {t : TA} {pins : List (Addr × Obj)} {σ : L2.St} {H : Hp} {s : Shared} {A : Around}
theorem pe_callG (hG : X.A.guards = some []) (F : FnG X.prog X.w X.K X.mg X.base CX k f fd ps sp) (hr : Room k X.A) (hg : Gl X x) (hm : X.mg x = some (.ref f)) (hk : PySem.W.keepIn X.K (.ref f) = true) (hb : Binds X.K fd ps ds) (hd : Vals dvs ds) (hx : Passes CX X E)
    (ha : PA X (e :: es) t) (hdb : (x == ("__debug__" : Str)) = false := by decide) (he : starEach (e :: es) X.env = (false, eval e X.env) :: starEach es X.env := by rfl) (hpl : (backTo pos (starEach es X.env)).any (·.1) = false := by rfl) :
    PE X (.Call (.Name x p) (e :: es) [] pos) (tCall sp dvs E t) := by
  refine ⟨fun pins s σ H Q I h => ?_⟩
  refine wpAny_Call_Name_kw (ld_glob I hg hm ?_ hdb)
  refine PySem.W.callWith_K (h₀ := X.base) I.ok.mod.kin hk (thn (ha.run pos pins s σ H _ I h) fun us s1 ⟨vs, H1, I1, r, q⟩ => ⟨I1.kIn, ?_⟩) he hpl
  have r2 : Vals (vs ++ dvs) (us ++ ds) := r.append hd
  have hl : (us ++ ds).length = ps.length := by rw [← r2.length]; exact F.len _ _ _ _ q
  refine wpAny_call (codeAny_mono (F.run X.A X.stack s1 H1 ⟨us, []⟩ (us ++ ds) (vs ++ dvs) Q E hG hr I1.env0 (hb s1 us I1.kIn hl) r2 q) fun r s' hq => ?_)
  cases r with
  | error e => exact hx pins σ H1 s1 e s' I1 hq
  | ok fl =>
    cases fl with
    | ret u => exact I1.after hq
    | next => exact False.elim hq
    | brk => exact False.elim hq
    | cont => exact False.elim hq
theorem run_inG (hG : A.guards = some []) (F : FnG X.prog X.w X.K X.mg X.base CX n f fd ps sp) (hb : Binds X.K fd ps []) (hx : Passes CX X E) (sb : Sub X n A) (I : Inv X pins σ H s) {vs : List V} {us : List Value} {Q : VK} (r2 : Vals vs us) (hsp : sp vs H Q E) :
    wpAny (model X.prog X.w) A (call (.ref f) us) (fun r s' => ∃ v H', Inv X pins σ H' s' ∧ RelV v r ∧ Q v H') X.xe s := by
  have e0 : Env0 X.prog X.w X.K X.mg X.base A X.stack s H := by
    have e := I.env0
    exact ⟨by rw [sb.fr]; exact e.frames, e.mod, e.bs, e.bsz, e.funs, e.frf, e.hok, e.bare⟩
  have hl := F.len _ _ _ _ hsp
  have hl2 : us.length = ps.length := by rw [← r2.length]; exact hl
  refine wpAny_call (codeAny_mono (F.run A X.stack s H ⟨us, []⟩ us vs Q E hG sb.room e0 (by
    have := hb s us I.kIn (by simpa using hl2)
    simpa using this) r2 hsp) fun r s' hq => ?_)
  cases r with
  | error e => exact hx pins σ H s e s' I hq
  | ok fl =>
    cases fl with
    | ret w =>
      obtain ⟨z, H', I', rz, q⟩ := I.after hq
      exact ⟨z, H', I', rz, q⟩
    | next => exact False.elim hq
    | brk => exact False.elim hq
    | cont => exact False.elim hq
theorem call_reprOG (hG : X.A.guards = some []) (F : FnG X.prog X.w X.K X.mg X.base CX n f fd ps sp) (hs : PySem.W.findIn X.K (.ref C) "__repr__" = some (some (.ref f))) (hf : PySem.W.isFn X.K (.ref f) = true) (hb : Binds X.K fd ps []) (hx : Passes CX X E) (hr : Room (n + 1) X.A) : CallR X (.builtin "repr") (rStrO C sp E) := by
  intro pins s σ H xs us Q I r h
  obtain ⟨a, dx, fs, rfl, ha, hsp⟩ := h
  obtain ⟨u, rfl, rx⟩ := vals1 r
  cases rx
  obtain ⟨mA, J, _⟩ := ins_get I.hok ha
  obtain ⟨od, J, _⟩ := J.look
  obtain ⟨m, hF⟩ := I.fr
  refine PySem.W.repr_K hr.in1.units0 hF I.ok.mod.kin J hs hf (thn (run_inG (A := X.A.in1) hG F hb hx (Sub.in1 ⟨hr, rfl⟩) I (.cons (show RelV (.ref _) (.ref _) from rfl) .nil) hsp) fun r s' z => ?_)
  obtain ⟨v, H', I', rv, k, rfl, q⟩ := z
  obtain ⟨t, rfl⟩ := rv
  exact ⟨.str k, H', I', ⟨_, rfl⟩, q⟩
theorem truthy_Q {a dx : Addr} {fs : List (Str × V)} {R : Nat → Hp → Prop} (F : FnOk X.prog X.w X.K X.mg X.base CX n f fd ps sp) (hs : PySem.W.findIn X.K (.ref C) "__len__" = some (some (.ref f))) (hn : PySem.W.findIn X.K (.ref C) "__bool__" = some none) (hf : PySem.W.isFn X.K (.ref f) = true) (hb : Binds X.K fd ps []) (hx : Passes CX X E) (sb : Sub X (n + 1) A)
    (I : Inv X pins σ H s) (ha : H a = some (.ins C dx fs)) (hsp : sp [.ref a] H (fun v H' => ∃ n : Nat, v = .int n ∧ (n : Int) < 2 ^ 63 ∧ R n H') E) : wpAny (model X.prog X.w) A (truthy (.ref a)) (fun b s' => ∃ n H', b = (n != 0) ∧ Inv X pins σ H' s' ∧ R n H') X.xe s := by
  obtain ⟨mA, J, _⟩ := ins_get I.hok ha
  obtain ⟨od, J, _⟩ := J.look
  have K0 := I.kIn
  unfold truthy
  refine wpAny_bind (m := callSpecial? (.ref a) (Str.ofString "__bool__")) (wpAny_bind (wpAny_bind (J.type.here ((PySem.W.looks_findIn K0 hn).here (wpAny_pure ?_)))))
  refine wpAny_bind (wpAny_bind (J.type.here ((PySem.W.looks_findIn K0 hs).here ?_)))
  show wpAny _ _ (if (some (Value.ref f)).isNone = true then _ else _) _ _ _
  rw [if_neg (by simp)]
  refine wpAny_bind (wpAny_runValue (codeAny_builtin PySem.entry_len ?_))
  rw [Around.under_plainId PySem.plain_len _]
  unfold Builtin.«len»
  refine wpAny_bind (m := oneArg "len" _) (wpAny_pure ?_)
  refine wpAny_bind (m := callSpecial? (.ref a) (Str.ofString "__len__")) (PySem.W.special_fn K0 J hs (beq_iff_eq.mp hf) (thn (run_in F hb hx sb.in1 I (.cons (show RelV (.ref _) (.ref _) from rfl) .nil) hsp) fun r s' z => ?_))
  obtain ⟨v, H', I', rv, k, rfl, hk, q⟩ := z
  obtain ⟨t, rfl⟩ := rv
  refine wpAny_bind (wpAny_holding (wpAny_pure ?_))
  refine wpAny_bind (wpAny_letGo ?_)
  show wpAny _ _ (if (k : Int) < 0 then _ else _) _ _ _
  rw [if_neg (by omega)]
  show wpAny _ _ (if (k : Int) ≥ 2 ^ 63 then _ else _) _ _ _
  rw [if_neg (by omega)]
  refine wpAny_bind (wpAny_mkInt (wpAny_pure ?_))
  refine wpAny_pure ?_
  refine ⟨k, H', ?_, I'.tok _, q⟩
  show ((k : Int) != 0) = (k != 0)
  by_cases h : k = 0
  · subst h
    rfl
  · have h2 : (k : Int) ≠ 0 := by omega
    rw [bne_iff_ne.mpr h, bne_iff_ne.mpr h2]
/-- bool(o) by its __len__ -/
def rBoolO (C : Addr) (sp : Sp) (E : XK) : List V → Hp → VK → Prop := fun xs H Q => ∃ a dx fs, xs = [.ref a] ∧ H a = some (.ins C dx fs) ∧ sp [.ref a] H (fun v H' => ∃ n : Nat, v = .int n ∧ (n : Int) < 2 ^ 63 ∧ Q (.bl (n != 0)) H') E
theorem call_boolO (F : FnOk X.prog X.w X.K X.mg X.base CX n f fd ps sp) (hs : PySem.W.findIn X.K (.ref C) "__len__" = some (some (.ref f))) (hn : PySem.W.findIn X.K (.ref C) "__bool__" = some none) (hf : PySem.W.isFn X.K (.ref f) = true) (hb : Binds X.K fd ps []) (hx : Passes CX X E) (hr : Room (n + 3) X.A) :
    CallR X (.type "bool") (rBoolO C sp E) := by
  intro pins s σ H xs us Q I r h
  obtain ⟨a, dx, fs, rfl, ha, hsp⟩ := h
  obtain ⟨u, rfl, rx⟩ := vals1 r
  cases rx
  refine callType_codes (T := "bool") (Bi := Builtin.«object.__init__») (Q₁ := fun r s₁ => ∃ b, r = .bool b ∧ EP X pins σ Q (.bool b) s₁) PySem.F.called_bool (PySem.F.typeCall_bool_1 _) PySem.F.entry_object_init ?_ ?_
  · refine codeAny_of_tree ?_
    show wpAny _ X.A.in1.in1 (do checkBuiltinCall "bool.__new__" ⟨[.type "bool", .ref a], []⟩; again (.builtin "bool.__new__" ⟨[.type "bool", .ref a], []⟩)) _ _ s
    refine wpAny_bind (wpAny_of_eq (PySem.F.newCall_bool_1 _) (wpAny_pure ⟨plainId_quiet (by decide +kernel) _, codeAny_builtin PySem.F.entry_bool_new ?_⟩))
    rw [Around.under_plainId (by decide +kernel) _]
    unfold Builtin.«bool.__new__»
    refine wpAny_bind (wpAny_pure ?_)
    refine wpAny_bind (wpAny_of_eq PySem.F.conv_sub_bool ?_)
    refine wpAny_bind (m := someArgs "bool" 0 1 _) (wpAny_pure ?_)
    refine wpAny_bind (wpAny_mono (truthy_Q (R := fun n H' => Q (.bl (n != 0)) H') F hs hn hf hb hx (Sub.in1 (Sub.in1 ⟨hr, rfl⟩)) I ha hsp) (fun b s' z => ?_) fun _ _ y => y)
    obtain ⟨k, H', rfl, I', q⟩ := z
    exact wpAny_pure ⟨_, rfl, .bl (k != 0), H', I', rfl, q⟩
  · rintro obj s₁ ⟨b, rfl, hq⟩
    exact ⟨PySem.typeIs_bool _ _, PySem.F.args_object_init_2 _ _, object_init_meets PySem.F.called_bool.init.lookup PySem.F.called_bool.made (by decide) X.prog X.w X.A.in1 _ s₁ ⟨PySem.typeIs_bool _ _, rfl, hq⟩⟩
end
/-! ### the text of a list of whole numbers -/
def lsT (ks : List Int) : Str := (PyData.list (ks.map PyData.int)).shown
def Sml (ks : List Int) : Prop := ks.length ≤ 1000 ∧ ∀ k ∈ ks, k.natAbs < 10 ^ 12
theorem lsT_short : ∀ {ks : List Int}, (∀ k ∈ ks, k.natAbs < 10 ^ 12) → PyData.leavesShortAll 13 (ks.map PyData.int) = true
  | [], _ => rfl
  | k :: ks, h => by
    show (decide ((PyData.int k).shown.length ≤ 13) && PyData.leavesShortAll 13 (ks.map PyData.int)) = true
    rw [decide_eq_true (PyData.shown_int_le (h k List.mem_cons_self)), lsT_short fun z hz => h z (List.mem_cons_of_mem _ hz)]
    rfl
theorem log2_small {n : Nat} (h : n < 10 ^ 12) : n.log2 ≤ 40 := by
  by_cases z : n = 0
  · subst z
    decide
  · have := Nat.log2_lt z (k := 40)
    have h2 : n < 2 ^ 40 := Nat.lt_of_lt_of_le h (by decide)
    omega
theorem lsT_weight : ∀ {ks : List Int}, (∀ k ∈ ks, k.natAbs < 10 ^ 12) → PyData.weightAll (ks.map PyData.int) ≤ 42 * ks.length
  | [], _ => Nat.zero_le _
  | k :: ks, h => by
    show PyData.weight (.int k) + 1 + PyData.weightAll (ks.map PyData.int) ≤ _
    have h1 := lsT_weight fun z hz => h z (List.mem_cons_of_mem k hz)
    have h2 := log2_small (h k List.mem_cons_self)
    have h3 : PyData.weight (.int k) ≤ 41 := by
      show (if k == 0 then 0 else k.natAbs.log2 + 1) ≤ 41
      split <;> omega
    rw [List.length_cons]
    omega
theorem lsT_len {ks : List Int} (h : Sml ks) : (lsT ks).length ≤ 700000 := by
  have h1 := PyData.shown_le 13 (by decide) (.list (ks.map .int)) (lsT_short h.2)
  have h2 : PyData.weight (.list (ks.map PyData.int)) ≤ 42 * ks.length := lsT_weight h.2
  have := h.1
  unfold lsT
  omega
theorem lsT_show : ∀ {ks : List Int}, (∀ k ∈ ks, k.natAbs < 10 ^ 12) → PyData.showableAll (ks.map PyData.int) = true
  | [], _ => rfl
  | k :: ks, h => by
    show (decide (k.natAbs.log2 < 1920) && PyData.showableAll (ks.map PyData.int)) = true
    have := log2_small (h k List.mem_cons_self)
    rw [decide_eq_true (show k.natAbs.log2 < 1920 by omega), lsT_show fun z hz => h z (List.mem_cons_of_mem _ hz)]
    rfl
theorem lsT_nodict : ∀ ks : List Int, PyData.hasDictAll (ks.map PyData.int) = false
  | [] => rfl
  | k :: ks => by
    show (PyData.hasDict (.int k) || PyData.hasDictAll (ks.map PyData.int)) = false
    rw [lsT_nodict ks]
    rfl
theorem lsT_depth : ∀ ks : List Int, PyData.depthAll (ks.map PyData.int) = 0
  | [] => rfl
  | k :: ks => by
    show max (PyData.depth (.int k)) (PyData.depthAll (ks.map PyData.int)) = 0
    rw [lsT_depth ks]
    rfl
theorem lsT_reads {h : Heap} : ∀ {ks : List Int} {its : List Value}, Vals (ks.map V.int) its → ReadsAll h its (ks.map PyData.int) []
  | [], _, r => by
    cases r
    exact .nil
  | k :: ks, _, r => by
    cases r with
    | cons r1 r2 =>
      obtain ⟨t, rfl⟩ := r1
      exact .cons (as := []) (bs := []) (.int k t) (lsT_reads r2)
section
variable {X : Cx} {pins : List (Addr × Obj)} {σ : L2.St} {H : Hp} {s : Shared} {A : Around}
theorem lsT_read {a : Addr} {ks : List Int} (I : Inv X pins σ H s) (h : SqL X.K H a (ks.map V.int)) : Reads s.heap (.ref a) (.list (ks.map PyData.int)) [a] := by
  obtain ⟨its, rv, pl, _⟩ := I.list h
  obtain ⟨o, h1, h2, n, h3⟩ := pl.isList
  exact .list h1 h2 h3 (lsT_reads rv)
/-- str(xs) -/
def rStrL (K : PySem.W.Frag) : List V → Hp → VK → Prop := fun xs H Q => ∃ (a : Addr) (ks : List Int), xs = [.ref a] ∧ SqL K H a (ks.map V.int) ∧ Sml ks ∧ Q (.str (lsT ks)) H
theorem call_strL {k : Nat} (hG : X.A.guards = some []) (hr : Room k X.A) : CallR X (.type "str") (rStrL X.K) := by
  intro pins s σ H xs us Q I r h
  obtain ⟨a, ks, rfl, hq, sm, q⟩ := h
  obtain ⟨u, rfl, rx⟩ := vals1 r
  cases rx
  have hl := lsT_len sm
  have hu := hr.units
  have hd := lsT_depth ks
  refine PySem.str_of_reads (lsT_read I hq) (lsT_show sm.2) (PyData.noDict_hsm (lsT_nodict ks)) hG (by show _ + (PyData.depthAll _ + 1 + 3) < _; rw [hd]; omega) (fun _ _ z => z) (fun h' u tk hk => ⟨.str (lsT ks), H, I.kept hk, ⟨_, rfl⟩, q⟩) (by
    show (lsT ks).length ≤ _
    rw [sizeLine_eq]
    omega)
theorem s_strL {K : PySem.W.Frag} {L : List Asn} {Q : VK} {a : Addr} {ks : List Int} (hS : Hs L H) (k : HasL L a (ks.map PyData.int)) (sm : Sml ks) (h : Q (.str (lsT ks)) H) : rStrL K [.ref a] H Q := ⟨a, ks, rfl, SqL.of (k.ints hS), sm, h⟩
/-- {xs} in an f-string -/
def tFmtL (K : PySem.W.Frag) (te : TE) : TE := fun σ H Q => te σ H fun x H1 => ∃ (a : Addr) (ks : List Int), x = .ref a ∧ SqL K H1 a (ks.map V.int) ∧ Sml ks ∧ Q (.str (lsT ks)) H1
theorem pe_fmtL {k : Nat} (hG : X.A.guards = some []) (hr : Room k X.A) {e : Expr} {te : TE} {pos : Pos} (he : PE X e te) : PE X (.FormattedValue e (-1) none pos) (tFmtL X.K te) := by
  refine ⟨fun pins s σ H Q I h => ?_⟩
  refine wpAny_FormattedValue_plain (thn (he.run pins s σ H _ I h) fun v s1 hv => ?_)
  obtain ⟨x, H1, I1, r1, a, ks, rfl, hq, sm, q⟩ := hv
  cases r1
  have hl := lsT_len sm
  have hu := hr.units
  have hd := lsT_depth ks
  refine PySem.formatField_of_reads (lsT_read I1 hq) (lsT_show sm.2) (PyData.noDict_hsm (lsT_nodict ks)) hG (by show _ + (PyData.depthAll _ + 1 + 2) < _; rw [hd]; omega) (fun _ _ z => z) (fun h' u tk hk => ⟨.str (lsT ks), H1, I1.kept hk, ⟨_, rfl⟩, q⟩) (by
    show (lsT ks).length ≤ _
    rw [sizeLine_eq]
    omega)
end
section
theorem law_callG {P : Program} {w : World} {K : PySem.W.Frag} {mg mb : Str → Option Value} {CX : CXT} {k : Nat} {fa a : Addr} {fd : FuncData} {x : Str} {sp : Sp} {s₁ : Shared} {vs : List Value} {ns : List Int}
    (KX : K.In s₁.heap) (hns : s₁.heap.Ns mainGlobals mg) (hb : s₁.heap.Ns builtinsNs mb) (hbb : ∀ x : Str, x ≠ "__name__" → mb x = bootBuiltins x) (hlim : s₁.heap.NoLimit) (hg : s₁.gens = #[])
    (ha : s₁.heap.get? a = some { cls := .type "list", data := .seq vs.toArray }) (hi : IntsAre vs ns) (hl : ns.length ≤ sizeLine) (hr : Room k callerA)
    (F : ∀ base : Heap, K.In base → base.Ns mainGlobals mg → FnG P w K mg base CX k fa fd [x] sp) (hbind : ∀ (s : Shared) (u : Value), BindsTo s fd ⟨[u], []⟩ [(x, u)])
    (hsp : ∀ H : Hp, Only H → SqL K H a (ns.map V.int) → sp [.ref a] H (fun v _ => v = .bl true) fun _ _ _ => False)
    (hCX : ∀ H e s', CX [] H s₁ (fun _ _ _ => False) e s' → False) :
    codeAny (model P w) callerA (.call (.ref fa) ⟨[.ref a], []⟩) (fun r s' => r = .ok (.ret (.bool true)) ∧ OldK s₁.heap s'.heap ∧ s'.os = s₁.os ∧ AllBare s'.gens) s₁ := by
  have rv := vals_ints hi
  have lenV := hi.length
  -- from an abstract heap in which nothing but the script may be tracked
  have core : ∀ H : Hp, Only H → SqL K H a (ns.map V.int) → HOk P w H s₁.heap → (∀ b, H b ≠ none → b = a) → (H a ≠ none → K.lookup a = none) →
      codeAny (model P w) callerA (.call (.ref fa) ⟨[.ref a], []⟩) (fun r s' => r = .ok (.ret (.bool true)) ∧ OldK s₁.heap s'.heap ∧ s'.os = s₁.os ∧ AllBare s'.gens) s₁ := by
    intro H hO hS hok hA hK
    have base_of : ∀ {b : Addr} {o : Obj}, s₁.heap.get? b = some o → H b = none → (hidT s₁.heap H).get? b = some o := fun e n => hidT_get e n
    have noA : ∀ {b : Addr} {o : Obj} {es : Array DictEntry} {ep : Nat}, s₁.heap.get? b = some o → o.data = .dict es ep → H b = none := fun {b o es ep} e d => by
      cases q : H b with
      | none => rfl
      | some u =>
        have e' : b = a := hA b (by rw [q]; simp)
        subst e'
        rw [ha] at e; cases e
        have d' : Data.seq vs.toArray _ = Data.dict es ep := d
        cases d'
    have nsK : ∀ {b : Addr} {m : Str → Option Value}, s₁.heap.Ns b m → (hidT s₁.heap H).Ns b m := fun {b m} ⟨o, es, ep, e, d, r⟩ => ⟨o, es, ep, base_of e (noA e d), d, r⟩
    have hKb : K.In (hidT s₁.heap H) := fun b o e => base_of (KX b o e) (by
      cases q : H b with
      | none => rfl
      | some u =>
        have e' : b = a := hA b (by rw [q]; simp)
        subst e'
        rw [hK (by rw [q]; simp)] at e; cases e)
    have hM : Mod K mg (hidT s₁.heap H) := ⟨hKb, nsK hns, ⟨mb, nsK hb, hbb⟩, let ⟨mc, h1, h2⟩ := hlim; ⟨mc, nsK h1, h2⟩⟩
    have e0 : Env0 P w K mg (hidT s₁.heap H) callerA [] s₁ H := ⟨rfl, hM, fun b o e => of_hidT e, Nat.le_of_eq (hidT_size _ _), trivial, fun b hb => absurd (show b ∈ ([] : List Addr) from hb) (by simp), hok, .of_eq hg⟩
    refine codeAny_mono ((F _ hKb (nsK hns)).run callerA [] s₁ H ⟨[.ref a], []⟩ [.ref a] [.ref a] _ _ rfl hr e0 (hbind s₁ (.ref a)) (.cons rfl .nil) (hsp H hO hS)) fun r s' h => ?_
    cases r with
    | error e => exact (hCX H e s' h).elim
    | ok fl =>
      cases fl with
      | next => exact False.elim h
      | brk => exact False.elim h
      | cont => exact False.elim h
      | ret u =>
        obtain ⟨v, H', os, bare, un, hok', r', q⟩ := h
        have q' : v = .bl true := q
        subst q'
        obtain rfl : u = Value.bool true := r'
        refine ⟨rfl, OldK.of_keep fun b o e => ?_, os, bare⟩
        cases q : H b with
        | none => exact un.keep b o e q (by intro z; exact absurd (show b ∈ ([] : List Addr) from z) (by simp)) (by simp)
        | some u =>
          rcases hO b with z | ⟨ob, xs, z⟩
          · rw [q] at z; cases z
          · have z2 := un.frzs b ob _ z
            obtain ⟨e1, _⟩ := hok b _ z
            obtain ⟨e2, _⟩ := hok' b _ z2
            rw [e] at e1; cases e1
            exact e2
  cases hk : K.lookup a with
  | some o =>
    -- the script is one of the module's own objects
    have e := KX a o hk
    rw [ha] at e
    cases e
    refine core (fun _ => none) (fun _ => .inl rfl) (.inr ⟨_, vs.toArray, _, hk, rfl, rfl, rfl, by rw [List.size_toArray, lenV]; exact hl, by simpa using rv⟩) (fun b u z => by have z' : (none : Option HO) = some u := z; cases z') (fun b z => absurd rfl z) fun z => absurd rfl z
  | none =>
    refine core (fun b => if b = a then some (.frz { cls := .type "list", data := .seq vs.toArray } (.lst (ns.map V.int))) else none) (fun b => ?_) (.inl (.inr ⟨{ cls := .type "list", data := .seq vs.toArray }, if_pos rfl⟩)) (fun b u z => ?_) (fun b z => ?_) fun _ => hk
    · by_cases hb : b = a
      · exact .inr ⟨_, _, if_pos hb⟩
      · exact .inl (if_neg hb)
    · by_cases hb : b = a
      · have z' := (if_pos hb).symm.trans z
        cases z'
        subst hb
        exact ⟨ha, by rw [List.length_map]; exact hl, vs, _, rv, ha⟩
      · have z' := (if_neg hb).symm.trans z
        cases z'
    · by_cases hb : b = a
      · exact hb
      · exact absurd (if_neg hb) z
theorem walk_ofG {l : PySem.W.OpenLaw} {n k : Nat} {q : Program} {loose : List Str} {XP : (Str → Option Value) → Heap → Prop} {YP : World → Heap → Prop} {d : DefRec} {K : Params → PySem.W.Frag} {CX : World → CXT} {sp : World → Sp} {x : Str}
    (hn : l.most = some n) (hn2 : n ≤ sizeLine) (hdf : d.params.defaults = []) (hr : Room k callerA)
    (hY : ∀ (w : World) (h : Heap), YP w h → (K w.params).In h)
    (F : ∀ (w : World) (mg : Str → Option Value) (fa : Addr) (h : Heap), (K w.params).In h → h.Ns mainGlobals mg → mg d.name = some (.ref fa) →
      ∃ fd : FuncData, (∀ (s : Shared) (u : Value), BindsTo s fd ⟨[u], []⟩ [(x, u)]) ∧
        ∀ base : Heap, (K w.params).In base → base.Ns mainGlobals mg → FnG l.prog w (K w.params) mg base (CX w) k fa fd [x] (sp w))
    (hsp : ∀ (w : World) (H : Hp) (a : Addr) (ns : List Int), ns.length ≤ n → Only H → SqL (K w.params) H a (ns.map V.int) → sp w [.ref a] H (fun v _ => v = .bl true) fun _ _ _ => False)
    (hCX : ∀ (w : World) (H : Hp) (s : Shared) (e : Value) (s' : Shared), CX w [] H s (fun _ _ _ => False) e s' → False) :
    PySem.W.WalkO q loose XP YP l.row.toRowW d [] (fun f vs => PySem.call f vs) := by
  refine Att.attach_call hn hdf fun w s₀ s₁ mg mb fa o pm cd doc a vs ns G Y ho hd hcd hmg hobj hints hlen hg => ?_
  have KX := hY w _ Y
  obtain ⟨fd, hb, hF⟩ := F w mg fa _ KX G.T.g hmg
  exact law_callG KX G.T.g G.T.b G.T.builtins G.T.nolimit hg hobj hints (Nat.le_trans hlen hn2) hr hF hb (fun H hO hS => hsp w H a ns hlen hO hS) fun H e s' => hCX w H s₁ e s'
end
end Lt
/-! tactics: rd a step, go steps, hp an object of the heap -/
local macro_rules | `(tactic| walk_at "ne") => `(tactic| first
  | assumption
  | (apply Ne.symm; assumption)
  | exact L2.ne_of_none (by assumption) (by assumption)
  | exact Ne.symm (L2.ne_of_none (by assumption) (by assumption)))
local macro_rules | `(tactic| walk_at "hp") => `(tactic| first
  | assumption
  | exact L2.upd_same
  | exact L2.SqL.of L2.upd_same
  | exact L2.SqT.of L2.upd_same
  | exact L2.SqL.of (by assumption)
  | exact L2.SqT.of (by assumption)
  | exact Lt.ne_upd (by walk_at "ne") (by assumption)
  | exact Lt.ne_upd (by walk_at "ne") L2.upd_same)
local macro_rules | `(tactic| walk_at "ic") => `(tactic| first
  | assumption
  | exact ⟨by decide, by decide, by decide⟩
  | exact ⟨by decide, by decide⟩
  | exact Or.inl ⟨by decide, by decide⟩
  | exact Or.inr ⟨by decide, by decide⟩
  | exact Or.inl ⟨by omega, by omega⟩
  | exact Or.inr ⟨by omega, by omega⟩
  | (show (0 : Int) < _; first | decide | omega)
  | exact ⟨by omega, by omega⟩)
local macro_rules | `(tactic| walk_at "sz") => `(tactic| exact Lt.sz (by first | decide | (simp only [List.length_cons, List.length_nil]; decide)))
local macro_rules | `(tactic| walk_at "ty") => `(tactic| first
  | exact L2.TyX.base (L2.TyOf.int _)
  | exact L2.TyX.base (L2.TyOf.bl _)
  | exact L2.TyX.base (L2.TyOf.str _)
  | exact L2.TyX.base L2.TyOf.non
  | exact L2.TyX.base (L2.TyOf.lst (by walk_at "hp"))
  | exact L2.TyX.base (L2.TyOf.tup (by walk_at "hp"))
  | exact L2.TyX.base (L2.TyOf.dK (by walk_at "hp"))
  | exact L2.TyX.base (L2.TyOf.dT (by walk_at "hp")))
local macro_rules | `(tactic| walk_at "isi") => `(tactic| first
  | exact Lt.isi_ii | exact Lt.isi_ib | exact Lt.isi_bi | exact Lt.isi_bb | exact Lt.isi_is | exact Lt.isi_si | exact Lt.isi_ss | exact Lt.isi_ll | exact Lt.isi_tt | exact Lt.isi_lt | exact Lt.isi_tl | exact Lt.isi_ni | exact Lt.isi_dd)
local macro_rules | `(tactic| walk_at "om") => `(tactic| first
  | omega
  | (simp only [List.length_append, List.length_cons, List.length_nil, List.length_map, List.length_replicate] at *; omega))
local macro_rules | `(tactic| walk_at "rd") => `(tactic| first
  | (with_reducible refine Lt.k_seq ?_)
  | (with_reducible refine Lt.k_next ?_)
  | (with_reducible refine Lt.k_c ?_)
  | (with_reducible refine Lt.k_op ?_)
  | (with_reducible refine Lt.k_I0 ?_)
  | (with_reducible refine Lt.k_ifS ?_)
  | (with_reducible refine Lt.k_tst ?_)
  | (with_reducible refine Lt.k_tB ?_)
  | (with_reducible refine Lt.k_asg ?_)
  | (with_reducible refine Lt.k_gName ?_)
  | (with_reducible refine Lt.k_gSub ?_)
  | (with_reducible refine Lt.k_cb ?_)
  | (with_reducible refine Lt.k_cons ?_)
  | (with_reducible refine Lt.k_nil ?_)
  | (with_reducible refine Lt.k_call ?_)
  | (with_reducible refine Lt.k_ret ?_)
  | (with_reducible refine Lt.k_drop ?_)
  | (with_reducible refine Lt.k_lst ?_)
  | (with_reducible refine Lt.k_tup ?_)
  | (with_reducible refine Lt.k_and ?_)
  | (with_reducible refine Lt.k_or ?_)
  | (with_reducible refine Lt.k_not ?_)
  | (with_reducible refine Lt.k_andV ?_)
  | (with_reducible refine Lt.k_orV ?_)
  | (with_reducible refine Lt.k_notV ?_)
  | (with_reducible refine Lt.k_ifE ?_)
  | (with_reducible refine Lt.k_augS ?_)
  | (with_reducible refine Lt.k_ipI ?_)
  | (with_reducible refine Lt.k_un ?_)
  | (with_reducible refine Lt.k_U ?_)
  | (with_reducible refine Lt.k_sl ?_)
  | (with_reducible refine Lt.k_noPart ?_)
  | (with_reducible refine Lt.k_part ?_)
  | (with_reducible refine Lt.k_for ?_)
  | (with_reducible refine Lt.k_iL ?_)
  | (with_reducible refine Lt.k_iT ?_)
  | (with_reducible refine Lt.k_iR1 ?_)
  | (with_reducible refine Lt.k_iR2 ?_)
  | (with_reducible refine Lt.k_lc ?_)
  | (with_reducible refine Lt.k_yes ?_)
  | (with_reducible refine Lt.k_bm ?_)
  | (with_reducible refine Lt.k_bm0 ?_)
  | ((with_reducible refine' Lt.k_tyL ?h1 ?_); (case h1 => walk_at "hp"))
  | ((with_reducible refine' Lt.k_app ?h1 ?h2 ?_); (case h1 => walk_at "hp"); (case h2 => walk_at "om"))
  | (with_reducible refine Lt.k_lstRg ?_)
  | (with_reducible refine Lt.k_rg1 ?_)
  | (with_reducible refine Lt.k_rg2 ?_)
  | ((with_reducible refine' Lt.k_tup1 ?h1 ?h2 ?_); (case h1 => walk_at "hp"); (case h2 => exact rfl))
  | (with_reducible refine Lt.k_rfl ?_)
  | (with_reducible refine Lt.k_ite0 ?_)
  | (with_reducible refine Lt.k_ite1 ?_)
  | (with_reducible refine Lt.k_iteN1 ?_)
  | (with_reducible refine Lt.k_iteN0 ?_)
  | (with_reducible refine Lt.k_gCons ?_)
  | (with_reducible refine Lt.k_gNil ?_)
  | ((with_reducible refine' Lt.k_var ?h1 ?_); (case h1 => exact rfl))
  | ((with_reducible refine' Lt.k_I ?hc ?_); (case hc => walk_at "ic"))
  | ((with_reducible refine' Lt.k_isi ?ht ?hk ?_); (case ht => walk_at "ty"); (case hk => walk_at "isi"))
  | (with_reducible refine Lt.k_chain ?_)
  | (with_reducible refine Lt.k_callN ?_)
  | ((with_reducible refine' Lt.k_aug ?h1 ?_); (case h1 => exact rfl))
  | ((with_reducible refine' Lt.k_eqV ?h1 ?_); (case h1 => exact rfl))
  | ((with_reducible refine' Lt.k_neV ?h1 ?_); (case h1 => exact rfl))
  | ((with_reducible refine' Lt.k_ixL ?h1 ?h2 ?_); (case h1 => walk_at "hp"); (case h2 => first | exact rfl | exact L2.atI_last _ _))
  | ((with_reducible refine' Lt.k_ixT ?h1 ?h2 ?_); (case h1 => walk_at "hp"); (case h2 => exact rfl))
  | ((with_reducible refine' Lt.k_getL ?h1 ?h0 ?h2 ?_); (case h1 => walk_at "hp"); (case h0 => decide); (case h2 => exact rfl))
  | ((with_reducible refine' Lt.k_setL ?h1 ?h2 ?_); (case h1 => walk_at "hp"); (case h2 => first | exact rfl | exact Lt.ixN_last _ _))
  | ((with_reducible refine' Lt.k_wipe ?h1 ?_); (case h1 => exact rfl))
  | ((with_reducible refine' Lt.k_lenL ?h1 ?_); (case h1 => walk_at "hp"))
  | ((with_reducible refine' Lt.k_lenT ?h1 ?_); (case h1 => walk_at "hp"))
  | ((with_reducible refine' ⟨_, _, rfl, Or.inl ?h1, ?_⟩); (case h1 => walk_at "hp"))
  | ((with_reducible refine' ⟨_, _, rfl, Or.inr ?h1, ?_⟩); (case h1 => walk_at "hp"))
  | (with_reducible refine ⟨_, rfl, ?_⟩)
  | (with_reducible refine ⟨_, _, rfl, rfl, ?_⟩)
  | (with_reducible refine Lt.k_iteE ?_)
  | (with_reducible refine Lt.k_iteNE ?_)
  | ((with_reducible refine' Lt.k_iteT ?h1 ?_); (case h1 => first | decide | (simp; done)))
  | ((with_reducible refine' Lt.k_iteF ?h1 ?_); (case h1 => first | decide | (simp; done)))
  | ((with_reducible refine' Lt.k_iteD1 ?h1 ?_); (case h1 => walk_at "om"))
  | ((with_reducible refine' Lt.k_iteD2 ?h1 ?_); (case h1 => walk_at "om"))
  | ((with_reducible refine' Lt.k_iteNN ?h1 ?_); (case h1 => (intro z; cases z)))
  | ((with_reducible refine' Lt.k_iteD2 ?h1 ?_); (case h1 => (intro z; cases z)))
  | refine ⟨rfl, rfl, ?_⟩)
local macro_rules | `(tactic| walk_at "go") => `(tactic| ((repeat walk_at "rd"); try dsimp only))
local macro_rules | `(tactic| walk_at "gn") => `(tactic| first
  | (with_reducible refine Lt.gn0 ?_)
  | (with_reducible refine Lt.gn1 ?_)
  | (with_reducible refine Lt.gn2 ?_)
  | (with_reducible refine Lt.gn3 ?_)
  | (with_reducible refine Lt.gn4 ?_)
  | (with_reducible refine Lt.gn5 ?_)
  | (with_reducible refine Lt.gn6 ?_)
  | (with_reducible refine Lt.gn7 ?_)
  | (with_reducible refine Lt.gn8 ?_)
  | (with_reducible refine Lt.gn9 ?_)
  | (with_reducible refine Lt.gn10 ?_)
  | (with_reducible refine Lt.gn11 ?_)
  | (with_reducible refine Lt.gn12 ?_)
  | (with_reducible refine Lt.gn13 ?_)
  | (with_reducible refine Lt.gn14 ?_)
  | (with_reducible refine Lt.gn15 ?_)
  | (with_reducible refine Lt.gn16 ?_)
  | (with_reducible refine Lt.gn17 ?_)
  | (with_reducible refine Lt.gn18 ?_)
  | (with_reducible refine Lt.gn19 ?_)
  | (with_reducible refine Lt.gn20 ?_)
  | (with_reducible refine Lt.gn21 ?_)
  | (with_reducible refine Lt.gn22 ?_)
  | (with_reducible refine Lt.gn23 ?_)
  | (with_reducible refine Lt.gn24 ?_)
  | (with_reducible refine Lt.gn25 ?_)
  | (with_reducible refine Lt.gn26 ?_)
  | (with_reducible refine Lt.gn27 ?_)
  | (with_reducible refine Lt.gn28 ?_)
  | (with_reducible refine Lt.gn29 ?_)
  | (with_reducible refine Lt.gn30 ?_)
  | (with_reducible refine Lt.gn31 ?_)
  | (with_reducible refine Lt.gn32 ?_)
  | (with_reducible refine Lt.gn33 ?_)
  | (with_reducible refine Lt.gn34 ?_)
  | (with_reducible refine Lt.gn35 ?_))
local macro_rules | `(tactic| walk_at "ag") => `(tactic| first
  | (with_reducible refine Lt.ag0 ?_)
  | (with_reducible refine Lt.ag1 ?_)
  | (with_reducible refine Lt.ag2 ?_)
  | (with_reducible refine Lt.ag3 ?_)
  | (with_reducible refine Lt.ag4 ?_)
  | (with_reducible refine Lt.ag5 ?_)
  | (with_reducible refine Lt.ag6 ?_)
  | (with_reducible refine Lt.ag7 ?_)
  | (with_reducible refine Lt.ag8 ?_)
  | (with_reducible refine Lt.ag9 ?_)
  | (with_reducible refine Lt.ag10 ?_)
  | (with_reducible refine Lt.ag11 ?_)
  | (with_reducible refine Lt.ag12 ?_)
  | (with_reducible refine Lt.ag13 ?_)
  | (with_reducible refine Lt.ag14 ?_)
  | (with_reducible refine Lt.ag15 ?_)
  | (with_reducible refine Lt.ag16 ?_)
  | (with_reducible refine Lt.ag17 ?_)
  | (with_reducible refine Lt.ag18 ?_)
  | (with_reducible refine Lt.ag19 ?_)
  | (with_reducible refine Lt.ag20 ?_)
  | (with_reducible refine Lt.ag21 ?_)
  | (with_reducible refine Lt.ag22 ?_)
  | (with_reducible refine Lt.ag23 ?_)
  | (with_reducible refine Lt.ag24 ?_)
  | (with_reducible refine Lt.ag25 ?_)
  | (with_reducible refine Lt.ag26 ?_)
  | (with_reducible refine Lt.ag27 ?_)
  | (with_reducible refine Lt.ag28 ?_)
  | (with_reducible refine Lt.ag29 ?_)
  | (with_reducible refine Lt.ag30 ?_)
  | (with_reducible refine Lt.ag31 ?_)
  | (with_reducible refine Lt.ag32 ?_)
  | (with_reducible refine Lt.ag33 ?_)
  | (with_reducible refine Lt.ag34 ?_)
  | (with_reducible refine Lt.ag35 ?_))
local macro_rules | `(tactic| walk_at "rd0") => `(tactic| first
  | (with_reducible refine Lt.k_seq ?_)
  | (with_reducible refine Lt.k_next ?_)
  | (with_reducible refine Lt.k_c ?_)
  | (with_reducible refine Lt.k_op ?_)
  | (with_reducible refine Lt.k_I0 ?_)
  | (with_reducible refine Lt.k_ifS ?_)
  | (with_reducible refine Lt.k_tst ?_)
  | (with_reducible refine Lt.k_tB ?_)
  | (with_reducible refine Lt.k_asg ?_)
  | ((with_reducible refine Lt.isGN ?_); walk_at "gn")
  | (with_reducible refine Lt.k_gName ?_)
  | (with_reducible refine Lt.k_gSub ?_)
  | (with_reducible refine Lt.k_cb ?_)
  | (with_reducible refine Lt.k_cons ?_)
  | (with_reducible refine Lt.k_nil ?_)
  | (with_reducible refine Lt.k_call ?_)
  | (with_reducible refine Lt.k_ret ?_)
  | (with_reducible refine Lt.k_drop ?_)
  | (with_reducible refine Lt.k_and ?_)
  | (with_reducible refine Lt.k_or ?_)
  | (with_reducible refine Lt.k_not ?_)
  | (with_reducible refine Lt.k_andV ?_)
  | (with_reducible refine Lt.k_orV ?_)
  | (with_reducible refine Lt.k_notV ?_)
  | (with_reducible refine Lt.k_ifE ?_)
  | (with_reducible refine Lt.k_augS ?_)
  | (with_reducible refine Lt.k_ipI ?_)
  | (with_reducible refine Lt.k_un ?_)
  | (with_reducible refine Lt.k_U ?_)
  | (with_reducible refine Lt.k_sl ?_)
  | (with_reducible refine Lt.k_noPart ?_)
  | (with_reducible refine Lt.k_part ?_)
  | (with_reducible refine Lt.k_for ?_)
  | (with_reducible refine Lt.k_iL ?_)
  | (with_reducible refine Lt.k_iT ?_)
  | (with_reducible refine Lt.k_iR1 ?_)
  | (with_reducible refine Lt.k_iR2 ?_)
  | (with_reducible refine Lt.k_lc ?_)
  | (with_reducible refine Lt.k_yes ?_)
  | (with_reducible refine Lt.k_bm ?_)
  | (with_reducible refine Lt.k_bm0 ?_)
  | (with_reducible refine Lt.k_rg1 ?_)
  | (with_reducible refine Lt.k_rg2 ?_)
  | (with_reducible refine Lt.k_rfl ?_)
  | (with_reducible refine Lt.k_gCons ?_)
  | (with_reducible refine Lt.k_gNil ?_)
  | ((with_reducible refine' Lt.k_var ?h1 ?_); (case h1 => exact rfl))
  | ((with_reducible refine' Lt.k_I ?hc ?_); (case hc => walk_at "ic"))
  | ((with_reducible refine' Lt.k_isi ?ht ?hk ?_); (case ht => walk_at "ty"); (case hk => walk_at "isi"))
  | (with_reducible refine Lt.k_chain ?_)
  | (with_reducible refine Lt.k_callN ?_)
  | ((with_reducible refine Lt.isAG ?_); walk_at "ag")
  | ((with_reducible refine' Lt.k_aug ?h1 ?_); (case h1 => exact rfl))
  | ((with_reducible refine' Lt.k_eqV ?h1 ?_); (case h1 => exact rfl))
  | ((with_reducible refine' Lt.k_neV ?h1 ?_); (case h1 => exact rfl))
  | ((with_reducible refine' Lt.k_wipe ?h1 ?_); (case h1 => exact rfl)))
local macro_rules | `(tactic| walk_at "rdz") => `(tactic| first
  | (with_reducible refine Lt.k_ite0 ?_)
  | (with_reducible refine Lt.k_ite1 ?_)
  | (with_reducible refine Lt.k_iteN1 ?_)
  | (with_reducible refine Lt.k_iteN0 ?_)
  | (with_reducible refine ⟨_, rfl, ?_⟩)
  | (with_reducible refine ⟨_, _, rfl, rfl, ?_⟩)
  | (with_reducible refine Lt.k_iteE ?_)
  | (with_reducible refine Lt.k_iteNE ?_)
  | ((with_reducible refine' Lt.k_iteT ?h1 ?_); (case h1 => first | decide | (simp; done)))
  | ((with_reducible refine' Lt.k_iteF ?h1 ?_); (case h1 => first | decide | (simp; done)))
  | ((with_reducible refine' Lt.k_iteD1 ?h1 ?_); (case h1 => walk_at "om"))
  | ((with_reducible refine' Lt.k_iteD2 ?h1 ?_); (case h1 => walk_at "om"))
  | ((with_reducible refine' Lt.k_iteNN ?h1 ?_); (case h1 => (intro z; cases z)))
  | ((with_reducible refine' Lt.k_iteD2 ?h1 ?_); (case h1 => (intro z; cases z)))
  | refine ⟨rfl, rfl, ?_⟩)
local macro_rules | `(tactic| walk_at "pk") => `(tactic| first
  | (with_reducible exact Lt.Pick.here)
  | (with_reducible exact Lt.Pick.there Lt.Pick.here)
  | (with_reducible exact Lt.Pick.there (Lt.Pick.there Lt.Pick.here))
  | (with_reducible exact Lt.Pick.there (Lt.Pick.there (Lt.Pick.there Lt.Pick.here)))
  | (with_reducible exact Lt.Pick.there (Lt.Pick.there (Lt.Pick.there (Lt.Pick.there Lt.Pick.here))))
  | (with_reducible exact Lt.Pick.there (Lt.Pick.there (Lt.Pick.there (Lt.Pick.there (Lt.Pick.there Lt.Pick.here)))))
  | (with_reducible exact Lt.Pick.there (Lt.Pick.there (Lt.Pick.there (Lt.Pick.there (Lt.Pick.there (Lt.Pick.there Lt.Pick.here))))))
  | (with_reducible exact Lt.Pick.there (Lt.Pick.there (Lt.Pick.there (Lt.Pick.there (Lt.Pick.there (Lt.Pick.there (Lt.Pick.there Lt.Pick.here)))))))
  | (with_reducible exact Lt.Pick.there (Lt.Pick.there (Lt.Pick.there (Lt.Pick.there (Lt.Pick.there (Lt.Pick.there (Lt.Pick.there (Lt.Pick.there Lt.Pick.here))))))))
  | (with_reducible exact Lt.Pick.there (Lt.Pick.there (Lt.Pick.there (Lt.Pick.there (Lt.Pick.there (Lt.Pick.there (Lt.Pick.there (Lt.Pick.there (Lt.Pick.there Lt.Pick.here)))))))))
  | (with_reducible exact Lt.Pick.there (Lt.Pick.there (Lt.Pick.there (Lt.Pick.there (Lt.Pick.there (Lt.Pick.there (Lt.Pick.there (Lt.Pick.there (Lt.Pick.there (Lt.Pick.there Lt.Pick.here))))))))))
  | (with_reducible exact Lt.Pick.there (Lt.Pick.there (Lt.Pick.there (Lt.Pick.there (Lt.Pick.there (Lt.Pick.there (Lt.Pick.there (Lt.Pick.there (Lt.Pick.there (Lt.Pick.there (Lt.Pick.there Lt.Pick.here)))))))))))
  | (with_reducible exact Lt.Pick.there (Lt.Pick.there (Lt.Pick.there (Lt.Pick.there (Lt.Pick.there (Lt.Pick.there (Lt.Pick.there (Lt.Pick.there (Lt.Pick.there (Lt.Pick.there (Lt.Pick.there (Lt.Pick.there Lt.Pick.here))))))))))))
  | (with_reducible exact Lt.Pick.there (Lt.Pick.there (Lt.Pick.there (Lt.Pick.there (Lt.Pick.there (Lt.Pick.there (Lt.Pick.there (Lt.Pick.there (Lt.Pick.there (Lt.Pick.there (Lt.Pick.there (Lt.Pick.there (Lt.Pick.there Lt.Pick.here)))))))))))))
  | (with_reducible exact Lt.Pick.there (Lt.Pick.there (Lt.Pick.there (Lt.Pick.there (Lt.Pick.there (Lt.Pick.there (Lt.Pick.there (Lt.Pick.there (Lt.Pick.there (Lt.Pick.there (Lt.Pick.there (Lt.Pick.there (Lt.Pick.there (Lt.Pick.there Lt.Pick.here))))))))))))))
  | (with_reducible exact Lt.Pick.there (Lt.Pick.there (Lt.Pick.there (Lt.Pick.there (Lt.Pick.there (Lt.Pick.there (Lt.Pick.there (Lt.Pick.there (Lt.Pick.there (Lt.Pick.there (Lt.Pick.there (Lt.Pick.there (Lt.Pick.there (Lt.Pick.there (Lt.Pick.there Lt.Pick.here)))))))))))))))
  | (with_reducible exact Lt.Pick.there (Lt.Pick.there (Lt.Pick.there (Lt.Pick.there (Lt.Pick.there (Lt.Pick.there (Lt.Pick.there (Lt.Pick.there (Lt.Pick.there (Lt.Pick.there (Lt.Pick.there (Lt.Pick.there (Lt.Pick.there (Lt.Pick.there (Lt.Pick.there (Lt.Pick.there Lt.Pick.here))))))))))))))))
  | (with_reducible exact Lt.Pick.there (Lt.Pick.there (Lt.Pick.there (Lt.Pick.there (Lt.Pick.there (Lt.Pick.there (Lt.Pick.there (Lt.Pick.there (Lt.Pick.there (Lt.Pick.there (Lt.Pick.there (Lt.Pick.there (Lt.Pick.there (Lt.Pick.there (Lt.Pick.there (Lt.Pick.there (Lt.Pick.there Lt.Pick.here)))))))))))))))))
  | (with_reducible exact Lt.Pick.there (Lt.Pick.there (Lt.Pick.there (Lt.Pick.there (Lt.Pick.there (Lt.Pick.there (Lt.Pick.there (Lt.Pick.there (Lt.Pick.there (Lt.Pick.there (Lt.Pick.there (Lt.Pick.there (Lt.Pick.there (Lt.Pick.there (Lt.Pick.there (Lt.Pick.there (Lt.Pick.there (Lt.Pick.there Lt.Pick.here))))))))))))))))))
  | (with_reducible exact Lt.Pick.there (Lt.Pick.there (Lt.Pick.there (Lt.Pick.there (Lt.Pick.there (Lt.Pick.there (Lt.Pick.there (Lt.Pick.there (Lt.Pick.there (Lt.Pick.there (Lt.Pick.there (Lt.Pick.there (Lt.Pick.there (Lt.Pick.there (Lt.Pick.there (Lt.Pick.there (Lt.Pick.there (Lt.Pick.there (Lt.Pick.there Lt.Pick.here)))))))))))))))))))
  | (with_reducible exact Lt.Pick.there (Lt.Pick.there (Lt.Pick.there (Lt.Pick.there (Lt.Pick.there (Lt.Pick.there (Lt.Pick.there (Lt.Pick.there (Lt.Pick.there (Lt.Pick.there (Lt.Pick.there (Lt.Pick.there (Lt.Pick.there (Lt.Pick.there (Lt.Pick.there (Lt.Pick.there (Lt.Pick.there (Lt.Pick.there (Lt.Pick.there (Lt.Pick.there Lt.Pick.here))))))))))))))))))))
  | (with_reducible exact Lt.Pick.there (Lt.Pick.there (Lt.Pick.there (Lt.Pick.there (Lt.Pick.there (Lt.Pick.there (Lt.Pick.there (Lt.Pick.there (Lt.Pick.there (Lt.Pick.there (Lt.Pick.there (Lt.Pick.there (Lt.Pick.there (Lt.Pick.there (Lt.Pick.there (Lt.Pick.there (Lt.Pick.there (Lt.Pick.there (Lt.Pick.there (Lt.Pick.there (Lt.Pick.there Lt.Pick.here)))))))))))))))))))))
  | (with_reducible exact Lt.Pick.there (Lt.Pick.there (Lt.Pick.there (Lt.Pick.there (Lt.Pick.there (Lt.Pick.there (Lt.Pick.there (Lt.Pick.there (Lt.Pick.there (Lt.Pick.there (Lt.Pick.there (Lt.Pick.there (Lt.Pick.there (Lt.Pick.there (Lt.Pick.there (Lt.Pick.there (Lt.Pick.there (Lt.Pick.there (Lt.Pick.there (Lt.Pick.there (Lt.Pick.there (Lt.Pick.there Lt.Pick.here))))))))))))))))))))))
  | (with_reducible exact Lt.Pick.there (Lt.Pick.there (Lt.Pick.there (Lt.Pick.there (Lt.Pick.there (Lt.Pick.there (Lt.Pick.there (Lt.Pick.there (Lt.Pick.there (Lt.Pick.there (Lt.Pick.there (Lt.Pick.there (Lt.Pick.there (Lt.Pick.there (Lt.Pick.there (Lt.Pick.there (Lt.Pick.there (Lt.Pick.there (Lt.Pick.there (Lt.Pick.there (Lt.Pick.there (Lt.Pick.there (Lt.Pick.there Lt.Pick.here)))))))))))))))))))))))
  | (with_reducible exact Lt.Pick.there (Lt.Pick.there (Lt.Pick.there (Lt.Pick.there (Lt.Pick.there (Lt.Pick.there (Lt.Pick.there (Lt.Pick.there (Lt.Pick.there (Lt.Pick.there (Lt.Pick.there (Lt.Pick.there (Lt.Pick.there (Lt.Pick.there (Lt.Pick.there (Lt.Pick.there (Lt.Pick.there (Lt.Pick.there (Lt.Pick.there (Lt.Pick.there (Lt.Pick.there (Lt.Pick.there (Lt.Pick.there (Lt.Pick.there Lt.Pick.here))))))))))))))))))))))))
  | (with_reducible exact Lt.Pick.there (Lt.Pick.there (Lt.Pick.there (Lt.Pick.there (Lt.Pick.there (Lt.Pick.there (Lt.Pick.there (Lt.Pick.there (Lt.Pick.there (Lt.Pick.there (Lt.Pick.there (Lt.Pick.there (Lt.Pick.there (Lt.Pick.there (Lt.Pick.there (Lt.Pick.there (Lt.Pick.there (Lt.Pick.there (Lt.Pick.there (Lt.Pick.there (Lt.Pick.there (Lt.Pick.there (Lt.Pick.there (Lt.Pick.there (Lt.Pick.there Lt.Pick.here)))))))))))))))))))))))))
  | (with_reducible exact Lt.Pick.there (Lt.Pick.there (Lt.Pick.there (Lt.Pick.there (Lt.Pick.there (Lt.Pick.there (Lt.Pick.there (Lt.Pick.there (Lt.Pick.there (Lt.Pick.there (Lt.Pick.there (Lt.Pick.there (Lt.Pick.there (Lt.Pick.there (Lt.Pick.there (Lt.Pick.there (Lt.Pick.there (Lt.Pick.there (Lt.Pick.there (Lt.Pick.there (Lt.Pick.there (Lt.Pick.there (Lt.Pick.there (Lt.Pick.there (Lt.Pick.there (Lt.Pick.there Lt.Pick.here))))))))))))))))))))))))))
  | (with_reducible exact Lt.Pick.there (Lt.Pick.there (Lt.Pick.there (Lt.Pick.there (Lt.Pick.there (Lt.Pick.there (Lt.Pick.there (Lt.Pick.there (Lt.Pick.there (Lt.Pick.there (Lt.Pick.there (Lt.Pick.there (Lt.Pick.there (Lt.Pick.there (Lt.Pick.there (Lt.Pick.there (Lt.Pick.there (Lt.Pick.there (Lt.Pick.there (Lt.Pick.there (Lt.Pick.there (Lt.Pick.there (Lt.Pick.there (Lt.Pick.there (Lt.Pick.there (Lt.Pick.there (Lt.Pick.there Lt.Pick.here))))))))))))))))))))))))))))
local macro_rules | `(tactic| walk_at "hl") => `(tactic| first
  | (with_reducible exact Lt.HasL.l (by walk_at "pk"))
  | (with_reducible exact Lt.HasL.v (by walk_at "pk")))
local macro_rules | `(tactic| walk_at "dv1") => `(tactic| first
  | (with_reducible exact Lt.Dv.int _)
  | (with_reducible exact Lt.Dv.str _)
  | (with_reducible exact Lt.Dv.non)
  | (with_reducible exact Lt.Dv.bl _)
  | (with_reducible exact Lt.Hs.dvAt (by assumption) (by walk_at "pk"))
  | assumption)
local macro_rules | `(tactic| walk_at "dv") => `(tactic| first
  | (with_reducible exact Lt.DvAll.nil)
  | ((with_reducible refine' Lt.DvAll.cons ?h1 ?h2); (case h1 => walk_at "dv1"); (case h2 => walk_at "dv"))
  | walk_at "dv1")
local macro_rules | `(tactic| walk_at "selt") => `(tactic| first
  | (with_reducible exact Lt.Sel.refl)
  | ((with_reducible refine' Lt.Sel.drop ?h1); walk_at "selt"))
local macro_rules | `(tactic| walk_at "sel") => `(tactic| first
  | (with_reducible exact Lt.Sel.nil)
  | ((with_reducible refine' Lt.Sel.cons ?h1 ?h2); (case h1 => walk_at "pk"); (case h2 => walk_at "sel"))
  | walk_at "selt")
local macro_rules | `(tactic| walk_at "pk0") => `(tactic| first
  | (exact Lt.Pick.here)
  | (exact Lt.Pick.there Lt.Pick.here)
  | (exact Lt.Pick.there (Lt.Pick.there Lt.Pick.here))
  | (exact Lt.Pick.there (Lt.Pick.there (Lt.Pick.there Lt.Pick.here)))
  | (exact Lt.Pick.there (Lt.Pick.there (Lt.Pick.there (Lt.Pick.there Lt.Pick.here)))))
local macro_rules | `(tactic| walk_at "sel0") => `(tactic| first
  | (with_reducible exact Lt.Sel.nil)
  | ((with_reducible refine' Lt.Sel.cons ?h1 ?h2); (case h1 => first | walk_at "pk" | walk_at "pk0"); (case h2 => walk_at "sel0"))
  | walk_at "selt")
local macro_rules | `(tactic| walk_at "pm0") => `(tactic| (rename Lt.Hs _ _ => hS0; exact Lt.Sel.go (by walk_at "sel0") hS0))
local macro_rules | `(tactic| walk_at "pm") => `(tactic| (rename Lt.Hs _ _ => hS0; exact Lt.Sel.go (by walk_at "sel") hS0))
local macro_rules | `(tactic| walk_at "ln") => `(tactic| first
  | omega
  | (simp only [List.length_append, List.length_cons, List.length_nil, List.length_map, List.length_replicate, List.length_reverse, List.length_take, List.length_drop, Lt.rgI_len]; omega)
  | (simp only [List.length_append, List.length_cons, List.length_nil, List.length_map, List.length_replicate, List.length_reverse, List.length_take, List.length_drop, Lt.rgI_len] at *; omega))
local macro_rules | `(tactic| walk_at "sl") => `(tactic| first
  | omega
  | (simp only [PySem.Str.length_append]; omega))
local macro_rules | `(tactic| walk_at "rs") => `(tactic| first
  | walk_at "rd0"
  | ((rename Lt.Hs _ _ => hS0); (with_reducible refine' Lt.s_catM hS0 ?k1 ?k2 ?hl ?_); (case k1 => walk_at "hl"); (case k2 => walk_at "hl"); (case hl => walk_at "ln"); intro _ _ _; clear hS0)
  | ((rename Lt.Hs _ _ => hS0); (with_reducible refine' Lt.s_slTake hS0 ?k ?hn ?_); (case k => walk_at "hl"); (case hn => omega); intro _ _ _; clear hS0)
  | ((rename Lt.Hs _ _ => hS0); (with_reducible refine' Lt.s_slDrop hS0 ?k ?hn ?_); (case k => walk_at "hl"); (case hn => omega); intro _ _ _; clear hS0)
  | ((rename Lt.Hs _ _ => hS0); (with_reducible refine' Lt.s_revM hS0 ?k ?_); (case k => walk_at "hl"); intro _ _ _; clear hS0)
  | ((rename Lt.Hs _ _ => hS0); (with_reducible refine' Lt.s_step hS0 ?k ?_); (case k => walk_at "hl"); intro _ _ _; clear hS0)
  | ((rename Lt.Hs _ _ => hS0); (with_reducible refine' Lt.s_appI hS0 ?k ?hl ?_); (case k => walk_at "pk"); (case hl => walk_at "ln"); intro _ _; clear hS0)
  | ((rename Lt.Hs _ _ => hS0); (with_reducible refine' Lt.s_app hS0 ?k ?hv ?hl ?_); (case k => walk_at "pk"); (case hv => walk_at "dv1"); (case hl => walk_at "ln"); intro _ _; clear hS0)
  | ((rename Lt.Hs _ _ => hS0); (with_reducible refine' Lt.s_appC hS0 ?k ?hl ?_); (case k => walk_at "pk"); (case hl => walk_at "ln"); intro _ _; clear hS0)
  | ((rename Lt.Hs _ _ => hS0); (with_reducible refine' Lt.s_cat hS0 ?k1 ?k2 ?hl ?_); (case k1 => walk_at "hl"); (case k2 => walk_at "hl"); (case hl => walk_at "ln"); intro _ _ _; clear hS0)
  | ((rename Lt.Hs _ _ => hS0); (with_reducible refine' Lt.s_slL hS0 ?k ?_); (case k => walk_at "hl"); intro _ _ _; clear hS0)
  | ((rename Lt.Hs _ _ => hS0); (with_reducible refine' Lt.s_rev hS0 ?k ?_); (case k => walk_at "hl"); intro _ _ _; clear hS0)
  | ((rename Lt.Hs _ _ => hS0); (with_reducible refine' Lt.s_clear hS0 ?k ?_); (case k => walk_at "pk"); intro _ _; clear hS0)
  | ((rename Lt.Hs _ _ => hS0); (with_reducible refine' Lt.s_reverse hS0 ?k ?_); (case k => walk_at "pk"); intro _ _; clear hS0)
  | ((rename Lt.Hs _ _ => hS0); (with_reducible refine' Lt.s_extend hS0 ?k ?k2 ?hl ?_); (case k => walk_at "pk"); (case k2 => walk_at "hl"); (case hl => walk_at "ln"); intro _ _; clear hS0)
  | ((rename Lt.Hs _ _ => hS0); (with_reducible refine' Lt.s_sorted hS0 ?k ?_); (case k => walk_at "hl"); intro _ _ _; clear hS0)
  | ((rename Lt.Hs _ _ => hS0); (with_reducible refine' Lt.s_listOf hS0 ?k ?_); (case k => walk_at "hl"); intro _ _ _; clear hS0)
  | ((rename Lt.Hs _ _ => hS0); (with_reducible refine' Lt.s_listOfT hS0 ?k ?_); (case k => walk_at "pk"); intro _ _ _; clear hS0)
  | ((rename Lt.Hs _ _ => hS0); (with_reducible refine' Lt.s_tupOf hS0 ?k ?_); (case k => walk_at "hl"); intro _ _ _; clear hS0)
  | ((rename Lt.Hs _ _ => hS0); (with_reducible refine' Lt.s_lst hS0 ?hd ?hl ?_); (case hd => walk_at "dv"); (case hl => walk_at "ln"); intro _ _ _; clear hS0)
  | ((rename Lt.Hs _ _ => hS0); (with_reducible refine' Lt.s_tup hS0 ?hd ?hl ?_); (case hd => walk_at "dv"); (case hl => walk_at "ln"); intro _ _ _; clear hS0)
  | ((rename Lt.Hs _ _ => hS0); (with_reducible refine' Lt.s_lstC hS0 ?hl ?_); (case hl => walk_at "ln"); intro _ _ _; clear hS0)
  | ((rename Lt.Hs _ _ => hS0); (with_reducible refine' Lt.s_tupC hS0 ?hl ?_); (case hl => walk_at "ln"); intro _ _ _; clear hS0)
  | ((rename Lt.Hs _ _ => hS0); (with_reducible refine' Lt.s_make hS0  ?_); intro _ _ _; clear hS0)
  | ((with_reducible refine' Lt.s_lenM ?hS ?k ?_); (case hS => assumption); (case k => walk_at "hl"))
  | ((with_reducible refine' Lt.s_len ?hS ?k ?_); (case hS => assumption); (case k => walk_at "hl"))
  | ((with_reducible refine' Lt.s_lenT ?hS ?k ?_); (case hS => assumption); (case k => walk_at "pk"))
  | ((with_reducible refine' Lt.s_sum ?hS ?k ?_); (case hS => assumption); (case k => walk_at "hl"))
  | ((with_reducible refine' Lt.s_all ?hS ?k ?_); (case hS => assumption); (case k => walk_at "hl"))
  | ((with_reducible refine' Lt.s_any ?hS ?k ?_); (case hS => assumption); (case k => walk_at "hl"))
  | ((with_reducible refine' Lt.s_inI ?hS ?k ?_); (case hS => assumption); (case k => walk_at "hl"))
  | ((with_reducible refine' Lt.s_ninI ?hS ?k ?_); (case hS => assumption); (case k => walk_at "hl"))
  | ((with_reducible refine' Lt.s_ixT ?hS ?k ?e ?_); (case hS => assumption); (case k => walk_at "pk"); (case e => exact rfl))
  | ((with_reducible refine' Lt.s_ixTc ?hS ?k ?e ?_); (case hS => assumption); (case k => walk_at "pk"); (case e => exact rfl))
  | ((with_reducible refine' Lt.s_ixLc ?hS ?k ?e ?_); (case hS => assumption); (case k => walk_at "pk"); (case e => exact rfl))
  | ((with_reducible refine' Lt.s_ixL ?hS ?k ?e ?_); (case hS => assumption); (case k => walk_at "hl"); (case e => first | exact rfl | exact L2.atI_last _ _))
  | ((with_reducible refine' Lt.s_gTup ?hS ?k ?hn ?_); (case hS => assumption); (case k => walk_at "pk"); (case hn => exact rfl))
  | ((with_reducible refine' Lt.s_gTupC ?hS ?k ?hn ?_); (case hS => assumption); (case k => walk_at "pk"); (case hn => exact rfl))
  | ((with_reducible refine' Lt.s_fld ?hS ?k ?c ?n ?e ?_); (case hS => assumption); (case k => walk_at "pk"); (case c => assumption); (case n => assumption); (case e => exact rfl))
  | ((rename Lt.Hs _ _ => hS0); (with_reducible refine' Lt.s_fldSet hS0 ?k ?c ?n ?hl ?_); (case k => walk_at "pk"); (case c => assumption); (case n => assumption); (case hl => walk_at "ln"); intro _ _; clear hS0)
  | ((rename Lt.Hs _ _ => hS0); (with_reducible refine' Lt.s_setL hS0 ?k ?hv ?e ?_); (case k => walk_at "pk"); (case hv => walk_at "dv1"); (case e => first | exact rfl | exact Lt.ixN_last _ _); intro _ _; clear hS0)
  | (with_reducible refine Lt.k_tOst ?_)
  | (with_reducible refine Lt.k_tCfn ?_)
  | (with_reducible refine Lt.k_tMkO ?_)
  | ((rename Lt.Hs _ _ => hS0); (with_reducible refine' Lt.s_mkE hS0 ?hv ?hl ?h2 ?_); (case hv => walk_at "dv"); (case hl => rfl); (case h2 => walk_at "ln"); intro _ _ _ _; clear hS0)
  | ((with_reducible refine' Lt.k_addStr ?hl ?_); (case hl => walk_at "sl"))
  | ((with_reducible refine' Lt.k_log ?hl ?_); (case hl => omega))
  | ((with_reducible refine' Lt.k_szL ?hl ?_); (case hl => walk_at "sl"))
  | (with_reducible refine Lt.k_tCKw ?_)
  | ((rename Lt.Hs _ _ => hS0); (with_reducible refine' Lt.s_sortRev hS0 ?k ?_); (case k => walk_at "hl"); intro _ _ _ _ _ _; clear hS0)
  | (with_reducible refine Lt.k_dget ?_)
  | (with_reducible refine Lt.k_dput ?_)
  | (with_reducible refine Lt.k_dpop1 ?_)
  | ((with_reducible refine' Lt.s_isD ?hS ?k ?_); (case hS => assumption); (case k => walk_at "pk"))
  | (with_reducible refine Lt.k_iS ?_)
  | (with_reducible refine Lt.k_m1 ?_)
  | (with_reducible refine Lt.k_isS ?_)
  | (with_reducible refine Lt.k_tXf ?_)
  | ((with_reducible refine' Lt.s_xf ?hS ?k ?e ?_); (case hS => assumption); (case k => walk_at "pk"); (case e => rfl))
  | ((with_reducible refine' Lt.s_isX ?ec ?ki ?hS ?k ?_); (case ec => assumption); (case ki => assumption); (case hS => assumption); (case k => walk_at "pk"))
  | ((with_reducible refine' Lt.s_isXT ?ec ?ki ?hS ?k ?_); (case ec => assumption); (case ki => assumption); (case hS => assumption); (case k => walk_at "pk"))
  | (with_reducible refine Lt.k_tMethT ?_)
  | (with_reducible refine Lt.k_tMethKT ?_)
  | (with_reducible refine Lt.k_sMakeT ?_)
  | (with_reducible refine Lt.k_tCallSD ?_)
  | ((with_reducible refine' Lt.k_eqTo ?_))
  | (with_reducible refine Lt.s_min2 ?_)
  | (with_reducible refine Lt.s_max2 ?_)
  | (with_reducible refine Lt.k_sLst ?_)
  | (with_reducible refine Lt.k_tFld ?_)
  | (with_reducible refine Lt.k_sLstC ?_)
  | (with_reducible refine Lt.k_sTup ?_)
  | (with_reducible refine Lt.k_sTupC ?_)
  | (with_reducible refine Lt.k_sLstRg ?_)
  | (with_reducible refine Lt.k_sRevL ?_)
  | (with_reducible refine Lt.k_sStep ?_)
  | (with_reducible refine Lt.k_lc2 ?_)
  | (with_reducible refine Zr.k_sZip ?_)
  | (with_reducible refine Lt.k_items ?_)
  | (with_reducible refine Lt.k_sMake ?_)
  | (with_reducible refine Lt.k_sFldS ?_)
  | (with_reducible refine Lt.k_tMeth ?_)
  | (with_reducible refine Lt.hold_int ?_)
  | (with_reducible refine Lt.hold_str ?_)
  | (with_reducible refine Lt.hold_bl ?_)
  | (with_reducible refine Lt.hold_non ?_)
  | (with_reducible refine Lt.holds_nil ?_)
  | (with_reducible refine Lt.holds_int ?_)
  | (with_reducible refine Lt.holds_str ?_)
  | (with_reducible refine Lt.holds_bl ?_)
  | (with_reducible refine Lt.holds_non ?_)
  | ((with_reducible refine Lt.hold_tup ?_); intro _ _)
  | ((with_reducible refine Lt.holds_tup ?_); intro _ _)
  | ((with_reducible refine' Lt.s_tyL ?hS ?k ?_); (case hS => assumption); (case k => walk_at "hl"))
  | ((with_reducible refine' Lt.s_tyLc ?hS ?k ?_); (case hS => assumption); (case k => walk_at "pk"))
  | ((with_reducible refine' Lt.s_methSp ?hS ?k ?hm ?_); (case hS => assumption); (case k => walk_at "pk"); (case hm => decide))
  | ((with_reducible refine' Lt.k_isi ?ht ?hk ?_); (case ht => first | exact Lt.tyx_L (by assumption) (by walk_at "hl") | exact Lt.tyx_T (by assumption) (by walk_at "pk") | exact Lt.tyx_Lc (by assumption) (by walk_at "pk")); (case hk => walk_at "isi"))
  | ((rename Lt.Hs _ _ => hS0); (with_reducible refine' Lt.s_lstRgA hS0 ?hr ?_); (case hr => exact ⟨by omega, by omega, by omega, by omega, by omega⟩); intro _ _ _; clear hS0)
  | ((rename Lt.Hs _ _ => hS0); (with_reducible refine' Lt.s_lstRg hS0 ?hr ?_); (case hr => exact ⟨by omega, by omega, by omega, by omega, by omega⟩); intro _ _ _; clear hS0)
  | ((with_reducible refine' Lt.s_eqI ?hS ?k1 ?k2 ?_); (case hS => assumption); (case k1 => walk_at "hl"); (case k2 => walk_at "hl"))
  | ((with_reducible refine' Lt.s_neI ?hS ?k1 ?k2 ?_); (case hS => assumption); (case k1 => walk_at "hl"); (case k2 => walk_at "hl"))
  | ((with_reducible refine' Lt.s_eqP ?hS ?k1 ?k2 ?_); (case hS => assumption); (case k1 => walk_at "hl"); (case k2 => walk_at "hl"))
  | ((with_reducible refine' Lt.s_neP ?hS ?k1 ?k2 ?_); (case hS => assumption); (case k1 => walk_at "hl"); (case k2 => walk_at "hl"))
  | ((with_reducible refine' Lt.s_inS ?hS ?k ?_); (case hS => assumption); (case k => walk_at "hl"))
  | ((with_reducible refine' Lt.s_ninS ?hS ?k ?_); (case hS => assumption); (case k => walk_at "hl"))
  | ((with_reducible refine' Lt.k_iteD1 ?h1 ?_); (case h1 => with_reducible rfl))
  | ((with_reducible refine' Lt.k_iteNY ?h1 ?_); (case h1 => with_reducible rfl))
  | ((rename Lt.Hs _ _ => hS0); (with_reducible refine' Lt.s_sortSetA hS0 ?k ?hl ?_); (case k => exact Or.inl (by walk_at "hl")); (case hl => walk_at "ln"); intro _ _ _; clear hS0)
  | walk_at "rdz"
  | ((with_reducible refine' Lt.k_bnd ?h1 ?h2 ?_); (case h1 => omega); (case h2 => omega)))
local macro_rules | `(tactic| walk_at "fr") => `(tactic| (rename Lt.Hs _ _ => hS0; exact Lt.Pick.go (by walk_at "pk") hS0))
local macro_rules | `(tactic| walk_at "gs") => `(tactic| ((repeat walk_at "rs"); try dsimp only))
/- rules of single parts: each part adds its own to "rq" (the latest is tried first) -/
local macro_rules | `(tactic| walk_at "rq") => `(tactic| fail "no rule of a part")
local macro_rules | `(tactic| walk_at "rp") => `(tactic| first | walk_at "rs" | walk_at "rq")
local macro_rules | `(tactic| walk_at "gp") => `(tactic| ((repeat walk_at "rp"); try dsimp only))
namespace K02
open PySem PySem.Spec PyProof.Rows L2 Lt
def topS (i : Nat) : Stmt := PySem.Challenge.pw_latestow_k02_a_set_of_blocks.main.body.getD i (.Pass ⟨0, 0, 0, 0⟩)
abbrev s_wall : Stmt := topS 0
abbrev N_wall : List Str := ["k"]
theorem sc_wall : FnScope N_wall ["k"] (defScope s_wall) := ⟨rfl, rfl, rfl, by decide +kernel, rfl, by decide +kernel, by decide +kernel⟩
abbrev s_stretches : Stmt := topS 2
abbrev N_stretches : List Str := ["blocks", "out", "block"]
theorem sc_stretches : FnScope N_stretches ["blocks"] (defScope s_stretches) := ⟨rfl, rfl, rfl, by decide +kernel, rfl, by decide +kernel, by decide +kernel⟩
abbrev s_spelled : Stmt := topS 3
abbrev N_spelled : List Str := ["first", "many"]
theorem sc_spelled : FnScope N_spelled ["first", "many"] (defScope s_spelled) := ⟨rfl, rfl, rfl, by decide +kernel, rfl, by decide +kernel, by decide +kernel⟩
abbrev s_Spansx_initx : Stmt := inClass (topS 4) 0
abbrev N_Spansx_initx : List Str := ["self", "blocks"]
theorem sc_Spansx_initx : FnScope N_Spansx_initx ["self", "blocks"] (defScope s_Spansx_initx) := ⟨rfl, rfl, rfl, by decide +kernel, rfl, by decide +kernel, by decide +kernel⟩
abbrev s_Spansx_eqx : Stmt := inClass (topS 4) 1
abbrev N_Spansx_eqx : List Str := ["self", "other"]
theorem sc_Spansx_eqx : FnScope N_Spansx_eqx ["self", "other"] (defScope s_Spansx_eqx) := ⟨rfl, rfl, rfl, by decide +kernel, rfl, by decide +kernel, by decide +kernel⟩
abbrev s_Spansx_lenx : Stmt := inClass (topS 4) 2
abbrev N_Spansx_lenx : List Str := ["self"]
theorem sc_Spansx_lenx : FnScope N_Spansx_lenx ["self"] (defScope s_Spansx_lenx) := ⟨rfl, rfl, rfl, by decide +kernel, rfl, by decide +kernel, by decide +kernel⟩
abbrev s_Spansx_reprx : Stmt := inClass (topS 4) 3
abbrev N_Spansx_reprx : List Str := ["self"]
theorem sc_Spansx_reprx : FnScope N_Spansx_reprx ["self"] (defScope s_Spansx_reprx) := ⟨rfl, rfl, rfl, by decide +kernel, rfl, by decide +kernel, by decide +kernel⟩
abbrev s_Spansx_strx : Stmt := inClass (topS 4) 4
abbrev N_Spansx_strx : List Str := ["self", "first", "many"]
theorem sc_Spansx_strx : FnScope N_Spansx_strx ["self"] (defScope s_Spansx_strx) := ⟨rfl, rfl, rfl, by decide +kernel, rfl, by decide +kernel, by decide +kernel⟩
abbrev s_Spans_blocks : Stmt := inClass (topS 4) 5
abbrev N_Spans_blocks : List Str := ["self"]
theorem sc_Spans_blocks : FnScope N_Spans_blocks ["self"] (defScope s_Spans_blocks) := ⟨rfl, rfl, rfl, by decide +kernel, rfl, by decide +kernel, by decide +kernel⟩
abbrev s_Spans_runs : Stmt := inClass (topS 4) 6
abbrev N_Spans_runs : List Str := ["self"]
theorem sc_Spans_runs : FnScope N_Spans_runs ["self"] (defScope s_Spans_runs) := ⟨rfl, rfl, rfl, by decide +kernel, rfl, by decide +kernel, by decide +kernel⟩
abbrev s_Spans_has : Stmt := inClass (topS 4) 7
abbrev N_Spans_has : List Str := ["self", "block"]
theorem sc_Spans_has : FnScope N_Spans_has ["self", "block"] (defScope s_Spans_has) := ⟨rfl, rfl, rfl, by decide +kernel, rfl, by decide +kernel, by decide +kernel⟩
abbrev s_Spans_more : Stmt := inClass (topS 4) 8
abbrev N_Spans_more : List Str := ["self", "blocks"]
theorem sc_Spans_more : FnScope N_Spans_more ["self", "blocks"] (defScope s_Spans_more) := ⟨rfl, rfl, rfl, by decide +kernel, rfl, by decide +kernel, by decide +kernel⟩
abbrev s_Spans_less : Stmt := inClass (topS 4) 9
abbrev N_Spans_less : List Str := ["self", "blocks"]
theorem sc_Spans_less : FnScope N_Spans_less ["self", "blocks"] (defScope s_Spans_less) := ⟨rfl, rfl, rfl, by decide +kernel, rfl, by decide +kernel, by decide +kernel⟩
abbrev s_Spans_pieces : Stmt := inClass (topS 4) 10
abbrev N_Spans_pieces : List Str := ["self", "many"]
theorem sc_Spans_pieces : FnScope N_Spans_pieces ["self", "many"] (defScope s_Spans_pieces) := ⟨rfl, rfl, rfl, by decide +kernel, rfl, by decide +kernel, by decide +kernel⟩
abbrev s_law_bag : Stmt := topS 6
abbrev N_law_bag : List Str := ["_law_script"]
theorem sc_law_bag : FnScope N_law_bag ["_law_script"] (defScope s_law_bag) := ⟨rfl, rfl, rfl, by decide +kernel, rfl, by decide +kernel, by decide +kernel⟩
abbrev s_law_pull : Stmt := topS 7
abbrev N_law_pull : List Str := ["_law_bag_here", "_law_top", "_law_cell", "_law_got"]
theorem sc_law_pull : FnScope N_law_pull ["_law_bag_here", "_law_top"] (defScope s_law_pull) := ⟨rfl, rfl, rfl, by decide +kernel, rfl, by decide +kernel, by decide +kernel⟩
abbrev s_law_int : Stmt := topS 8
abbrev N_law_int : List Str := ["_law_one"]
theorem sc_law_int : FnScope N_law_int ["_law_one"] (defScope s_law_int) := ⟨rfl, rfl, rfl, by decide +kernel, rfl, by decide +kernel, by decide +kernel⟩
abbrev s_law_ints : Stmt := topS 9
abbrev N_law_ints : List Str := ["_law_row", "_law_one"]
theorem sc_law_ints : FnScope N_law_ints ["_law_row"] (defScope s_law_ints) := ⟨rfl, rfl, rfl, by decide +kernel, rfl, by decide +kernel, by decide +kernel⟩
abbrev s_law_rows : Stmt := topS 10
abbrev N_law_rows : List Str := ["_law_told", "_law_size", "_law_row", "_law_one"]
theorem sc_law_rows : FnScope N_law_rows ["_law_told", "_law_size"] (defScope s_law_rows) := ⟨rfl, rfl, rfl, by decide +kernel, rfl, by decide +kernel, by decide +kernel⟩
abbrev s_law_heap : Stmt := topS 11
abbrev N_law_heap : List Str := ["_law_bag_here", "_law_out", "_law_at", "_law_k", "_law_many"]
theorem sc_law_heap : FnScope N_law_heap ["_law_bag_here"] (defScope s_law_heap) := ⟨rfl, rfl, rfl, by decide +kernel, rfl, by decide +kernel, by decide +kernel⟩
abbrev s_law_stretches : Stmt := topS 12
abbrev N_law_stretches : List Str := ["_law_blocks", "_law_out", "_law_block"]
theorem sc_law_stretches : FnScope N_law_stretches ["_law_blocks"] (defScope s_law_stretches) := ⟨rfl, rfl, rfl, by decide +kernel, rfl, by decide +kernel, by decide +kernel⟩
abbrev s_law_spelled : Stmt := topS 13
abbrev N_law_spelled : List Str := ["_law_blocks", "_law_words", "_law_first", "_law_many"]
theorem sc_law_spelled : FnScope N_law_spelled ["_law_blocks"] (defScope s_law_spelled) := ⟨rfl, rfl, rfl, by decide +kernel, rfl, by decide +kernel, by decide +kernel⟩
abbrev s_law_truth : Stmt := topS 14
abbrev N_law_truth : List Str := ["_law_told", "_law_due"]
theorem sc_law_truth : FnScope N_law_truth ["_law_told", "_law_due"] (defScope s_law_truth) := ⟨rfl, rfl, rfl, by decide +kernel, rfl, by decide +kernel, by decide +kernel⟩
abbrev s_law_alike : Stmt := topS 15
abbrev N_law_alike : List Str := ["_law_one", "_law_blocks", "_law_due", "_law_block"]
theorem sc_law_alike : FnScope N_law_alike ["_law_one", "_law_blocks"] (defScope s_law_alike) := ⟨rfl, rfl, rfl, by decide +kernel, rfl, by decide +kernel, by decide +kernel⟩
abbrev s_law : Stmt := topS 16
abbrev N_law : List Str := ["_law_script", "_law_bag_here", "_law_heap_here", "_law_handed", "_law_one", "_law_other", "_law_turned", "_law_extra", "_law_third", "_law_block"]
theorem sc_law : FnScope N_law ["_law_script"] (defScope s_law) := ⟨rfl, rfl, rfl, by decide +kernel, rfl, by decide +kernel, by decide +kernel⟩
structure Txt (K : PySem.W.Frag) (mg : Str → Option Value) where
  f_wall : Addr
  d_wall : FuncData
  F_wall : FunD K "_wall" "_wall" (defArgs s_wall) (defBody s_wall) (defScope s_wall) [] [] f_wall d_wall
  g_wall : mg "_wall" = some (.ref f_wall)
  f_stretches : Addr
  d_stretches : FuncData
  F_stretches : FunD K "stretches" "stretches" (defArgs s_stretches) (defBody s_stretches) (defScope s_stretches) [] [] f_stretches d_stretches
  g_stretches : mg "stretches" = some (.ref f_stretches)
  f_spelled : Addr
  d_spelled : FuncData
  F_spelled : FunD K "spelled" "spelled" (defArgs s_spelled) (defBody s_spelled) (defScope s_spelled) [] [] f_spelled d_spelled
  g_spelled : mg "spelled" = some (.ref f_spelled)
  f_Spansx_initx : Addr
  d_Spansx_initx : FuncData
  e_Spansx_initx : Addr
  ee_Spansx_initx : ∀ H, SqT K H e_Spansx_initx []
  F_Spansx_initx : FunD K "__init__" "Spans.__init__" (defArgs s_Spansx_initx) (defBody s_Spansx_initx) (defScope s_Spansx_initx) [V.ref e_Spansx_initx] [] f_Spansx_initx d_Spansx_initx
  f_Spansx_eqx : Addr
  d_Spansx_eqx : FuncData
  F_Spansx_eqx : FunD K "__eq__" "Spans.__eq__" (defArgs s_Spansx_eqx) (defBody s_Spansx_eqx) (defScope s_Spansx_eqx) [] [] f_Spansx_eqx d_Spansx_eqx
  f_Spansx_lenx : Addr
  d_Spansx_lenx : FuncData
  F_Spansx_lenx : FunD K "__len__" "Spans.__len__" (defArgs s_Spansx_lenx) (defBody s_Spansx_lenx) (defScope s_Spansx_lenx) [] [] f_Spansx_lenx d_Spansx_lenx
  f_Spansx_reprx : Addr
  d_Spansx_reprx : FuncData
  F_Spansx_reprx : FunD K "__repr__" "Spans.__repr__" (defArgs s_Spansx_reprx) (defBody s_Spansx_reprx) (defScope s_Spansx_reprx) [] [] f_Spansx_reprx d_Spansx_reprx
  f_Spansx_strx : Addr
  d_Spansx_strx : FuncData
  F_Spansx_strx : FunD K "__str__" "Spans.__str__" (defArgs s_Spansx_strx) (defBody s_Spansx_strx) (defScope s_Spansx_strx) [] [] f_Spansx_strx d_Spansx_strx
  f_Spans_blocks : Addr
  d_Spans_blocks : FuncData
  F_Spans_blocks : FunD K "blocks" "Spans.blocks" (defArgs s_Spans_blocks) (defBody s_Spans_blocks) (defScope s_Spans_blocks) [] [] f_Spans_blocks d_Spans_blocks
  f_Spans_runs : Addr
  d_Spans_runs : FuncData
  F_Spans_runs : FunD K "runs" "Spans.runs" (defArgs s_Spans_runs) (defBody s_Spans_runs) (defScope s_Spans_runs) [] [] f_Spans_runs d_Spans_runs
  f_Spans_has : Addr
  d_Spans_has : FuncData
  F_Spans_has : FunD K "has" "Spans.has" (defArgs s_Spans_has) (defBody s_Spans_has) (defScope s_Spans_has) [] [] f_Spans_has d_Spans_has
  f_Spans_more : Addr
  d_Spans_more : FuncData
  F_Spans_more : FunD K "more" "Spans.more" (defArgs s_Spans_more) (defBody s_Spans_more) (defScope s_Spans_more) [] [] f_Spans_more d_Spans_more
  f_Spans_less : Addr
  d_Spans_less : FuncData
  F_Spans_less : FunD K "less" "Spans.less" (defArgs s_Spans_less) (defBody s_Spans_less) (defScope s_Spans_less) [] [] f_Spans_less d_Spans_less
  f_Spans_pieces : Addr
  d_Spans_pieces : FuncData
  F_Spans_pieces : FunD K "pieces" "Spans.pieces" (defArgs s_Spans_pieces) (defBody s_Spans_pieces) (defScope s_Spans_pieces) [] [] f_Spans_pieces d_Spans_pieces
  f_law_bag : Addr
  d_law_bag : FuncData
  F_law_bag : FunD K "_law_bag" "_law_bag" (defArgs s_law_bag) (defBody s_law_bag) (defScope s_law_bag) [] [] f_law_bag d_law_bag
  g_law_bag : mg "_law_bag" = some (.ref f_law_bag)
  f_law_pull : Addr
  d_law_pull : FuncData
  F_law_pull : FunD K "_law_pull" "_law_pull" (defArgs s_law_pull) (defBody s_law_pull) (defScope s_law_pull) [] [] f_law_pull d_law_pull
  g_law_pull : mg "_law_pull" = some (.ref f_law_pull)
  f_law_int : Addr
  d_law_int : FuncData
  F_law_int : FunD K "_law_int" "_law_int" (defArgs s_law_int) (defBody s_law_int) (defScope s_law_int) [] [] f_law_int d_law_int
  g_law_int : mg "_law_int" = some (.ref f_law_int)
  f_law_ints : Addr
  d_law_ints : FuncData
  F_law_ints : FunD K "_law_ints" "_law_ints" (defArgs s_law_ints) (defBody s_law_ints) (defScope s_law_ints) [] [] f_law_ints d_law_ints
  g_law_ints : mg "_law_ints" = some (.ref f_law_ints)
  f_law_rows : Addr
  d_law_rows : FuncData
  F_law_rows : FunD K "_law_rows" "_law_rows" (defArgs s_law_rows) (defBody s_law_rows) (defScope s_law_rows) [] [] f_law_rows d_law_rows
  g_law_rows : mg "_law_rows" = some (.ref f_law_rows)
  f_law_heap : Addr
  d_law_heap : FuncData
  F_law_heap : FunD K "_law_heap" "_law_heap" (defArgs s_law_heap) (defBody s_law_heap) (defScope s_law_heap) [] [] f_law_heap d_law_heap
  g_law_heap : mg "_law_heap" = some (.ref f_law_heap)
  f_law_stretches : Addr
  d_law_stretches : FuncData
  F_law_stretches : FunD K "_law_stretches" "_law_stretches" (defArgs s_law_stretches) (defBody s_law_stretches) (defScope s_law_stretches) [] [] f_law_stretches d_law_stretches
  g_law_stretches : mg "_law_stretches" = some (.ref f_law_stretches)
  f_law_spelled : Addr
  d_law_spelled : FuncData
  F_law_spelled : FunD K "_law_spelled" "_law_spelled" (defArgs s_law_spelled) (defBody s_law_spelled) (defScope s_law_spelled) [] [] f_law_spelled d_law_spelled
  g_law_spelled : mg "_law_spelled" = some (.ref f_law_spelled)
  f_law_truth : Addr
  d_law_truth : FuncData
  F_law_truth : FunD K "_law_truth" "_law_truth" (defArgs s_law_truth) (defBody s_law_truth) (defScope s_law_truth) [] [] f_law_truth d_law_truth
  g_law_truth : mg "_law_truth" = some (.ref f_law_truth)
  f_law_alike : Addr
  d_law_alike : FuncData
  F_law_alike : FunD K "_law_alike" "_law_alike" (defArgs s_law_alike) (defBody s_law_alike) (defScope s_law_alike) [] [] f_law_alike d_law_alike
  g_law_alike : mg "_law_alike" = some (.ref f_law_alike)
  f_law : Addr
  d_law : FuncData
  F_law : FunD K "law" "law" (defArgs s_law) (defBody s_law) (defScope s_law) [] [] f_law d_law
  g_law : mg "law" = some (.ref f_law)
  c_Spans : Addr
  g_Spans : mg "Spans" = some (.ref c_Spans)
  cl_Spans : Cls K c_Spans
  mk_Spans : Mk K c_Spans f_Spansx_initx
  m_Spans_eq : Meth K c_Spans "__eq__" f_Spansx_eqx
  m_Spans_len : Meth K c_Spans "__len__" f_Spansx_lenx
  m_Spans_repr : Meth K c_Spans "__repr__" f_Spansx_reprx
  m_Spans_str : Meth K c_Spans "__str__" f_Spansx_strx
  m_Spans_blocks : Meth K c_Spans "blocks" f_Spans_blocks
  m_Spans_runs : Meth K c_Spans "runs" f_Spans_runs
  m_Spans_has : Meth K c_Spans "has" f_Spans_has
  m_Spans_more : Meth K c_Spans "more" f_Spans_more
  m_Spans_less : Meth K c_Spans "less" f_Spans_less
  m_Spans_pieces : Meth K c_Spans "pieces" f_Spans_pieces
  ne_Spans : PySem.W.findIn K (.ref c_Spans) "__ne__" = some (some (.builtin "object.__ne__"))
  nb_Spans : PySem.W.findIn K (.ref c_Spans) "__bool__" = some none
  ow_Spans : OwnC K c_Spans
  n_Spans_inside : NoAttr K c_Spans "inside"
  z_all : mg "all" = none
  z_bool : mg "bool" = none
  z_int : mg "int" = none
  z_isinstance : mg "isinstance" = none
  z_len : mg "len" = none
  z_list : mg "list" = none
  z_max : mg "max" = none
  z_range : mg "range" = none
  z_repr : mg "repr" = none
  z_set : mg "set" = none
  z_sorted : mg "sorted" = none
  z_str : mg "str" = none
  z_tuple : mg "tuple" = none
theorem Txt.b_wall {K : PySem.W.Frag} {mg : Str → Option Value} (T : Txt K mg) : Binds K T.d_wall ["k"] [] := T.F_wall.bindsN fun _ _ _ _ _ _ us hl => match us, hl with | [_], _ => rfl
theorem Txt.k_wall {K : PySem.W.Frag} {mg : Str → Option Value} (T : Txt K mg) : PySem.W.keepIn K (.ref T.f_wall) = true := T.F_wall.kp
theorem Txt.b_stretches {K : PySem.W.Frag} {mg : Str → Option Value} (T : Txt K mg) : Binds K T.d_stretches ["blocks"] [] := T.F_stretches.bindsN fun _ _ _ _ _ _ us hl => match us, hl with | [_], _ => rfl
theorem Txt.k_stretches {K : PySem.W.Frag} {mg : Str → Option Value} (T : Txt K mg) : PySem.W.keepIn K (.ref T.f_stretches) = true := T.F_stretches.kp
theorem Txt.b_spelled {K : PySem.W.Frag} {mg : Str → Option Value} (T : Txt K mg) : Binds K T.d_spelled ["first", "many"] [] := T.F_spelled.bindsN fun _ _ _ _ _ _ us hl => match us, hl with | [_, _], _ => rfl
theorem Txt.k_spelled {K : PySem.W.Frag} {mg : Str → Option Value} (T : Txt K mg) : PySem.W.keepIn K (.ref T.f_spelled) = true := T.F_spelled.kp
theorem Txt.bD2_Spansx_initx {K : PySem.W.Frag} {mg : Str → Option Value} (T : Txt K mg) : ∃ ds, Vals [] ds ∧ Binds K T.d_Spansx_initx ["self", "blocks"] ds := T.F_Spansx_initx.binds1 2 1 (fun z => nomatch z) rfl fun D _ _ _ _ _ _ us its h1 h2 => match us, its, h1, h2 with | [_, _], [_], _, _ => ⟨_, rfl, rfl⟩
theorem Txt.bD1_Spansx_initx {K : PySem.W.Frag} {mg : Str → Option Value} (T : Txt K mg) : ∃ ds, Vals [V.ref T.e_Spansx_initx] ds ∧ Binds K T.d_Spansx_initx ["self", "blocks"] ds := T.F_Spansx_initx.binds1 1 0 (fun z => nomatch z) rfl fun D _ _ _ _ _ _ us its h1 h2 => match us, its, h1, h2 with | [_], [_], _, _ => ⟨_, rfl, rfl⟩
theorem Txt.k_Spansx_initx {K : PySem.W.Frag} {mg : Str → Option Value} (T : Txt K mg) : PySem.W.keepIn K (.ref T.f_Spansx_initx) = true := T.F_Spansx_initx.kp
theorem Txt.b_Spansx_eqx {K : PySem.W.Frag} {mg : Str → Option Value} (T : Txt K mg) : Binds K T.d_Spansx_eqx ["self", "other"] [] := T.F_Spansx_eqx.bindsN fun _ _ _ _ _ _ us hl => match us, hl with | [_, _], _ => rfl
theorem Txt.k_Spansx_eqx {K : PySem.W.Frag} {mg : Str → Option Value} (T : Txt K mg) : PySem.W.keepIn K (.ref T.f_Spansx_eqx) = true := T.F_Spansx_eqx.kp
theorem Txt.b_Spansx_lenx {K : PySem.W.Frag} {mg : Str → Option Value} (T : Txt K mg) : Binds K T.d_Spansx_lenx ["self"] [] := T.F_Spansx_lenx.bindsN fun _ _ _ _ _ _ us hl => match us, hl with | [_], _ => rfl
theorem Txt.k_Spansx_lenx {K : PySem.W.Frag} {mg : Str → Option Value} (T : Txt K mg) : PySem.W.keepIn K (.ref T.f_Spansx_lenx) = true := T.F_Spansx_lenx.kp
theorem Txt.b_Spansx_reprx {K : PySem.W.Frag} {mg : Str → Option Value} (T : Txt K mg) : Binds K T.d_Spansx_reprx ["self"] [] := T.F_Spansx_reprx.bindsN fun _ _ _ _ _ _ us hl => match us, hl with | [_], _ => rfl
theorem Txt.k_Spansx_reprx {K : PySem.W.Frag} {mg : Str → Option Value} (T : Txt K mg) : PySem.W.keepIn K (.ref T.f_Spansx_reprx) = true := T.F_Spansx_reprx.kp
theorem Txt.b_Spansx_strx {K : PySem.W.Frag} {mg : Str → Option Value} (T : Txt K mg) : Binds K T.d_Spansx_strx ["self"] [] := T.F_Spansx_strx.bindsN fun _ _ _ _ _ _ us hl => match us, hl with | [_], _ => rfl
theorem Txt.k_Spansx_strx {K : PySem.W.Frag} {mg : Str → Option Value} (T : Txt K mg) : PySem.W.keepIn K (.ref T.f_Spansx_strx) = true := T.F_Spansx_strx.kp
theorem Txt.b_Spans_blocks {K : PySem.W.Frag} {mg : Str → Option Value} (T : Txt K mg) : Binds K T.d_Spans_blocks ["self"] [] := T.F_Spans_blocks.bindsN fun _ _ _ _ _ _ us hl => match us, hl with | [_], _ => rfl
theorem Txt.k_Spans_blocks {K : PySem.W.Frag} {mg : Str → Option Value} (T : Txt K mg) : PySem.W.keepIn K (.ref T.f_Spans_blocks) = true := T.F_Spans_blocks.kp
theorem Txt.b_Spans_runs {K : PySem.W.Frag} {mg : Str → Option Value} (T : Txt K mg) : Binds K T.d_Spans_runs ["self"] [] := T.F_Spans_runs.bindsN fun _ _ _ _ _ _ us hl => match us, hl with | [_], _ => rfl
theorem Txt.k_Spans_runs {K : PySem.W.Frag} {mg : Str → Option Value} (T : Txt K mg) : PySem.W.keepIn K (.ref T.f_Spans_runs) = true := T.F_Spans_runs.kp
theorem Txt.b_Spans_has {K : PySem.W.Frag} {mg : Str → Option Value} (T : Txt K mg) : Binds K T.d_Spans_has ["self", "block"] [] := T.F_Spans_has.bindsN fun _ _ _ _ _ _ us hl => match us, hl with | [_, _], _ => rfl
theorem Txt.k_Spans_has {K : PySem.W.Frag} {mg : Str → Option Value} (T : Txt K mg) : PySem.W.keepIn K (.ref T.f_Spans_has) = true := T.F_Spans_has.kp
theorem Txt.b_Spans_more {K : PySem.W.Frag} {mg : Str → Option Value} (T : Txt K mg) : Binds K T.d_Spans_more ["self", "blocks"] [] := T.F_Spans_more.bindsN fun _ _ _ _ _ _ us hl => match us, hl with | [_, _], _ => rfl
theorem Txt.k_Spans_more {K : PySem.W.Frag} {mg : Str → Option Value} (T : Txt K mg) : PySem.W.keepIn K (.ref T.f_Spans_more) = true := T.F_Spans_more.kp
theorem Txt.b_Spans_less {K : PySem.W.Frag} {mg : Str → Option Value} (T : Txt K mg) : Binds K T.d_Spans_less ["self", "blocks"] [] := T.F_Spans_less.bindsN fun _ _ _ _ _ _ us hl => match us, hl with | [_, _], _ => rfl
theorem Txt.k_Spans_less {K : PySem.W.Frag} {mg : Str → Option Value} (T : Txt K mg) : PySem.W.keepIn K (.ref T.f_Spans_less) = true := T.F_Spans_less.kp
theorem Txt.b_Spans_pieces {K : PySem.W.Frag} {mg : Str → Option Value} (T : Txt K mg) : Binds K T.d_Spans_pieces ["self", "many"] [] := T.F_Spans_pieces.bindsN fun _ _ _ _ _ _ us hl => match us, hl with | [_, _], _ => rfl
theorem Txt.k_Spans_pieces {K : PySem.W.Frag} {mg : Str → Option Value} (T : Txt K mg) : PySem.W.keepIn K (.ref T.f_Spans_pieces) = true := T.F_Spans_pieces.kp
theorem Txt.b_law_bag {K : PySem.W.Frag} {mg : Str → Option Value} (T : Txt K mg) : Binds K T.d_law_bag ["_law_script"] [] := T.F_law_bag.bindsN fun _ _ _ _ _ _ us hl => match us, hl with | [_], _ => rfl
theorem Txt.k_law_bag {K : PySem.W.Frag} {mg : Str → Option Value} (T : Txt K mg) : PySem.W.keepIn K (.ref T.f_law_bag) = true := T.F_law_bag.kp
theorem Txt.b_law_pull {K : PySem.W.Frag} {mg : Str → Option Value} (T : Txt K mg) : Binds K T.d_law_pull ["_law_bag_here", "_law_top"] [] := T.F_law_pull.bindsN fun _ _ _ _ _ _ us hl => match us, hl with | [_, _], _ => rfl
theorem Txt.k_law_pull {K : PySem.W.Frag} {mg : Str → Option Value} (T : Txt K mg) : PySem.W.keepIn K (.ref T.f_law_pull) = true := T.F_law_pull.kp
theorem Txt.b_law_int {K : PySem.W.Frag} {mg : Str → Option Value} (T : Txt K mg) : Binds K T.d_law_int ["_law_one"] [] := T.F_law_int.bindsN fun _ _ _ _ _ _ us hl => match us, hl with | [_], _ => rfl
theorem Txt.k_law_int {K : PySem.W.Frag} {mg : Str → Option Value} (T : Txt K mg) : PySem.W.keepIn K (.ref T.f_law_int) = true := T.F_law_int.kp
theorem Txt.b_law_ints {K : PySem.W.Frag} {mg : Str → Option Value} (T : Txt K mg) : Binds K T.d_law_ints ["_law_row"] [] := T.F_law_ints.bindsN fun _ _ _ _ _ _ us hl => match us, hl with | [_], _ => rfl
theorem Txt.k_law_ints {K : PySem.W.Frag} {mg : Str → Option Value} (T : Txt K mg) : PySem.W.keepIn K (.ref T.f_law_ints) = true := T.F_law_ints.kp
theorem Txt.b_law_rows {K : PySem.W.Frag} {mg : Str → Option Value} (T : Txt K mg) : Binds K T.d_law_rows ["_law_told", "_law_size"] [] := T.F_law_rows.bindsN fun _ _ _ _ _ _ us hl => match us, hl with | [_, _], _ => rfl
theorem Txt.k_law_rows {K : PySem.W.Frag} {mg : Str → Option Value} (T : Txt K mg) : PySem.W.keepIn K (.ref T.f_law_rows) = true := T.F_law_rows.kp
theorem Txt.b_law_heap {K : PySem.W.Frag} {mg : Str → Option Value} (T : Txt K mg) : Binds K T.d_law_heap ["_law_bag_here"] [] := T.F_law_heap.bindsN fun _ _ _ _ _ _ us hl => match us, hl with | [_], _ => rfl
theorem Txt.k_law_heap {K : PySem.W.Frag} {mg : Str → Option Value} (T : Txt K mg) : PySem.W.keepIn K (.ref T.f_law_heap) = true := T.F_law_heap.kp
theorem Txt.b_law_stretches {K : PySem.W.Frag} {mg : Str → Option Value} (T : Txt K mg) : Binds K T.d_law_stretches ["_law_blocks"] [] := T.F_law_stretches.bindsN fun _ _ _ _ _ _ us hl => match us, hl with | [_], _ => rfl
theorem Txt.k_law_stretches {K : PySem.W.Frag} {mg : Str → Option Value} (T : Txt K mg) : PySem.W.keepIn K (.ref T.f_law_stretches) = true := T.F_law_stretches.kp
theorem Txt.b_law_spelled {K : PySem.W.Frag} {mg : Str → Option Value} (T : Txt K mg) : Binds K T.d_law_spelled ["_law_blocks"] [] := T.F_law_spelled.bindsN fun _ _ _ _ _ _ us hl => match us, hl with | [_], _ => rfl
theorem Txt.k_law_spelled {K : PySem.W.Frag} {mg : Str → Option Value} (T : Txt K mg) : PySem.W.keepIn K (.ref T.f_law_spelled) = true := T.F_law_spelled.kp
theorem Txt.b_law_truth {K : PySem.W.Frag} {mg : Str → Option Value} (T : Txt K mg) : Binds K T.d_law_truth ["_law_told", "_law_due"] [] := T.F_law_truth.bindsN fun _ _ _ _ _ _ us hl => match us, hl with | [_, _], _ => rfl
theorem Txt.k_law_truth {K : PySem.W.Frag} {mg : Str → Option Value} (T : Txt K mg) : PySem.W.keepIn K (.ref T.f_law_truth) = true := T.F_law_truth.kp
theorem Txt.b_law_alike {K : PySem.W.Frag} {mg : Str → Option Value} (T : Txt K mg) : Binds K T.d_law_alike ["_law_one", "_law_blocks"] [] := T.F_law_alike.bindsN fun _ _ _ _ _ _ us hl => match us, hl with | [_, _], _ => rfl
theorem Txt.k_law_alike {K : PySem.W.Frag} {mg : Str → Option Value} (T : Txt K mg) : PySem.W.keepIn K (.ref T.f_law_alike) = true := T.F_law_alike.kp
theorem Txt.b_law {K : PySem.W.Frag} {mg : Str → Option Value} (T : Txt K mg) : Binds K T.d_law ["_law_script"] [] := T.F_law.bindsN fun _ _ _ _ _ _ us hl => match us, hl with | [_], _ => rfl
theorem Txt.k_law {K : PySem.W.Frag} {mg : Str → Option Value} (T : Txt K mg) : PySem.W.keepIn K (.ref T.f_law) = true := T.F_law.kp
def sp_lawT (K : PySem.W.Frag) (ps : List Addr) : Sp := fun vs H Q _ => ∃ (a : Addr) (ns : List Int), vs = [.ref a] ∧ (∀ P ∈ ps, H P = some (.tbl #[])) ∧ SqL K H a (ns.map V.int) ∧ ns.length ≤ 63 ∧ ∀ H', Q (.bl true) H'
def sp_law (K : PySem.W.Frag) : Sp := fun vs H Q _ => ∃ (a : Addr) (ns : List Int), vs = [.ref a] ∧ SqL K H a (ns.map V.int) ∧ ns.length ≤ 63 ∧ ∀ H', Q (.bl true) H'
section
variable {P : Program} {w : World} {K : PySem.W.Frag} {mg : Str → Option Value} {base : Heap}
/-! the bag, a draw, is it a whole number -/
def sp_law_bag (K : PySem.W.Frag) : Sp := fun vs H Q _ => ∃ (a : Addr) (ns : List Int), vs = [.ref a] ∧ SqL K H a (ns.map V.int) ∧ ns.length ≤ 63 ∧ ∀ H' b l, Same H H' → H b = none → H l = none → Bag H' b l ns → Q (.ref b) H'
theorem cut63 (ns : List Int) (h : ns.length ≤ 63) : cutV (ns.map V.int) none (some 63) = ns.map V.int := by
  unfold cutV
  rw [HT.sIx_none, show HT.sIx (ns.map V.int).length (ns.map V.int).length (some 63) = min 63 (ns.map V.int).length from HT.sIx_nat _ _ 63, List.length_map, Nat.min_eq_right h]
  rw [List.drop_zero, Nat.sub_zero, show ns.length = (ns.map V.int).length from (List.length_map ..).symm, List.take_length]
theorem ok_law_bag (T : Txt K mg) : FnOk P w K mg base (L2.CX P w) 1 T.f_law_bag T.d_law_bag ["_law_script"] (sp_law_bag K) := by
  refine T.F_law_bag.ok sc_law_bag (fun vs H Q E h => ?_) (fun cdv A outer s H vs Q E hr h => ?_)
  · obtain ⟨a, ns, rfl, _⟩ := h
    rfl
  · obtain ⟨a, ns, rfl, hS, hl, q⟩ := h
    refine ⟨_, PSs.nox (pss_one (ps_ret (pe_lst (pa_cons (pe_callTy call_list_of (by rfl) T.z_list (by decide +kernel) (pa_cons (pe_slice sl_list (pv 0) po_none (po_some pe_int)) pa_nil)) (pa_cons pe_int (pa_cons pe_int (pa_cons pe_int pa_nil))))))), ?_⟩
    refine ⟨_, rfl, _, rfl, _, _, rfl, hS, fun c nc => ⟨c, _, rfl, .inl (SqL.of upd_same), fun l nl => ⟨(by show 4 ≤ sizeLine; decide), fun b nb => ?_⟩⟩⟩
    rw [cut63 ns hl] at nl nb ⊢
    have nlc : c ≠ l := ne_of_none upd_same nl
    have nbl : l ≠ b := ne_of_none upd_same nb
    have s1 := same_new (o := .lst (ns.map V.int)) nc
    have s2 := Same.new (o := .lst (ns.map V.int)) s1 nl
    refine q _ b l (Same.new s2 nb) (s2.free nb) (s1.free nl) ⟨0, 0, 7, by decide, upd_same, by rw [upd_ne nbl, upd_same], hl⟩
def sp_law_pull : Sp := fun vs H Q _ => ∃ (b l : Addr) (ns : List Int) (top : Int), vs = [.ref b, .int top] ∧ Bag H b l ns ∧ 0 < top ∧ top ≤ 1000000000000000000000000000000 ∧ ∀ H' v, 0 ≤ v → v < top → SameB b H H' → Bag H' b l ns → Q (.int v) H'
theorem ok_law_pull (T : Txt K mg) : FnOk P w K mg base (L2.CX P w) 1 T.f_law_pull T.d_law_pull ["_law_bag_here", "_law_top"] sp_law_pull := by
  refine T.F_law_pull.ok sc_law_pull (fun vs H Q E h => ?_) (fun cdv A outer s H vs Q E hr h => ?_)
  · obtain ⟨b, l, ns, top, rfl, _⟩ := h
    rfl
  · obtain ⟨b, l, ns, top, rfl, hB, h0, hT, q⟩ := h
    have hlb := hB.ne
    obtain ⟨i, r, z, hi, hb, hl, hn⟩ := hB
    refine ⟨_, PSs.nox (pss_cons (ps_if (pt_cmpR op_lt (pe_ix ix_list (pv 0) pe_int (fun _ _ => rfl)) pe_int (nomark _))
 (pss_cons (ps_set (i := 2) sc_law_pull.nd rfl (Or.inl rfl) pe_int)
 (pss_mid (ps_if (pt_cmpR op_lt (pe_ix ix_list (pv 0) pe_int (fun _ _ => rfl)) (pe_callB call_len_seq (by rfl) T.z_len (by decide +kernel) (pa_cons (pe_ix ix_list (pv 0) pe_int (fun _ _ => rfl)) pa_nil)) (nomark _))
 (pss_one (ps_set (i := 2) sc_law_pull.nd rfl (Or.inl rfl) (pe_ix ix_list (pe_ix ix_list (pv 0) pe_int (fun _ _ => rfl)) (pe_ix ix_list (pv 0) pe_int (fun _ _ => rfl)) (fun _ _ => rfl))))
 pss_nil)
 (pss_cons (ps_augL (pv 0) pe_int pe_int iop_add)
 (pss_cons (ps_if (pt_cmpR op_lt (pv 2) (pe_op op_pow pe_int pe_int) (nomark _))
 (pss_cons (ps_asg (pe_op op_mod (pe_op op_add (pe_op op_add (pe_op op_mul (pe_ix ix_list (pv 0) pe_int (fun _ _ => rfl)) pe_int) (pe_op op_mul (pv 2) pe_int)) pe_int) pe_int) (pg_sub (pv 0) pe_int set_list))
 (pss_one (ps_ret (pe_op op_mod (pe_op op_fdiv (pe_ix ix_list (pv 0) pe_int (fun _ _ => rfl)) pe_int) (pv 1)))))
 pss_nil)
 (pss_one (ps_asg (pe_op op_sub (pv 2) (pe_op op_pow pe_int pe_int)) (pg_sub (pv 0) pe_int set_list)))))))
 pss_nil)
 (pss_cons (ps_set (i := 3) sc_law_pull.nd rfl (Or.inl rfl) (pe_op op_mod (pe_ix ix_list (pv 0) pe_int (fun _ _ => rfl)) (pv 1)))
 (pss_cons (ps_asg (pe_op op_fdivW (pe_ix ix_list (pv 0) pe_int (fun _ _ => rfl)) (pv 1)) (pg_sub (pv 0) pe_int set_list))
 (pss_one (ps_ret (pv 3)))))), ?_⟩
    have hT' : CDivW r top := wide_div (b := 100) h0 (by omega) (by decide) (by decide)
    walk_at "go"
    refine k_iteD (fun hr1 => ?_) (fun hr1 => ?_)
    · walk_at "go"
      -- a cell is taken
      refine ⟨fun σ1 H1 => H1 = H ∧ ∃ c : Int, σ1 = [some (.ref b), some (.int top), some (.int c), none], ?_, ?_⟩
      · walk_at "go"
        refine k_iteD (fun h1 => ?_) (fun h1 => ?_)
        · obtain ⟨c, hc⟩ : ∃ c, ns[i.toNat]? = some c := by
            rw [List.length_map] at h1
            exact ⟨ns[i.toNat]'(by omega), List.getElem?_eq_getElem (by omega)⟩
          walk_at "go"
          refine k_ixL (v := .int c) (SqL.of hl) (at_of (j := i.toNat) (by omega) (by rw [List.getElem?_map, hc]; rfl)) ?_
          walk_at "go"
          exact ⟨rfl, c, rfl⟩
        · walk_at "go"
          exact ⟨rfl, 0, rfl⟩
      · rintro σ1 H1 ⟨rfl, c, rfl⟩
        walk_at "go"
        refine k_iteD (fun h2 => ?_) (fun h2 => ?_)
        · walk_at "go"
          have hne : l ≠ b := hlb
          refine q _ _ (Int.emod_nonneg _ (by omega)) (Int.emod_lt_of_pos _ h0) (SameB.upd (SameB.upd (SameB.refl b H1))) (Bag.mk (i := i + 1) (by omega) upd_same ?_ hn)
          rw [upd_ne hne, upd_ne hne]
          exact hl
        · walk_at "go"
          have hne : l ≠ b := hlb
          refine q _ _ (Int.emod_nonneg _ (by omega)) (Int.emod_lt_of_pos _ h0) (SameB.upd (SameB.upd (SameB.upd (SameB.refl b H1)))) (Bag.mk (i := i + 1) (by omega) upd_same ?_ hn)
          rw [upd_ne hne, upd_ne hne, upd_ne hne]
          exact hl
    · walk_at "go"
      refine q _ _ (Int.emod_nonneg _ (by omega)) (Int.emod_lt_of_pos _ h0) (SameB.upd (SameB.refl b H)) (Bag.mk hi upd_same ?_ hn)
      rw [upd_ne hlb]
      exact hl
theorem k_pull {b l : Addr} {ns : List Int} {top : Int} {H : Hp} {Q : VK} {E : XK} (hB : Bag H b l ns) (h0 : 0 < top) (h1 : top ≤ 1000000000000000000000000000000)
    (h : ∀ H' v, 0 ≤ v → v < top → SameB b H H' → Bag H' b l ns → Q (.int v) H') : sp_law_pull ([.ref b, .int top] ++ []) H Q E := ⟨b, l, ns, top, rfl, hB, h0, h1, h⟩
/-- [x, ..][pull(bag, n)]: ints between lo and hi -/
theorem k_menu {K : PySem.W.Frag} {b l : Addr} {ns : List Int} {i : Nat} {n : Int} {xs : List V} {σ : L2.St} {H : Hp} {Q : VK} {E : XK} (lo hi : Int) (hσ : σ[i]? = some (some (.ref b))) (hB : Bag H b l ns) (hn : n = (xs.length : Int)) (h0 : 0 < n) (hz : xs.length ≤ 1000)
    (hP : ∀ x ∈ xs, ∃ t, x = V.int t ∧ lo ≤ t ∧ t ≤ hi) (h : ∀ H' t, lo ≤ t → t ≤ hi → SameB b H H' → Bag H' b l ns → Q (.int t) H') :
    xs.length ≤ sizeLine ∧ ∀ p, H p = none → tCall sp_law_pull [] E (tCons (tVar i) (tCons (tC (.int n)) tNil)) σ (upd H p (.lst xs)) fun y H2 => rIxL K (.ref p) y H2 Q := by
  refine ⟨sz hz, fun p np => ⟨.ref b, hσ, ?_⟩⟩
  show sp_law_pull ([.ref b, .int n] ++ []) (upd H p (.lst xs)) (fun y H2 => rIxL K (.ref p) y H2 Q) E
  refine k_pull (hB.keep (same_new np)) h0 (by omega) fun H2 v v0 v1 b2 hB2 => ?_
  obtain ⟨t, e1, t0, t1⟩ := pull_pick lo hi v0 v1 hn hP
  have npb : p ≠ b := fun z => by
    obtain ⟨_, _, _, _, hb, _⟩ := hB
    rw [z, hb] at np
    cases np
  exact k_ixL (SqL.of (b2.get npb upd_same)) e1 (h _ t t0 t1 (fun c o nc hc => b2 c o nc (same_new np c o hc)) hB2)
/-- [x, ..][pull(bag, n)]: any ints -/
theorem k_menuZ {K : PySem.W.Frag} {b l : Addr} {ns : List Int} {i : Nat} {n : Int} {xs : List V} {σ : L2.St} {H : Hp} {Q : VK} {E : XK} (hσ : σ[i]? = some (some (.ref b))) (hB : Bag H b l ns) (hn : n = (xs.length : Int)) (h0 : 0 < n) (hz : xs.length ≤ 1000)
    (hP : ∀ x ∈ xs, ∃ t, x = V.int t) (h : ∀ H' t, SameB b H H' → Bag H' b l ns → Q (.int t) H') :
    xs.length ≤ sizeLine ∧ ∀ p, H p = none → tCall sp_law_pull [] E (tCons (tVar i) (tCons (tC (.int n)) tNil)) σ (upd H p (.lst xs)) fun y H2 => rIxL K (.ref p) y H2 Q := by
  refine ⟨sz hz, fun p np => ⟨.ref b, hσ, ?_⟩⟩
  show sp_law_pull ([.ref b, .int n] ++ []) (upd H p (.lst xs)) (fun y H2 => rIxL K (.ref p) y H2 Q) E
  refine k_pull (hB.keep (same_new np)) h0 (by omega) fun H2 v v0 v1 b2 hB2 => ?_
  obtain ⟨x, e1, t, rfl⟩ := atI_pick (fun x => ∃ t, x = V.int t) v0 (by omega) hP
  have npb : p ≠ b := fun z => by
    obtain ⟨_, _, _, _, hb, _⟩ := hB
    rw [z, hb] at np
    cases np
  exact k_ixL (SqL.of (b2.get npb upd_same)) e1 (h _ t (fun c o nc hc => b2 c o nc (same_new np c o hc)) hB2)
theorem menu_in {xs : List V} {lo hi : Int} (h : xs.all (fun x => match x with | .int t => decide (lo ≤ t) && decide (t ≤ hi) | _ => false) = true) : ∀ x ∈ xs, ∃ t, x = V.int t ∧ lo ≤ t ∧ t ≤ hi := by
  intro x hx
  have q := List.all_eq_true.mp h x hx
  cases x with
  | int t =>
    simp only [Bool.and_eq_true, decide_eq_true_eq] at q
    exact ⟨t, rfl, q⟩
  | _ => cases q
/-- the bag at the start of a law -/
theorem s_bag {K : PySem.W.Frag} {a : Addr} {ns : List Int} {H : Hp} {Q : VK} {E : XK} (hS : SqL K H a (ns.map V.int)) (hl : ns.length ≤ 63) (h : ∀ H' b, Hs [isBag b ns] H' → Q (.ref b) H') : sp_law_bag K ([.ref a] ++ []) H Q E :=
  ⟨a, ns, rfl, hS, hl, fun H' b l s nb nl hb => h H' b ((Hs.bagNew (L := []) (H := fun _ => none) True.intro (fun _ _ z => by cases z) rfl rfl hb))⟩
theorem k_pullS {L R : List Asn} {b : Addr} {ns : List Int} {top : Int} {H : Hp} {Q : VK} {E : XK} (hS : Hs L H) (k : Pick L (isBag b ns) R) (h0 : 0 < top) (h1 : top ≤ 1000000000000000000000000000000)
    (h : ∀ H' v, 0 ≤ v → v < top → Hs (isBag b ns :: R) H' → Q (.int v) H') : sp_law_pull ([.ref b, .int top] ++ []) H Q E := s_pull hS k h0 h1 h
/-! is it a whole number -/
def sp_law_int : Sp := fun vs H Q _ => ∃ (n : Int), vs = [.int n] ∧ Q (.bl true) H
theorem ok_law_int (T : Txt K mg) : FnOk P w K mg base (L2.CX P w) 1 T.f_law_int T.d_law_int ["_law_one"] sp_law_int := by
  refine T.F_law_int.ok sc_law_int (fun vs H Q E h => ?_) (fun cdv A outer s H vs Q E hr h => ?_)
  · obtain ⟨n, rfl, _⟩ := h
    rfl
  · obtain ⟨n, rfl, q⟩ := h
    refine ⟨_, PSs.nox (pss_one (ps_ret (pe_and (pe_callB call_isi (by rfl) T.z_isinstance (by decide +kernel) (pa_cons (pv 0) (pa_cons (pe_bltn (v := .ty "int") (by rfl) T.z_int (by decide +kernel) rfl) pa_nil))) (pe_one (pe_not (pe_callB call_isi (by rfl) T.z_isinstance (by decide +kernel) (pa_cons (pv 0) (pa_cons (pe_bltn (v := .ty "bool") (by rfl) T.z_bool (by decide +kernel) rfl) pa_nil)))))))), ?_⟩
    show (_ : TS) _ [some _] _
    walk_at "go"
    exact q
/-! a heap of blocks -/
structure HeapOk (ks : List Int) : Prop where
  nd : ks.Nodup
  lo : ∀ k ∈ ks, 0 ≤ k ∧ k < 100
  len : ks.length ≤ 56
/-- the stretches' way up to a place -/
structure HeapUp (n : Nat) (at_ : Int) (ks : List Int) : Prop where
  nd : ks.Nodup
  lo : ∀ k ∈ ks, 0 ≤ k ∧ k < at_
  len : ks.length ≤ 7 * n
  hi : 0 ≤ at_ ∧ at_ ≤ 3 + 10 * n
theorem rgI_nd (f m : Int) : (rgI f m).Nodup := by
  unfold rgI
  rw [List.Nodup, List.pairwise_map]
  exact (List.nodup_range).imp fun h e => h (by omega)
theorem HeapUp.step {n : Nat} {at_ m g : Int} {ks : List Int} (h : HeapUp n at_ ks) (m1 : 1 ≤ m) (m2 : m ≤ 7) (g1 : 0 ≤ g) (g2 : g ≤ 2) : HeapUp (n + 1) (at_ + (m + 1 + g)) (ks ++ rgI at_ m) := by
  refine ⟨List.nodup_append.mpr ⟨h.nd, rgI_nd _ _, fun a ha b hb => ?_⟩, fun k hk => ?_, ?_, ?_⟩
  · have := h.lo a ha
    have := mem_rgI.mp hb
    omega
  · rcases List.mem_append.mp hk with hk | hk
    · have := h.lo k hk
      omega
    · have := mem_rgI.mp hk
      have := h.hi
      omega
  · have := h.len
    rw [List.length_append, rgI_len]
    omega
  · have := h.hi
    omega
theorem HeapUp.ok {n : Nat} {at_ : Int} {ks : List Int} (h : HeapUp n at_ ks) (hn : n ≤ 8) : HeapOk ks := ⟨h.nd, fun k hk => by
  have := h.lo k hk
  have := h.hi
  omega, by have := h.len; omega⟩
theorem HeapOk.rev {ks : List Int} (h : HeapOk ks) : HeapOk ks.reverse := ⟨(List.reverse_perm ks).symm.nodup h.nd, fun k hk => h.lo k (List.mem_reverse.mp hk), by rw [List.length_reverse]; exact h.len⟩
def sp_law_heap : Sp := fun vs H Q _ => ∃ (b : Addr) (ns : List Int) (L : List Asn), vs = [.ref b] ∧ Hs (isBag b ns :: L) H ∧ ∀ H' p ks, HeapOk ks → Hs (isL p (ks.map PyData.int) :: isBag b ns :: L) H' → Q (.ref p) H'
theorem ok_law_heap (T : Txt K mg) : FnOk P w K mg base (L2.CX P w) 2 T.f_law_heap T.d_law_heap ["_law_bag_here"] sp_law_heap := by
  refine T.F_law_heap.ok sc_law_heap (fun vs H Q E h => ?_) (fun cdv A outer s H vs Q E hr h => ?_)
  · obtain ⟨b, ns, L, rfl, _⟩ := h
    rfl
  · obtain ⟨b, ns, L, rfl, hS, q⟩ := h
    refine ⟨_, PSs.nox (pss_cons (ps_set (i := 1) sc_law_heap.nd rfl (Or.inl rfl) (pe_lstS pa_nil))
 (pss_cons (ps_set (i := 2) sc_law_heap.nd rfl (Or.inl rfl) (pe_call (ok_law_pull (base := base) T) (hr.mono (by decide)) (by rfl) T.g_law_pull T.k_law_pull T.b_law_pull .nil passL (pa_cons (pv 0) (pa_cons pe_int pa_nil))))
 (pss_cons (ps_for PassesOwn.never rfl (pi_range1 (by rfl) T.z_range (pa_cons (pe_call (ok_law_pull (base := base) T) (hr.mono (by decide)) (by rfl) T.g_law_pull T.k_law_pull T.b_law_pull .nil passL (pa_cons (pv 0) (pa_cons pe_int pa_nil))) pa_nil)) (pg_name (i := 3) sc_law_heap.nd rfl (Or.inl rfl))
 (pss_cons (ps_set (i := 4) sc_law_heap.nd rfl (Or.inl rfl) (pe_op op_add pe_int (pe_call (ok_law_pull (base := base) T) (hr.mono (by decide)) (by rfl) T.g_law_pull T.k_law_pull T.b_law_pull .nil passL (pa_cons (pv 0) (pa_cons pe_int pa_nil)))))
 (pss_cons (ps_set (i := 1) sc_law_heap.nd rfl (Or.inl rfl) (pe_op op_cat (pv 1) (pe_listRgS rfl (by rfl) T.z_list (prg_2 (by rfl) T.z_range (pv 2) (pe_op op_add (pv 2) (pv 4))))))
 (pss_one (ps_aug (i := 2) sc_law_heap.nd rfl (Or.inl rfl) (pe_op op_add (pe_op op_add (pv 4) pe_int) (pe_call (ok_law_pull (base := base) T) (hr.mono (by decide)) (by rfl) T.g_law_pull T.k_law_pull T.b_law_pull .nil passL (pa_cons (pv 0) (pa_cons pe_int pa_nil)))) ip_add)))))
 (pss_mid (ps_if (pt_cmpR op_eq (pe_call (ok_law_pull (base := base) T) (hr.mono (by decide)) (by rfl) T.g_law_pull T.k_law_pull T.b_law_pull .nil passL (pa_cons (pv 0) (pa_cons pe_int pa_nil))) pe_int (nomark _))
 (pss_one (ps_set (i := 1) sc_law_heap.nd rfl (Or.inl rfl) (pe_revLS (pv 1))))
 pss_nil)
 (pss_one (ps_ret (pv 1))))))), ?_⟩
    show (_ : TS) _ [some _, none, none, none, none] _
    walk_at "gs"
    refine k_pullS (by assumption) (by walk_at "pk") (by decide) (by decide) fun H1 at0 a0 a1 hS1 => ?_
    walk_at "gs"
    refine k_pullS (by assumption) (by walk_at "pk") (by decide) (by decide) fun H2 n n0 n1 hS2 => ?_
    walk_at "gs"
    rename_i o _ _
    refine s_forR (fun i σ L' => ∃ o at_ ks, (∃ z3 z4 : Option V, σ = [some (.ref b), some (.ref o), some (.int at_), z3, z4]) ∧ L' = isL o (ks.map PyData.int) :: isBag b ns :: L ∧ HeapUp i at_ ks) (by walk_at "pm0") ⟨o, at0, [], ⟨_, _, rfl⟩, rfl, ⟨.nil, by simp, by simp, by omega⟩⟩ ?_ ?_
    · rintro i σ H3 L' hi ⟨o, at_, ks, ⟨z3, z4, rfl⟩, rfl, hU⟩ hS3
      have hb := hU.hi
      have hl := hU.len
      walk_at "gs"
      refine k_pullS (by assumption) (by walk_at "pk") (by decide) (by decide) fun H4 m m0 m1 hS4 => ?_
      walk_at "gs"
      refine k_pullS (by assumption) (by walk_at "pk") (by decide) (by decide) fun H5 g g0 g1 hS5 => ?_
      walk_at "gs"
      exact ⟨_, ⟨_, _, _, ⟨_, _, rfl⟩, rfl, hU.step (m := 1 + m) (g := g) (by omega) (by omega) (by omega) (by omega)⟩, by walk_at "pm"⟩
    · rintro σ H3 L' ⟨o, at_, ks, ⟨z3, z4, rfl⟩, rfl, hU⟩ hS3
      have hk := hU.ok (by omega)
      refine ⟨Wd fun σ H' => ∃ o ks, (∃ z2 z3 z4 : Option V, σ = [some (.ref b), some (.ref o), z2, z3, z4]) ∧ HeapOk ks ∧ Hs (isL o (ks.map PyData.int) :: isBag b ns :: L) H', ?_, ?_⟩
      · walk_at "gs"
        refine k_pullS (by assumption) (by walk_at "pk") (by decide) (by decide) fun H4 m m0 m1 hS4 => ?_
        walk_at "gs"
        refine k_iteD (fun h1 => ?_) (fun h1 => ?_)
        · walk_at "gs"
          refine ⟨_, ks.reverse, ⟨_, _, _, rfl⟩, hk.rev, ?_⟩

          walk_at "pm"
        · walk_at "gs"
          exact ⟨_, ks, ⟨_, _, _, rfl⟩, hk, by walk_at "pm"⟩
      · rintro σ H4 ⟨o, ks, ⟨z2, z3, z4, rfl⟩, hk, hS4⟩
        walk_at "gs"
        exact q _ o ks hk hS4
/-! stretches -/
def sp_stretches : Sp := fun vs H Q _ => ∃ (a : Addr) (ks : List Int) (L : List Asn), vs = [.ref a] ∧ Hs L H ∧ HasL L a (ks.map PyData.int) ∧ ks.length ≤ 500 ∧ ∀ H' p, Hs (isL p ((strOf ks).map dPair) :: L) H' → Q (.ref p) H'
theorem ok_stretches (T : Txt K mg) : FnOk P w K mg base (L2.CX P w) 1 T.f_stretches T.d_stretches ["blocks"] sp_stretches := by
  refine T.F_stretches.ok sc_stretches (fun vs H Q E h => ?_) (fun cdv A outer s H vs Q E hr h => ?_)
  · obtain ⟨a, ks, L, rfl, _⟩ := h
    rfl
  · obtain ⟨a, ks, L, rfl, hS, hA, h64, q⟩ := h
    refine ⟨_, PSs.nox (pss_cons (ps_set (i := 1) sc_stretches.nd rfl (Or.inl rfl) (pe_lstS pa_nil))
 (pss_cons (ps_for PassesOwn.never rfl (pi_list (pe_callB (cr_sortedSetA rfl) (by rfl) T.z_sorted (by decide +kernel) (pa_cons (pe_callTy (cr_set2 rfl) (by rfl) T.z_set (by decide +kernel) (pa_cons (pv 0) pa_nil)) pa_nil))) (pg_name (i := 2) sc_stretches.nd rfl (Or.inl rfl))
 (pss_one (ps_if (PW.pt (pw_and (pt_cmpR op_gt (pe_callB c_len (by rfl) T.z_len (by decide +kernel) (pa_cons (pv 1) pa_nil)) pe_int (nomark _)) (pw_and1 (pt_cmpR op_eq (pe_op op_add (pe_ix ix_tup (pe_ix ix_list (pv 1) (pe_un un_neg pe_int) (fun _ _ => rfl)) pe_int (fun _ _ => rfl)) (pe_ix ix_tup (pe_ix ix_list (pv 1) (pe_un un_neg pe_int) (fun _ _ => rfl)) pe_int (fun _ _ => rfl))) (pv 2) (nomark _)))))
 (pss_one (ps_asg (pe_tupS (pa_cons (pe_ix ix_tup (pe_ix ix_list (pv 1) (pe_un un_neg pe_int) (fun _ _ => rfl)) pe_int (fun _ _ => rfl)) (pa_cons (pe_op op_add (pe_ix ix_tup (pe_ix ix_list (pv 1) (pe_un un_neg pe_int) (fun _ _ => rfl)) pe_int (fun _ _ => rfl)) pe_int) pa_nil))) (pg_sub (pv 1) (pe_un un_neg pe_int) set_list)))
 (pss_one (ps_expr (pe_bm PySem.F.plainAttrs_list PySem.F.slot_list_append PySem.F.type_list_append mt_append (pv 1) (pa_cons (pe_tupS (pa_cons (pv 2) (pa_cons pe_int pa_nil))) pa_nil)))))))
 (pss_one (ps_ret (pv 1))))), ?_⟩
    show (_ : TS) _ [some _, none, none] _
    walk_at "gs"
    rename_i o H0 hS0
    have hA0 : HasL (isL o [] :: L) a (ks.map PyData.int) := hA.there
    refine s_sortSetA hS0 (.inl hA0) (by omega) fun p H1 hS1 => ?_
    walk_at "gs"
    refine s_forI (fun i σ L' => (∃ z2 : Option V, σ = [some (.ref a), some (.ref o), z2]) ∧ L' = isL o ((((ascOf ks).take i).foldl strStep []).map dPair) :: L) hS1 .here ⟨⟨_, rfl⟩, rfl⟩ ?_ ?_
    · rintro i k σ H' L' hk ⟨⟨z2, rfl⟩, rfl⟩ hS2
      have key : ((ascOf ks).take (i + 1)).foldl strStep [] = strStep (((ascOf ks).take i).foldl strStep []) k := by
        rw [take_snoc hk, List.foldl_append]
        rfl
      generalize hL : ((ascOf ks).take i).foldl strStep [] = M at hS2 key
      have hlen : M.length ≤ 500 := by
        have a2 := strStep_len ((ascOf ks).take i) []
        have a3 := len_asc ks
        have a4 : ((ascOf ks).take i).length ≤ (ascOf ks).length := by
          rw [List.length_take]
          omega
        rw [hL] at a2
        simp only [List.length_nil] at a2
        omega
      rcases List.eq_nil_or_concat M with rfl | ⟨qs, ⟨f, m⟩, rfl⟩
      · walk_at "gs"
        refine ⟨_, ⟨⟨_, rfl⟩, rfl⟩, ?_⟩
        rw [key]
        walk_at "pm0"
      · rw [List.concat_eq_append] at hS2 hlen key
        rw [mapP_snoc] at hS2
        walk_at "gs"
        refine k_iteD (fun h2 => ?_) (fun h2 => ?_)
        · walk_at "gs"
          rename Hs _ _ => hS3
          rw [set_last, ← mapP_snoc] at hS3
          refine ⟨_, ⟨⟨_, rfl⟩, rfl⟩, ?_⟩
          rw [key, strStep_snoc, if_pos (V.int.inj h2)]
          walk_at "pm"
        · walk_at "gs"
          rename Hs _ _ => hS3
          rw [← mapP_snoc, ← mapP_snoc] at hS3
          refine ⟨_, ⟨⟨_, rfl⟩, rfl⟩, ?_⟩
          rw [key, strStep_snoc, if_neg (fun z => h2 (by rw [z]))]
          walk_at "pm"
    · rintro σ H' L' ⟨⟨z2, rfl⟩, rfl⟩ hS2
      rw [List.take_length] at hS2
      walk_at "gs"
      exact q _ o (by walk_at "pm")
/-! stretches, the law's own -/
def sp_law_stretches : Sp := fun vs H Q _ => ∃ (a : Addr) (ks : List Int) (L : List Asn), vs = [.ref a] ∧ Hs L H ∧ HasL L a (ks.map PyData.int) ∧ ks.length ≤ 500 ∧ ∀ H' p, Hs (isL p ((strOf ks).map dPair) :: L) H' → Q (.ref p) H'
theorem ok_law_stretches (T : Txt K mg) : FnOk P w K mg base (L2.CX P w) 1 T.f_law_stretches T.d_law_stretches ["_law_blocks"] sp_law_stretches := by
  refine T.F_law_stretches.ok sc_law_stretches (fun vs H Q E h => ?_) (fun cdv A outer s H vs Q E hr h => ?_)
  · obtain ⟨a, ks, L, rfl, _⟩ := h
    rfl
  · obtain ⟨a, ks, L, rfl, hS, hA, h64, q⟩ := h
    refine ⟨_, PSs.nox (pss_cons (ps_set (i := 1) sc_law_stretches.nd rfl (Or.inl rfl) (pe_lstS pa_nil))
 (pss_cons (ps_for PassesOwn.never rfl (pi_list (pe_callB (cr_sortedSetA rfl) (by rfl) T.z_sorted (by decide +kernel) (pa_cons (pe_callTy (cr_set2 rfl) (by rfl) T.z_set (by decide +kernel) (pa_cons (pv 0) pa_nil)) pa_nil))) (pg_name (i := 2) sc_law_stretches.nd rfl (Or.inl rfl))
 (pss_one (ps_if (PW.pt (pw_and (pt_cmpR op_gt (pe_callB c_len (by rfl) T.z_len (by decide +kernel) (pa_cons (pv 1) pa_nil)) pe_int (nomark _)) (pw_and1 (pt_cmpR op_eq (pe_op op_add (pe_ix ix_tup (pe_ix ix_list (pv 1) (pe_un un_neg pe_int) (fun _ _ => rfl)) pe_int (fun _ _ => rfl)) (pe_ix ix_tup (pe_ix ix_list (pv 1) (pe_un un_neg pe_int) (fun _ _ => rfl)) pe_int (fun _ _ => rfl))) (pv 2) (nomark _)))))
 (pss_one (ps_asg (pe_tupS (pa_cons (pe_ix ix_tup (pe_ix ix_list (pv 1) (pe_un un_neg pe_int) (fun _ _ => rfl)) pe_int (fun _ _ => rfl)) (pa_cons (pe_op op_add (pe_ix ix_tup (pe_ix ix_list (pv 1) (pe_un un_neg pe_int) (fun _ _ => rfl)) pe_int (fun _ _ => rfl)) pe_int) pa_nil))) (pg_sub (pv 1) (pe_un un_neg pe_int) set_list)))
 (pss_one (ps_expr (pe_bm PySem.F.plainAttrs_list PySem.F.slot_list_append PySem.F.type_list_append mt_append (pv 1) (pa_cons (pe_tupS (pa_cons (pv 2) (pa_cons pe_int pa_nil))) pa_nil)))))))
 (pss_one (ps_ret (pv 1))))), ?_⟩
    show (_ : TS) _ [some _, none, none] _
    walk_at "gs"
    rename_i o H0 hS0
    have hA0 : HasL (isL o [] :: L) a (ks.map PyData.int) := hA.there
    refine s_sortSetA hS0 (.inl hA0) (by omega) fun p H1 hS1 => ?_
    walk_at "gs"
    refine s_forI (fun i σ L' => (∃ z2 : Option V, σ = [some (.ref a), some (.ref o), z2]) ∧ L' = isL o ((((ascOf ks).take i).foldl strStep []).map dPair) :: L) hS1 .here ⟨⟨_, rfl⟩, rfl⟩ ?_ ?_
    · rintro i k σ H' L' hk ⟨⟨z2, rfl⟩, rfl⟩ hS2
      have key : ((ascOf ks).take (i + 1)).foldl strStep [] = strStep (((ascOf ks).take i).foldl strStep []) k := by
        rw [take_snoc hk, List.foldl_append]
        rfl
      generalize hL : ((ascOf ks).take i).foldl strStep [] = M at hS2 key
      have hlen : M.length ≤ 500 := by
        have a2 := strStep_len ((ascOf ks).take i) []
        have a3 := len_asc ks
        have a4 : ((ascOf ks).take i).length ≤ (ascOf ks).length := by
          rw [List.length_take]
          omega
        rw [hL] at a2
        simp only [List.length_nil] at a2
        omega
      rcases List.eq_nil_or_concat M with rfl | ⟨qs, ⟨f, m⟩, rfl⟩
      · walk_at "gs"
        refine ⟨_, ⟨⟨_, rfl⟩, rfl⟩, ?_⟩
        rw [key]
        walk_at "pm0"
      · rw [List.concat_eq_append] at hS2 hlen key
        rw [mapP_snoc] at hS2
        walk_at "gs"
        refine k_iteD (fun h2 => ?_) (fun h2 => ?_)
        · walk_at "gs"
          rename Hs _ _ => hS3
          rw [set_last, ← mapP_snoc] at hS3
          refine ⟨_, ⟨⟨_, rfl⟩, rfl⟩, ?_⟩
          rw [key, strStep_snoc, if_pos (V.int.inj h2)]
          walk_at "pm"
        · walk_at "gs"
          rename Hs _ _ => hS3
          rw [← mapP_snoc, ← mapP_snoc] at hS3
          refine ⟨_, ⟨⟨_, rfl⟩, rfl⟩, ?_⟩
          rw [key, strStep_snoc, if_neg (fun z => h2 (by rw [z]))]
          walk_at "pm"
    · rintro σ H' L' ⟨⟨z2, rfl⟩, rfl⟩ hS2
      rw [List.take_length] at hS2
      walk_at "gs"
      exact q _ o (by walk_at "pm")
/-! Spans: init -/
def sp_Spans_init (K : PySem.W.Frag) (C : Addr) : Sp := fun vs H Q _ => ∃ (x a : Addr) (ks : List Int) (L : List Asn), vs = [.ref x, .ref a] ∧ Hs (obj C x [] :: L) H ∧ ArgI K L H a ks ∧ ks.length ≤ 500 ∧ ∀ H', Hs (isSp C x (ascOf ks) :: L) H' → Q .non H'
theorem ok_Spansx_initx (T : Txt K mg) : FnOk P w K mg base (L2.CX P w) 1 T.f_Spansx_initx T.d_Spansx_initx ["self", "blocks"] (sp_Spans_init K T.c_Spans) := by
  refine T.F_Spansx_initx.ok sc_Spansx_initx (fun vs H Q E h => ?_) (fun cdv A outer s H vs Q E hr h => ?_)
  · obtain ⟨x, a, ks, L, rfl, _⟩ := h
    rfl
  · obtain ⟨x, a, ks, L, rfl, hS, hA, h64, q⟩ := h
    have cl := T.cl_Spans
    have n1 := T.n_Spans_inside
    refine ⟨_, PSs.nox (pss_one (ps_fldS (pv 0) (pe_callB (cr_sortedSetA rfl) (by rfl) T.z_sorted (by decide +kernel) (pa_cons (pe_callTy (cr_set2 rfl) (by rfl) T.z_set (by decide +kernel) (pa_cons (pv 1) pa_nil)) pa_nil)) rfl)), ?_⟩
    show (_ : TS) _ [some _, some _] _
    walk_at "gs"
    refine s_sortSetA hS (hA.imp (fun z => z.there) id) (by omega) fun p H1 hS1 => ?_
    walk_at "gs"
    rename Hs _ _ => hS2
    exact q _ (Hs.closeSp (l := p) (by walk_at "pm0"))
section
variable {K : PySem.W.Frag} {L R R2 : List Asn} {H : Hp} {Q : VK} {E : XK} {C x y a b : Addr} {ks js : List Int} {ds : List PyData} {z : Str}
theorem s_mkSp {B : Hp → Prop} (hS : Hs (obj C x [] :: L) H) (k : HasL L a (ks.map PyData.int)) (hl : ks.length ≤ 500) (h : ∀ H', Hs (isSp C x (ascOf ks) :: L) H' → B H') : sp_Spans_init K C (.ref x :: ([.ref a] ++ [])) H (fun v H2 => v = .non ∧ B H2) E := ⟨x, a, ks, L, rfl, hS, .inl k, hl, fun H' h1 => ⟨rfl, h H' h1⟩⟩
theorem s_mkSpT {B : Hp → Prop} {ds : List PyData} (hS : Hs (obj C x [] :: L) H) (k : Pick L (dv (.ref a) (.tuple (ks.map PyData.int))) R) (hl : ks.length ≤ 500) (h : ∀ H', Hs (isSp C x (ascOf ks) :: L) H' → B H') : sp_Spans_init K C (.ref x :: ([.ref a] ++ [])) H (fun v H2 => v = .non ∧ B H2) E := by
  obtain ⟨t, us, et, h1, h2⟩ := (hS.tl.dvAt k).tupOf
  cases et
  rw [h2.intsEq] at h1
  exact ⟨x, a, ks, L, rfl, hS, .inr (SqT.of h1), hl, fun H' h1 => ⟨rfl, h H' h1⟩⟩
theorem s_mkSp0 {B : Hp → Prop} (hS : Hs (obj C x [] :: L) H) (e : SqT K H a []) (h : ∀ H', Hs (isSp C x [] :: L) H' → B H') : sp_Spans_init K C (.ref x :: ([] ++ [.ref a])) H (fun v H2 => v = .non ∧ B H2) E := ⟨x, a, [], L, rfl, hS, .inr e, by decide, fun H' h1 => ⟨rfl, h H' h1⟩⟩
end
local macro_rules | `(tactic| walk_at "rq") => `(tactic| ((rename Lt.Hs _ _ => hS0); (with_reducible refine' s_mkSp hS0 ?k ?hl ?_); (case k => walk_at "hl"); (case hl => walk_at "ln"); intro _ _; clear hS0))
local macro_rules | `(tactic| walk_at "rq") => `(tactic| ((rename Lt.Hs _ _ => hS0); (with_reducible refine' s_mkSpT hS0 ?k ?hl ?_); (case k => walk_at "pk"); (case hl => walk_at "ln"); intro _ _; clear hS0))
/-! Spans: eq -/
def sp_Spans_eq (C : Addr) : Sp := fun vs H Q _ => ∃ (x : Addr) (y : V) (ks : List Int) (L : List Asn), vs = [.ref x, y] ∧
  ((∃ b js, y = .ref b ∧ Hs (isSp C x ks :: isSp C b js :: L) H ∧ Q (.bl (decide (ks = js))) H) ∨ (∃ b ds, y = .ref b ∧ Hs L H ∧ HasL L b ds ∧ Q (.bl false) H) ∨ (∃ z, y = .str z ∧ Q (.bl false) H))
theorem ok_Spansx_eqx (T : Txt K mg) : FnOk P w K mg base (L2.CX P w) 1 T.f_Spansx_eqx T.d_Spansx_eqx ["self", "other"] (sp_Spans_eq T.c_Spans) := by
  refine T.F_Spansx_eqx.ok sc_Spansx_eqx (fun vs H Q E h => ?_) (fun cdv A outer s H vs Q E hr h => ?_)
  · obtain ⟨x, a, ks, L, rfl, _⟩ := h
    rfl
  · obtain ⟨x, y, ks, L, rfl, h⟩ := h
    have cl := T.cl_Spans
    have n1 := T.n_Spans_inside
    refine ⟨_, PSs.nox (pss_one (ps_ret (pe_and (pe_callB call_isi (by rfl) T.z_isinstance (by decide +kernel) (pa_cons (pv 1) (pa_cons (pe_glob (v := .ref T.c_Spans) (by rfl) T.g_Spans rfl) pa_nil))) (pe_one (pe_cmpR (op_eqD hr.units) (pe_fld (pv 0) rfl) (pe_fld (pv 1) rfl) (nomark _)))))), ?_⟩
    show (_ : TS) _ [some _, some _] _
    walk_at "gs"
    rcases h with ⟨b, js, rfl, hS, q⟩ | ⟨b, ds, rfl, hS, hA, q⟩ | ⟨z, rfl, q⟩
    · obtain ⟨dx, fs, e, _⟩ := hS.tl.insSp
      refine k_isiO (T.ow_Spans.tyx e) T.ow_Spans.self ?_
      obtain ⟨l1, hS1⟩ := hS.openSp
      obtain ⟨l2, hS2⟩ := (Pick.go (.there (.there .here)) hS1).openSp
      clear hS1
      walk_at "gs"
      exact q
    · refine k_isiO (tyx_L hS hA) (T.ow_Spans.other (sub_list _ _)) ?_
      walk_at "gs"
      exact q
    · refine k_isiO (TyX.base (TyOf.str _)) (T.ow_Spans.other (sub_str _ _)) ?_
      walk_at "gs"
      exact q
section
variable {K : PySem.W.Frag} {L R R2 : List Asn} {H : Hp} {Q : VK} {E : XK} {C x y a b : Addr} {ks js : List Int} {ds : List PyData} {z : Str}
theorem s_eqSp (hS : Hs L H) (k1 : Pick L (isSp C x ks) R) (k2 : Pick R (isSp C y js) R2) (h : Q (.bl (decide (ks = js))) H) : rEqO K C (sp_Spans_eq C) E (.ref x) (.ref y) H Q := by
  have h1 := Hs.under (fun _ z => k2.go z) (k1.go hS)
  obtain ⟨dx, fs, e, _⟩ := h1.insSp
  obtain ⟨dy, gs, e2, _⟩ := h1.tl.insSp
  exact ⟨x, dx, fs, _, rfl, e, .ins e2, nf_self K C, x, .ref y, ks, R2, rfl, .inl ⟨y, js, rfl, h1, _, rfl, h⟩⟩
theorem s_neSp (hS : Hs L H) (k1 : Pick L (isSp C x ks) R) (k2 : Pick R (isSp C y js) R2) (h : Q (.bl (!decide (ks = js))) H) : rNeO K C (sp_Spans_eq C) E (.ref x) (.ref y) H Q := by
  have h1 := Hs.under (fun _ z => k2.go z) (k1.go hS)
  obtain ⟨dx, fs, e, _⟩ := h1.insSp
  obtain ⟨dy, gs, e2, _⟩ := h1.tl.insSp
  exact ⟨x, dx, fs, _, rfl, e, .ins e2, nf_self K C, x, .ref y, ks, R2, rfl, .inl ⟨y, js, rfl, h1, _, rfl, h⟩⟩
theorem s_eqSpL (hS : Hs L H) (k1 : Pick L (isSp C x ks) R) (k2 : HasL L b ds) (h : Q (.bl false) H) : rEqO K C (sp_Spans_eq C) E (.ref x) (.ref b) H Q := by
  obtain ⟨dx, fs, e, _⟩ := (k1.go hS).insSp
  obtain ⟨vs, e2, _⟩ := k2.at_ hS
  exact ⟨x, dx, fs, _, rfl, e, .lst e2, nf_list K C, x, .ref b, ks, L, rfl, .inr (.inl ⟨b, ds, rfl, hS, k2, _, rfl, h⟩)⟩
theorem s_eqSpS (hS : Hs L H) (k1 : Pick L (isSp C x ks) R) (h : Q (.bl false) H) : rEqO K C (sp_Spans_eq C) E (.ref x) (.str z) H Q := by
  obtain ⟨dx, fs, e, _⟩ := (k1.go hS).insSp
  exact ⟨x, dx, fs, _, rfl, e, .str z, nf_str K C, x, .str z, ks, L, rfl, .inr (.inr ⟨z, rfl, _, rfl, h⟩)⟩
end
local macro_rules | `(tactic| walk_at "rq") => `(tactic| ((with_reducible refine' s_eqSp ?hS ?k1 ?k2 ?_); (case hS => assumption); (case k1 => walk_at "pk"); (case k2 => walk_at "pk")))
local macro_rules | `(tactic| walk_at "rq") => `(tactic| ((with_reducible refine' s_neSp ?hS ?k1 ?k2 ?_); (case hS => assumption); (case k1 => walk_at "pk"); (case k2 => walk_at "pk")))
local macro_rules | `(tactic| walk_at "rq") => `(tactic| ((with_reducible refine' s_eqSpL ?hS ?k1 ?k2 ?_); (case hS => assumption); (case k1 => walk_at "pk"); (case k2 => walk_at "hl")))
local macro_rules | `(tactic| walk_at "rq") => `(tactic| ((with_reducible refine' s_eqSpS ?hS ?k1 ?_); (case hS => assumption); (case k1 => walk_at "pk")))
/-! Spans: len -/
def sp_Spans_len (C : Addr) : Sp := fun vs H Q _ => ∃ (x : Addr) (ks : List Int) (L : List Asn), vs = [.ref x] ∧ Hs (isSp C x ks :: L) H ∧ Q (.int ks.length) H
theorem ok_Spansx_lenx (T : Txt K mg) : FnOk P w K mg base (L2.CX P w) 1 T.f_Spansx_lenx T.d_Spansx_lenx ["self"] (sp_Spans_len T.c_Spans) := by
  refine T.F_Spansx_lenx.ok sc_Spansx_lenx (fun vs H Q E h => ?_) (fun cdv A outer s H vs Q E hr h => ?_)
  · obtain ⟨x, ks, L, rfl, _⟩ := h
    rfl
  · obtain ⟨x, ks, L, rfl, hS, q⟩ := h
    have cl := T.cl_Spans
    have n1 := T.n_Spans_inside
    obtain ⟨l1, hS1⟩ := hS.openSp
    clear hS
    refine ⟨_, PSs.nox (pss_one (ps_ret (pe_callB c_len (by rfl) T.z_len (by decide +kernel) (pa_cons (pe_fld (pv 0) rfl) pa_nil)))), ?_⟩
    show (_ : TS) _ [some _] _
    walk_at "gs"
    exact q
section
variable {K : PySem.W.Frag} {L R R2 : List Asn} {H : Hp} {Q : VK} {E : XK} {C x y a b : Addr} {ks js : List Int} {ds : List PyData} {z : Str}
theorem s_lenSp (hS : Hs L H) (k1 : Pick L (isSp C x ks) R) (hl : ks.length ≤ 100000) (h : Q (.int ks.length) H) : rLenO C (sp_Spans_len C) E [.ref x] H Q := by
  obtain ⟨dx, fs, e, _⟩ := (k1.go hS).insSp
  exact ⟨x, dx, fs, rfl, e, x, ks, _, rfl, k1.go hS, _, rfl, by omega, h⟩
end
local macro_rules | `(tactic| walk_at "rq") => `(tactic| ((with_reducible refine' s_lenSp ?hS ?k1 ?hl ?_); (case hS => assumption); (case k1 => walk_at "pk"); (case hl => walk_at "ln")))
/-! Spans: blocks -/
def sp_Spans_blocks (C : Addr) : Sp := fun vs H Q _ => ∃ (x : Addr) (ks : List Int) (L : List Asn), vs = [.ref x] ∧ Hs (isSp C x ks :: L) H ∧ ∀ p H', Hs (isL p (ks.map PyData.int) :: isSp C x ks :: L) H' → Q (.ref p) H'
theorem ok_Spans_blocks (T : Txt K mg) : FnOk P w K mg base (L2.CX P w) 1 T.f_Spans_blocks T.d_Spans_blocks ["self"] (sp_Spans_blocks T.c_Spans) := by
  refine T.F_Spans_blocks.ok sc_Spans_blocks (fun vs H Q E h => ?_) (fun cdv A outer s H vs Q E hr h => ?_)
  · obtain ⟨x, ks, L, rfl, _⟩ := h
    rfl
  · obtain ⟨x, ks, L, rfl, hS, q⟩ := h
    have cl := T.cl_Spans
    have n1 := T.n_Spans_inside
    obtain ⟨l1, hS1⟩ := hS.openSp
    clear hS
    refine ⟨_, PSs.nox (pss_one (ps_ret (pe_callTy c_listOf (by rfl) T.z_list (by decide +kernel) (pa_cons (pe_fld (pv 0) rfl) pa_nil)))), ?_⟩
    show (_ : TS) _ [some _] _
    walk_at "gs"
    rename Hs _ _ => hS2
    exact q _ _ (Hs.under (fun _ z => z.closeSp) hS2)
section
variable {K : PySem.W.Frag} {L R R2 : List Asn} {H : Hp} {Q : VK} {E : XK} {C x y a b : Addr} {ks js : List Int} {ds : List PyData} {z : Str}
theorem s_blocks (hS : Hs L H) (k : Pick L (isSp C x ks) R) (h : ∀ p H', Hs (isL p (ks.map PyData.int) :: isSp C x ks :: R) H' → Q (.ref p) H') : sp_Spans_blocks C (.ref x :: ([] ++ [])) H Q E := ⟨x, ks, R, rfl, k.go hS, h⟩
end
local macro_rules | `(tactic| walk_at "rq") => `(tactic| ((rename Lt.Hs _ _ => hS0); (with_reducible refine' s_blocks hS0 ?k ?_); (case k => walk_at "pk"); intro _ _ _; clear hS0))
/-! Spans: runs -/
def sp_Spans_runs (C : Addr) : Sp := fun vs H Q _ => ∃ (x : Addr) (ks : List Int) (L : List Asn), vs = [.ref x] ∧ Hs (isSp C x ks :: L) H ∧ ks.length ≤ 500 ∧ ∀ p H', Hs (isL p ((strOf ks).map dPair) :: isSp C x ks :: L) H' → Q (.ref p) H'
theorem ok_Spans_runs (T : Txt K mg) : FnOk P w K mg base (L2.CX P w) 2 T.f_Spans_runs T.d_Spans_runs ["self"] (sp_Spans_runs T.c_Spans) := by
  refine T.F_Spans_runs.ok sc_Spans_runs (fun vs H Q E h => ?_) (fun cdv A outer s H vs Q E hr h => ?_)
  · obtain ⟨x, ks, L, rfl, _⟩ := h
    rfl
  · obtain ⟨x, ks, L, rfl, hS, h64, q⟩ := h
    have cl := T.cl_Spans
    have n1 := T.n_Spans_inside
    obtain ⟨l1, hS1⟩ := hS.openSp
    clear hS
    refine ⟨_, PSs.nox (pss_one (ps_ret (pe_call (ok_stretches (base := base) T) (hr.mono (by decide)) (by rfl) T.g_stretches T.k_stretches T.b_stretches .nil passL (pa_cons (pe_fld (pv 0) rfl) pa_nil)))), ?_⟩
    show (_ : TS) _ [some _] _
    walk_at "gs"
    refine ⟨_, ks, _, rfl, hS1, by walk_at "hl", h64, fun H' p hS2 => ?_⟩
    exact q _ _ (Hs.under (fun _ z => z.closeSp) hS2)
section
variable {K : PySem.W.Frag} {L R R2 : List Asn} {H : Hp} {Q : VK} {E : XK} {C x y a b : Addr} {ks js : List Int} {ds : List PyData} {z : Str}
theorem s_runs (hS : Hs L H) (k : Pick L (isSp C x ks) R) (hl : ks.length ≤ 500) (h : ∀ p H', Hs (isL p ((strOf ks).map dPair) :: isSp C x ks :: R) H' → Q (.ref p) H') : sp_Spans_runs C (.ref x :: ([] ++ [])) H Q E := ⟨x, ks, R, rfl, k.go hS, hl, h⟩
end
local macro_rules | `(tactic| walk_at "rq") => `(tactic| ((rename Lt.Hs _ _ => hS0); (with_reducible refine' s_runs hS0 ?k ?hl ?_); (case k => walk_at "pk"); (case hl => walk_at "ln"); intro _ _ _; clear hS0))
/-! stretches: its calls -/
section
variable {K : PySem.W.Frag} {L R R2 : List Asn} {H : Hp} {Q : VK} {E : XK} {C x y a b : Addr} {ks js : List Int} {ds : List PyData} {z : Str}
theorem c_stretchesS (hS : Hs L H) (k : HasL L a (ks.map PyData.int)) (hl : ks.length ≤ 500) (h : ∀ p H', Hs (isL p ((strOf ks).map dPair) :: L) H' → Q (.ref p) H') : sp_stretches ([.ref a] ++ []) H Q E := ⟨a, ks, L, rfl, hS, k, hl, fun H' p h1 => h p H' h1⟩
end
local macro_rules | `(tactic| walk_at "rq") => `(tactic| ((rename Lt.Hs _ _ => hS0); (with_reducible refine' c_stretchesS hS0 ?k ?hl ?_); (case k => walk_at "hl"); (case hl => walk_at "ln"); intro _ _ _; clear hS0))
/-! a list of tuples of so many whole numbers -/
abbrev dRow (r : List Int) : PyData := .tuple (r.map PyData.int)
theorem rows_pairs (ps : List (Int × Int)) : ps.map dPair = (ps.map fun u => [u.1, u.2]).map dRow := by
  rw [List.map_map]
  rfl
def sp_law_rows : Sp := fun vs H Q _ => ∃ (a : Addr) (rs : List (List Int)) (n : Nat) (L R : List Asn), vs = [.ref a, .int n] ∧ Hs L H ∧ Pick L (isL a (rs.map dRow)) R ∧ (∀ r ∈ rs, r.length = n) ∧ n ≤ 500 ∧ ∀ H', Hs L H' → Q (.bl true) H'
theorem ok_law_rows (T : Txt K mg) : FnOk P w K mg base (L2.CX P w) 2 T.f_law_rows T.d_law_rows ["_law_told", "_law_size"] sp_law_rows := by
  refine T.F_law_rows.ok sc_law_rows (fun vs H Q E h => ?_) (fun cdv A outer s H vs Q E hr h => ?_)
  · obtain ⟨a, rs, n, L, R, rfl, _⟩ := h
    rfl
  · obtain ⟨a, rs, n, L, R, rfl, hS, k, hR, hn, q⟩ := h
    have hA : HasL L a (rs.map dRow) := .l k
    refine ⟨_, PSs.nox (pss_cons (ps_if (pt_not (pt_val (pe_callB call_isi (by rfl) T.z_isinstance (by decide +kernel) (pa_cons (pv 0) (pa_cons (pe_bltn (v := .ty "list") (by rfl) T.z_list (by decide +kernel) rfl) pa_nil)))))
 (pss_one (ps_ret pe_bl))
 pss_nil)
 (pss_cons (ps_for PassesOwn.never rfl (pi_list (pv 0)) (pg_name (i := 2) sc_law_rows.nd rfl (Or.inl rfl))
 (pss_one (ps_if (PW.pt (pw_or (pt_not (pt_val (pe_callB call_isi (by rfl) T.z_isinstance (by decide +kernel) (pa_cons (pv 2) (pa_cons (pe_bltn (v := .ty "tuple") (by rfl) T.z_tuple (by decide +kernel) rfl) pa_nil))))) (pw_or (pt_cmpR op_ne (pe_callB c_lenT (by rfl) T.z_len (by decide +kernel) (pa_cons (pv 2) pa_nil)) (pv 1) (nomark _)) (pw_or1 (pt_not (pt_val (pe_callB (cr_all rfl) (by rfl) T.z_all (by decide +kernel) (pa_cons (pe_lc (own := [("_law_one", 3)]) (g := gName 3) (tt := tYes) (by rfl) sc_law_rows.nd (pi_tup (pv 2)) (blkOk_by (own := [("_law_one", 3)]) (N := N_law_rows) (sc := defScope s_law_rows) (by decide +kernel)) (fun _ _ _ _ _ => (pg_name (i := 3) sc_law_rows.nd rfl (Or.inl rfl))) (fun _ _ _ _ _ => pts_nil) (fun _ _ _ _ _ => (pe_call (ok_law_int (base := base) T) (hr.mono (by decide)) (by rfl) T.g_law_int T.k_law_int T.b_law_int .nil passL (pa_cons (pv 3) pa_nil)))) pa_nil))))))))
 (pss_one (ps_ret pe_bl))
 pss_nil)))
 (pss_one (ps_ret pe_bl)))), ?_⟩
    show (_ : TS) _ [some _, some _, none, none] _
    walk_at "gs"
    refine k_isi (tyx_L hS hA) (by walk_at "isi") ?_
    walk_at "gs"
    refine s_forL (fun i σ L' => (∃ z2 z3 : Option V, σ = [some (.ref a), some (.int n), z2, z3]) ∧ L' = R) hS k ⟨⟨_, _, rfl⟩, rfl⟩ ?_ ?_
    · rintro i r y us σ H' L' hr' ⟨⟨z2, z3, rfl⟩, rfl⟩ hS1
      obtain ⟨t, xs, rfl, _⟩ := Dv.tupOf hS1.hd
      have hk := hR r (List.mem_of_getElem? hr')
      walk_at "gs"
      rw [List.length_map, hk, decide_eq_true rfl]
      walk_at "gp"
      refine s_lcTI (Fm r (fun _ => true) (fun _ => .bool true) _) hS1 .here Fm.start ?_ ?_
      · rintro D j x acc H2 L2 hx hF hl hS2
        obtain rfl := hF.2
        have hj := (List.getElem?_eq_some_iff.mp hx).1
        walk_at "gp"
        refine ⟨x, rfl, ?_⟩
        walk_at "gp"
        exact lc_putF hF hx rfl hS2 .here hl (by omega) (.bl true) .refl
      · rintro D acc H2 L2 hF hl hS2
        obtain ⟨rfl, rfl⟩ := hF.all rfl
        rw [filter_true, show (r.map fun _ => PyData.bool true) = (r.map fun _ => true).map PyData.bool by rw [List.map_map]; rfl] at hS2
        have e : (r.map fun _ => true).all id = true := by simp
        walk_at "gp"
        exact ⟨_, ⟨⟨_, _, rfl⟩, rfl⟩, by walk_at "pm"⟩
    · rintro σ H' L' ⟨⟨z2, z3, rfl⟩, rfl⟩ hS2
      walk_at "gs"
      exact q _ (k.back hS2)
/-! rows of pairs: the call -/
section
variable {K : PySem.W.Frag} {L R : List Asn} {H : Hp} {Q : VK} {E : XK} {a : Addr} {ps : List (Int × Int)}
theorem s_rows2 (hS : Hs L H) (k : Pick L (isL a (ps.map dPair)) R) (h : ∀ H', Hs L H' → Q (.bl true) H') : sp_law_rows ([.ref a, .int 2] ++ []) H Q E :=
  ⟨a, ps.map fun u => [u.1, u.2], 2, L, R, rfl, hS, by rw [← rows_pairs]; exact k, fun r hr => by
    obtain ⟨u, _, rfl⟩ := List.mem_map.mp hr
    rfl, by decide, h⟩
end
/-! texts of stretches -/
def spT (u : Int × Int) : Str := if u.2 = 1 then ((toString u.1 : String) : Str) else ((toString u.1 : String) : Str) ++ "-" ++ ((toString (u.1 + u.2 - 1) : String) : Str)
theorem int_len {i : Int} (h : i.natAbs < 10 ^ 12) : ((toString i : String) : Str).length ≤ 13 := by
  have := PyData.shown_int_le h
  rwa [PyData.shown_int] at this
theorem int_log {i : Int} (h : i.natAbs < 10 ^ 12) : i.natAbs.log2 < 1920 := by
  have := log2_small h
  omega
theorem j_cons {t : TE} {ts : List TE} {acc : Str} {σ : L2.St} {H : Hp} {Q : Str → Hp → Prop} (h : t σ H fun x H1 => ∃ y : Str, x = .str y ∧ (acc ++ y).length ≤ sizeLine ∧ tJs ts (acc ++ y) σ H1 Q) : tJs (t :: ts) acc σ H Q := h
theorem k_fmt {te : TE} {σ : L2.St} {H : Hp} {Q : VK} (h : te σ H fun x H1 => (∃ y : Str, x = .str y ∧ y.length ≤ sizeLine ∧ Q (.str y) H1) ∨ ∃ i : Int, x = .int i ∧ i.natAbs.log2 < 1920 ∧ Q (.str (toString i)) H1) : tFmt te σ H Q := h
theorem k_fmtL {K : PySem.W.Frag} {te : TE} {σ : L2.St} {H : Hp} {Q : VK} (h : te σ H fun x H1 => ∃ (a : Addr) (ks : List Int), x = .ref a ∧ SqL K H1 a (ks.map V.int) ∧ Sml ks ∧ Q (.str (lsT ks)) H1) : tFmtL K te σ H Q := h
theorem j_nil {acc : Str} {σ : L2.St} {H : Hp} {Q : Str → Hp → Prop} (h : Q acc H) : tJs [] acc σ H Q := h
theorem str_in {ks : List Int} {u : Int × Int} (h : u ∈ strOf ks) : u.1 ∈ ks ∧ 1 ≤ u.2 ∧ u.1 + u.2 - 1 ∈ ks := by
  have h1 := (strOk ks).pos u h
  have h2 : ∀ k, u.1 ≤ k → k < u.1 + u.2 → k ∈ ks := fun k a b => by
    rw [← mem_asc, ← (strOk ks).cat]
    exact List.mem_flatMap.mpr ⟨u, h, mem_rgI.mpr ⟨a, b⟩⟩
  exact ⟨h2 _ (by omega) (by omega), h1, h2 _ (by omega) (by omega)⟩
def sp_spelled : Sp := fun vs H Q _ => ∃ f m : Int, vs = [.int f, .int m] ∧ f.natAbs < 10 ^ 11 ∧ m.natAbs < 10 ^ 11 ∧ Q (.str (spT (f, m))) H
theorem ok_spelled (T : Txt K mg) : FnOk P w K mg base (L2.CX P w) 1 T.f_spelled T.d_spelled ["first", "many"] sp_spelled := by
  refine T.F_spelled.ok sc_spelled (fun vs H Q E h => ?_) (fun cdv A outer s H vs Q E hr h => ?_)
  · obtain ⟨f, m, rfl, _⟩ := h
    rfl
  · obtain ⟨f, m, rfl, hf, hm, q⟩ := h
    have h1 := int_len (i := f) (by omega)
    have h2 := int_len (i := f + m - 1) (by omega)
    refine ⟨_, PSs.nox (pss_cons (ps_if (pt_cmpR op_eq (pv 1) pe_int (nomark _))
 (pss_one (ps_ret (pe_callTy call_str_int (by rfl) T.z_str (by decide +kernel) (pa_cons (pv 0) pa_nil))))
 pss_nil)
 (pss_one (ps_ret (pe_joined (.cons (pe_fmt (pv 0)) (.cons pe_str (.cons (pe_fmt (pe_op op_sub (pe_op op_add (pv 0) (pv 1)) pe_int)) .nil))))))), ?_⟩
    show (_ : TS) _ [some _, some _] _
    walk_at "gs"
    refine k_iteD (fun h3 => ?_) (fun h3 => ?_)
    · have h3 : m = 1 := by injection h3
      unfold spT at q
      walk_at "gs"
      rw [if_pos h3] at q
      exact ⟨int_log (by omega), q⟩
    · walk_at "gs"
      have h3 : m ≠ 1 := fun z => h3 (by rw [z])
      refine j_cons (k_fmt ?_)
      walk_at "gs"
      refine .inr ⟨_, rfl, int_log (by omega), _, rfl, ?_, j_cons ?_⟩
      · rw [strLen_append, sizeLine_eq]
        show 0 + _ ≤ _
        omega
      refine ⟨_, rfl, ?_, j_cons (k_fmt ?_)⟩
      · rw [strLen_append, strLen_append, sizeLine_eq]
        show 0 + _ + 1 ≤ _
        omega
      walk_at "gs"
      refine .inr ⟨_, rfl, int_log (by omega), _, rfl, ?_, j_nil ?_⟩
      · rw [strLen_append, strLen_append, strLen_append, sizeLine_eq]
        show 0 + _ + 1 + _ ≤ _
        omega
      unfold spT at q
      rw [if_neg h3] at q
      rw [PySem.Str.empty_append]
      exact q
/-! Spans: has -/
def sp_Spans_has (C : Addr) : Sp := fun vs H Q _ => ∃ (x : Addr) (k : Int) (ks : List Int) (L : List Asn), vs = [.ref x, .int k] ∧ Hs (isSp C x ks :: L) H ∧ ks.length ≤ 500 ∧ Q (.bl (decide (k ∈ ks))) H
theorem ok_Spans_has (T : Txt K mg) : FnOk P w K mg base (L2.CX P w) 1 T.f_Spans_has T.d_Spans_has ["self", "block"] (sp_Spans_has T.c_Spans) := by
  refine T.F_Spans_has.ok sc_Spans_has (fun vs H Q E h => ?_) (fun cdv A outer s H vs Q E hr h => ?_)
  · obtain ⟨x, k, ks, L, rfl, _⟩ := h
    rfl
  · obtain ⟨x, k, ks, L, rfl, hS, h64, q⟩ := h
    have cl := T.cl_Spans
    have n1 := T.n_Spans_inside
    obtain ⟨l1, hS1⟩ := hS.openSp
    clear hS
    refine ⟨_, PSs.nox (pss_one (ps_ret (pe_cmpR op_inS (pv 1) (pe_fld (pv 0) rfl) (by rfl)))), ?_⟩
    show (_ : TS) _ [some _, some _] _
    walk_at "gs"
    exact q
/-! Spans: repr -/
def reT (ks : List Int) : Str := "Spans(" ++ lsT ks ++ ")"
def sp_Spans_repr (C : Addr) : Sp := fun vs H Q _ => ∃ (x : Addr) (ks : List Int) (L : List Asn), vs = [.ref x] ∧ Hs (isSp C x ks :: L) H ∧ Sml ks ∧ Q (.str (reT ks)) H
theorem ok_Spansx_reprx (T : Txt K mg) : FnG P w K mg base (L2.CX P w) 1 T.f_Spansx_reprx T.d_Spansx_reprx ["self"] (sp_Spans_repr T.c_Spans) := by
  refine FunD.okG T.F_Spansx_reprx sc_Spansx_reprx (fun vs H Q E h => ?_) (fun cdv A outer s H vs Q E hG hr h => ?_)
  · obtain ⟨x, ks, L, rfl, _⟩ := h
    rfl
  · obtain ⟨x, ks, L, rfl, hS, sm, q⟩ := h
    have cl := T.cl_Spans
    have n1 := T.n_Spans_inside
    obtain ⟨l1, hS1⟩ := hS.openSp
    clear hS
    have hl := lsT_len sm
    refine ⟨_, PSs.nox (pss_one (ps_ret (pe_joined (.cons pe_str (.cons (pe_fmtL hG hr (pe_fld (pv 0) rfl)) (.cons pe_str .nil)))))), ?_⟩
    show (_ : TS) _ [some _] _
    walk_at "gs"
    refine j_cons ⟨_, rfl, ?_, j_cons (k_fmtL ?_)⟩
    · rw [strLen_append, sizeLine_eq]
      show 0 + 6 ≤ _
      omega
    walk_at "gs"
    refine ⟨l1, ks, rfl, SqL.of (HasL.ints (.l (by walk_at "pk")) hS1), sm, _, rfl, ?_, j_cons ⟨_, rfl, ?_, j_nil ?_⟩⟩
    · rw [strLen_append, strLen_append, sizeLine_eq]
      show 0 + 6 + _ ≤ _
      omega
    · rw [strLen_append, strLen_append, strLen_append, sizeLine_eq]
      show 0 + 6 + _ + 1 ≤ _
      omega
    unfold reT at q
    rw [PySem.Str.empty_append]
    exact q
/-! Spans: str -/
theorem spT_len {u : Int × Int} (hf : u.1.natAbs < 10 ^ 11) (hm : u.2.natAbs < 10 ^ 11) : (spT u).length ≤ 27 := by
  have h1 := int_len (i := u.1) (by omega)
  have h2 := int_len (i := u.1 + u.2 - 1) (by omega)
  unfold spT
  split
  · omega
  · rw [strLen_append, strLen_append]
    show _ + 1 + _ ≤ _
    omega
theorem sum_le {c : Nat} : ∀ {l : List Nat}, (∀ x ∈ l, x ≤ c) → l.sum ≤ c * l.length
  | [], _ => Nat.zero_le _
  | x :: l, h => by
    have h1 := h x List.mem_cons_self
    have h2 := sum_le fun y hy => h y (List.mem_cons_of_mem _ hy)
    rw [List.sum_cons, List.length_cons, Nat.mul_succ]
    omega
theorem sp_sum {ks : List Int} (hb : ∀ k ∈ ks, 0 ≤ k ∧ k < 10 ^ 10) (hl : ks.length ≤ 500) : (((strOf ks).map spT).map (·.length)).sum + ((strOf ks).map spT).length * 1 ≤ 16777216 := by
  have h1 : (((strOf ks).map spT).map (·.length)).sum ≤ 27 * (((strOf ks).map spT).map (·.length)).length := sum_le fun x hx => by
    obtain ⟨y, hy, rfl⟩ := List.mem_map.mp hx
    obtain ⟨u, hu, rfl⟩ := List.mem_map.mp hy
    obtain ⟨b1, b2, b3⟩ := str_in hu
    have b4 := hb _ b1
    have b5 := hb _ b3
    exact spT_len (by omega) (by omega)
  have h2 := strOf_len ks
  rw [List.length_map, List.length_map] at h1
  rw [List.length_map]
  omega
def stT (ks : List Int) : Str := Txt.join " " ((strOf ks).map spT)
def sp_Spans_str (C : Addr) : Sp := fun vs H Q _ => ∃ (x : Addr) (ks : List Int) (L : List Asn), vs = [.ref x] ∧ Hs (isSp C x ks :: L) H ∧ ks.length ≤ 500 ∧ (∀ k ∈ ks, 0 ≤ k ∧ k < 10 ^ 10) ∧ ∀ H', Hs (isSp C x ks :: L) H' → Q (.str (stT ks)) H'
theorem ok_Spansx_strx (T : Txt K mg) : FnOk P w K mg base (L2.CX P w) 3 T.f_Spansx_strx T.d_Spansx_strx ["self"] (sp_Spans_str T.c_Spans) := by
  refine T.F_Spansx_strx.ok sc_Spansx_strx (fun vs H Q E h => ?_) (fun cdv A outer s H vs Q E hr h => ?_)
  · obtain ⟨x, ks, L, rfl, _⟩ := h
    rfl
  · obtain ⟨x, ks, L, rfl, hS, h64, hb, q⟩ := h
    have cl := T.cl_Spans
    have n1 := T.n_Spans_inside
    obtain ⟨l1, hS1⟩ := hS.openSp
    clear hS
    refine ⟨_, PSs.nox (pss_one (ps_ret (pe_join pe_str (pe_lc (own := [("first", 1), ("many", 2)]) (tt := tYes) (by rfl) sc_Spansx_strx.nd (pi_list (pe_call (ok_stretches (base := base) T) (hr.mono (by decide)) (by rfl) T.g_stretches T.k_stretches T.b_stretches .nil passL (pa_cons (pe_fld (pv 0) rfl) pa_nil))) (blkOk_by (own := [("first", 1), ("many", 2)]) (N := N_Spansx_strx) (sc := defScope s_Spansx_strx) (by decide +kernel)) (fun _ _ _ _ _ => (pg_tupK K 2 rfl rfl (pgs_cons (pg_name (i := 1) sc_Spansx_strx.nd rfl (Or.inl rfl)) (pgs_cons (pg_name (i := 2) sc_Spansx_strx.nd rfl (Or.inl rfl)) pgs_nil)))) (fun _ _ _ _ _ => pts_nil) (fun _ _ _ _ _ => (pe_call (ok_spelled (base := base) T) (hr.mono (by decide)) (by rfl) T.g_spelled T.k_spelled T.b_spelled .nil passL (pa_cons (pv 1) (pa_cons (pv 2) pa_nil)))))))), ?_⟩
    show (_ : TS) _ [some _, none, none] _
    walk_at "gp"
    rename Hs _ _ => hS2
    refine s_lcL (Fm (strOf ks) (fun _ => true) (fun u => .str (spT u)) _) hS2 (by walk_at "pk") Fm.start ?_ ?_
    · rintro D i u y acc2 us H10 L' hu hF hl2 hS14
      obtain rfl := hF.2
      obtain ⟨t4, rfl, _⟩ := dv_pair hS14.hd
      have hi := (List.getElem?_eq_some_iff.mp hu).1
      obtain ⟨b1, b2, b3⟩ := str_in (List.mem_of_getElem? hu)
      have b4 := hb _ b1
      have b5 := hb _ b3
      have b6 := strOf_len ks
      walk_at "gp"
      refine ⟨u.1, u.2, rfl, by omega, by omega, ?_⟩
      walk_at "gp"
      exact lc_putF hF hu rfl (by assumption) (.there .here) hl2 (by omega) (.str _) (.drop .refl)
    rintro D acc2 H10 L' hF hl2 hS14
    obtain ⟨rfl, rfl⟩ := hF.all rfl
    rw [filter_true, show ((strOf ks).map fun u => PyData.str (spT u)) = ((strOf ks).map spT).map .str by rw [List.map_map]; rfl] at hS14
    clear hS2
    walk_at "gp"
    refine ⟨_, D, (strOf ks).map spT, rfl, rfl, .inl (SqL.of (HasL.strs (.l (by walk_at "pk")) hS14)), sp_sum hb h64, ?_⟩
    exact q _ (Hs.closeSp (l := l1) (by walk_at "pm"))
/-! the law's: spelled -/
def sp_law_spelled : Sp := fun vs H Q _ => ∃ (a : Addr) (ks : List Int) (L : List Asn), vs = [.ref a] ∧ Hs L H ∧ HasL L a (ks.map PyData.int) ∧ ks.length ≤ 500 ∧ (∀ k ∈ ks, 0 ≤ k ∧ k < 10 ^ 10) ∧ ∀ H', Hs L H' → Q (.str (stT ks)) H'
theorem ok_law_spelled (T : Txt K mg) : FnOk P w K mg base (L2.CX P w) 3 T.f_law_spelled T.d_law_spelled ["_law_blocks"] sp_law_spelled := by
  refine T.F_law_spelled.ok sc_law_spelled (fun vs H Q E h => ?_) (fun cdv A outer s H vs Q E hr h => ?_)
  · obtain ⟨a, ks, L, rfl, _⟩ := h
    rfl
  · obtain ⟨a, ks, L, rfl, hS, hA, hl, hb, q⟩ := h
    refine ⟨_, PSs.nox (pss_cons (ps_set (i := 1) sc_law_spelled.nd rfl (Or.inl rfl) (pe_lstS pa_nil))
 (pss_cons (ps_for PassesOwn.never rfl (pi_list (pe_call (ok_law_stretches (base := base) T) (hr.mono (by decide)) (by rfl) T.g_law_stretches T.k_law_stretches T.b_law_stretches .nil passL (pa_cons (pv 0) pa_nil))) (pg_tup rfl (pgs_cons (pg_name (i := 2) sc_law_spelled.nd rfl (Or.inl rfl)) (pgs_cons (pg_name (i := 3) sc_law_spelled.nd rfl (Or.inl rfl)) pgs_nil)))
 (pss_one (ps_if (pt_cmpR op_eq (pv 3) pe_int (nomark _))
 (pss_one (ps_expr (pe_bm PySem.F.plainAttrs_list PySem.F.slot_list_append PySem.F.type_list_append mt_append (pv 1) (pa_cons (pe_callTy call_str_int (by rfl) T.z_str (by decide +kernel) (pa_cons (pv 2) pa_nil)) pa_nil))))
 (pss_one (ps_expr (pe_bm PySem.F.plainAttrs_list PySem.F.slot_list_append PySem.F.type_list_append mt_append (pv 1) (pa_cons (pe_op op_add_str (pe_op op_add_str (pe_callTy call_str_int (by rfl) T.z_str (by decide +kernel) (pa_cons (pv 2) pa_nil)) pe_str) (pe_callTy call_str_int (by rfl) T.z_str (by decide +kernel) (pa_cons (pe_op op_sub (pe_op op_add (pv 2) (pv 3)) pe_int) pa_nil))) pa_nil)))))))
 (pss_one (ps_ret (pe_join pe_str (pv 1)))))), ?_⟩
    show (_ : TS) _ [some _, none, none, none] _
    walk_at "gp"
    rename_i o H1 hS1
    have hA1 : HasL (isL o [] :: L) a (ks.map PyData.int) := hA.there
    refine ⟨a, ks, _, rfl, hS1, hA1, hl, fun H2 p hS2 => ?_⟩
    have b6 := strOf_len ks
    walk_at "gp"
    refine s_forL (fun i σ L' => (∃ z2 z3 : Option V, σ = [some (.ref a), some (.ref o), z2, z3]) ∧ L' = isL o ((((strOf ks).take i).map spT).map PyData.str) :: L) hS2 .here ⟨⟨_, _, rfl⟩, rfl⟩ ?_ ?_
    · rintro i u y us σ H14 L' hu ⟨⟨z2, z3, rfl⟩, rfl⟩ hS18
      obtain ⟨t4, rfl, _⟩ := dv_pair hS18.hd
      have hi := (List.getElem?_eq_some_iff.mp hu).1
      obtain ⟨b1, b2, b3⟩ := str_in (List.mem_of_getElem? hu)
      have b4 := hb _ b1
      have b5 := hb _ b3
      have h1 := int_len (i := u.1) (by omega)
      have h2 := int_len (i := u.1 + u.2 - 1) (by omega)
      have key : (((strOf ks).take (i + 1)).map spT).map PyData.str = (((strOf ks).take i).map spT).map PyData.str ++ [.str (spT u)] := by
        rw [take_snoc hu, List.map_append, List.map_append]
        rfl
      have hlen : ((((strOf ks).take i).map spT).map PyData.str).length ≤ 500 := by
        rw [List.length_map, List.length_map, List.length_take]
        omega
      walk_at "gp"
      refine k_iteD (fun h3 => ?_) (fun h3 => ?_)
      · have h3 : u.2 = 1 := by injection h3
        have e : spT u = ((toString u.1 : String) : Str) := if_pos h3
        rw [e] at key
        walk_at "gp"
        refine ⟨int_log (by omega), ?_⟩
        walk_at "gp"
        refine ⟨_, ⟨⟨_, _, rfl⟩, rfl⟩, ?_⟩
        rw [key]
        walk_at "pm"
      · have h3 : u.2 ≠ 1 := fun z => h3 (by rw [z])
        have e : spT u = ((toString u.1 : String) : Str) ++ "-" ++ ((toString (u.1 + u.2 - 1) : String) : Str) := if_neg h3
        rw [e] at key
        walk_at "gp"
        refine ⟨int_log (by omega), ?_⟩
        walk_at "gp"
        refine ⟨by rw [sizeLine_eq]; show _ + 1 ≤ _; omega, ?_⟩
        walk_at "gp"
        refine ⟨int_log (by omega), ?_⟩
        walk_at "gp"
        refine ⟨by rw [strLen_append, sizeLine_eq]; show _ + 1 + _ ≤ _; omega, ?_⟩
        walk_at "gp"
        refine ⟨_, ⟨⟨_, _, rfl⟩, rfl⟩, ?_⟩
        rw [key]
        walk_at "pm"
    rintro σ H14 L' ⟨⟨z2, z3, rfl⟩, rfl⟩ hS18
    rw [List.take_length] at hS18
    walk_at "gp"
    refine ⟨_, o, (strOf ks).map spT, rfl, rfl, .inl (SqL.of (HasL.strs (.l (by walk_at "pk")) hS18)), sp_sum hb hl, ?_⟩
    exact q _ hS18.tl.tl
/-! the law's: truth, ints -/
def sp_law_truth : Sp := fun vs H Q _ => ∃ b : Bool, vs = [.bl b, .bl b] ∧ Q (.bl true) H
theorem ok_law_truth (T : Txt K mg) : FnOk P w K mg base (L2.CX P w) 1 T.f_law_truth T.d_law_truth ["_law_told", "_law_due"] sp_law_truth := by
  refine T.F_law_truth.ok sc_law_truth (fun vs H Q E h => ?_) (fun cdv A outer s H vs Q E hr h => ?_)
  · obtain ⟨b, rfl, _⟩ := h
    rfl
  · obtain ⟨b, rfl, q⟩ := h
    refine ⟨_, PSs.nox (pss_one (ps_ret (pe_and (pe_callB call_isi (by rfl) T.z_isinstance (by decide +kernel) (pa_cons (pv 0) (pa_cons (pe_bltn (v := .ty "bool") (by rfl) T.z_bool (by decide +kernel) rfl) pa_nil))) (pe_one (pe_cmpR op_eq (pv 0) (pv 1) (nomark _)))))), ?_⟩
    walk_at "go"
    rw [decide_eq_true rfl]
    exact q
def sp_law_ints : Sp := fun vs H Q _ => ∃ (a : Addr) (ks : List Int) (L R : List Asn), vs = [.ref a] ∧ Hs L H ∧ Pick L (isL a (ks.map PyData.int)) R ∧ ks.length ≤ 500 ∧ ∀ H', Hs L H' → Q (.bl true) H'
theorem ok_law_ints (T : Txt K mg) : FnOk P w K mg base (L2.CX P w) 2 T.f_law_ints T.d_law_ints ["_law_row"] sp_law_ints := by
  refine T.F_law_ints.ok sc_law_ints (fun vs H Q E h => ?_) (fun cdv A outer s H vs Q E hr h => ?_)
  · obtain ⟨a, ks, L, R, rfl, _⟩ := h
    rfl
  · obtain ⟨a, ks, L, R, rfl, hS, k, hl, q⟩ := h
    have hA : HasL L a (ks.map PyData.int) := .l k
    refine ⟨_, PSs.nox (pss_one (ps_ret (pe_and (pe_callB call_isi (by rfl) T.z_isinstance (by decide +kernel) (pa_cons (pv 0) (pa_cons (pe_bltn (v := .ty "list") (by rfl) T.z_list (by decide +kernel) rfl) pa_nil))) (pe_one (pe_callB (cr_all rfl) (by rfl) T.z_all (by decide +kernel) (pa_cons (pe_lc (own := [("_law_one", 1)]) (g := gName 1) (tt := tYes) (by rfl) sc_law_ints.nd (pi_list (pv 0)) (blkOk_by (own := [("_law_one", 1)]) (N := N_law_ints) (sc := defScope s_law_ints) (by decide +kernel)) (fun _ _ _ _ _ => (pg_name (i := 1) sc_law_ints.nd rfl (Or.inl rfl))) (fun _ _ _ _ _ => pts_nil) (fun _ _ _ _ _ => (pe_call (ok_law_int (base := base) T) (hr.mono (by decide)) (by rfl) T.g_law_int T.k_law_int T.b_law_int .nil passL (pa_cons (pv 1) pa_nil)))) pa_nil)))))), ?_⟩
    show (_ : TS) _ [some _, none] _
    walk_at "gs"
    refine k_isi (tyx_L hS hA) (by walk_at "isi") ?_
    walk_at "gs"
    refine s_lcI (Fm ks (fun _ => true) (fun _ => .bool true) _) hS k Fm.start ?_ ?_
    · rintro D j x acc H2 L2 hx hF hl hS2
      obtain rfl := hF.2
      have hj := (List.getElem?_eq_some_iff.mp hx).1
      walk_at "gp"
      refine ⟨x, rfl, ?_⟩
      walk_at "gp"
      exact lc_putF hF hx rfl hS2 .here hl (by omega) (.bl true) .refl
    · rintro D acc H2 L2 hF hl hS2
      obtain ⟨rfl, rfl⟩ := hF.all rfl
      rw [filter_true, show (ks.map fun _ => PyData.bool true) = (ks.map fun _ => true).map PyData.bool by rw [List.map_map]; rfl] at hS2
      have e : (ks.map fun _ => true).all id = true := by simp
      walk_at "gp"
      rw [e]
      exact q _ (k.back hS2.tl)
/-! the law's: alike -/
theorem s_boolSp {L R : List Asn} {H : Hp} {Q : VK} {E : XK} {C x : Addr} {ks : List Int} (hS : Hs L H) (k1 : Pick L (isSp C x ks) R) (hl : ks.length ≤ 100000) (h : Q (.bl (ks.length != 0)) H) :
    rBoolO C (sp_Spans_len C) E [V.ref x] H Q := by
  obtain ⟨dx, fs, e, _⟩ := (k1.go hS).insSp
  exact ⟨x, dx, fs, rfl, e, x, ks, _, rfl, k1.go hS, _, rfl, by omega, h⟩
theorem s_reprSp {L R : List Asn} {H : Hp} {Q : VK} {E : XK} {C x : Addr} {ks : List Int} (hS : Hs L H) (k1 : Pick L (isSp C x ks) R) (sm : Sml ks) (h : Q (.str (reT ks)) H) : rStrO C (sp_Spans_repr C) E [.ref x] H Q := by
  obtain ⟨dx, fs, e, _⟩ := (k1.go hS).insSp
  exact ⟨x, dx, fs, rfl, e, x, ks, _, rfl, k1.go hS, sm, _, rfl, h⟩
theorem s_strSp {L R : List Asn} {H : Hp} {Q : VK} {E : XK} {C x : Addr} {ks : List Int} (hS : Hs L H) (k1 : Pick L (isSp C x ks) R) (hl : ks.length ≤ 500) (hb : ∀ k ∈ ks, 0 ≤ k ∧ k < 10 ^ 10) (h : ∀ H', Hs (isSp C x ks :: R) H' → Q (.str (stT ks)) H') : rStrO C (sp_Spans_str C) E [.ref x] H Q := by
  obtain ⟨dx, fs, e, _⟩ := (k1.go hS).insSp
  exact ⟨x, dx, fs, rfl, e, x, ks, _, rfl, k1.go hS, hl, hb, fun H' z => ⟨_, rfl, h H' z⟩⟩
def sp_law_alike (C : Addr) : Sp := fun vs H Q _ => ∃ (x a : Addr) (ks : List Int) (L R : List Asn), vs = [.ref x, .ref a] ∧ Hs (isSp C x (ascOf ks) :: L) H ∧ HasL L a (ks.map PyData.int) ∧ ks.length ≤ 62 ∧ (∀ k ∈ ks, 0 ≤ k ∧ k < 200) ∧ ∀ H', Hs (isSp C x (ascOf ks) :: L) H' → Q (.bl true) H'
theorem ok_law_alike (T : Txt K mg) : FnG P w K mg base (L2.CX P w) 6 T.f_law_alike T.d_law_alike ["_law_one", "_law_blocks"] (sp_law_alike T.c_Spans) := by
  refine FunD.okG T.F_law_alike sc_law_alike (fun vs H Q E h => ?_) (fun cdv A outer s H vs Q E hG hr h => ?_)
  · obtain ⟨x, a, ks, L, R, rfl, _⟩ := h
    rfl
  · obtain ⟨x, a, ks, L, R, rfl, hS, hA, hl, hb, q⟩ := h
    have cl := T.cl_Spans
    have b1 := len_asc ks
    refine ⟨_, PSs.nox (pss_cons (ps_set (i := 2) sc_law_alike.nd rfl (Or.inl rfl) (pe_callB (cr_sortedSetA rfl) (by rfl) T.z_sorted (by decide +kernel) (pa_cons (pe_callTy (cr_set2 rfl) (by rfl) T.z_set (by decide +kernel) (pa_cons (pv 1) pa_nil)) pa_nil)))
 (pss_cons (ps_if (PW.pt (pw_or (pt_not (pt_val (pe_call (ok_law_int (base := base) T) (hr.mono (by decide)) (by rfl) T.g_law_int T.k_law_int T.b_law_int .nil passL (pa_cons (pe_callB (call_lenO (ok_Spansx_lenx (base := base) T) T.m_Spans_len.at_ T.m_Spans_len.fn T.b_Spansx_lenx passL (hr.mono (by decide))) (by rfl) T.z_len (by decide +kernel) (pa_cons (pv 0) pa_nil)) pa_nil)))) (pw_or (pt_cmpR op_ne (pe_callB (call_lenO (ok_Spansx_lenx (base := base) T) T.m_Spans_len.at_ T.m_Spans_len.fn T.b_Spansx_lenx passL (hr.mono (by decide))) (by rfl) T.z_len (by decide +kernel) (pa_cons (pv 0) pa_nil)) (pe_callB c_len (by rfl) T.z_len (by decide +kernel) (pa_cons (pv 2) pa_nil)) (nomark _)) (pw_or1 (pt_cmpR op_ne (pe_callTy (call_boolO (ok_Spansx_lenx (base := base) T) T.m_Spans_len.at_ T.nb_Spans T.m_Spans_len.fn T.b_Spansx_lenx passL (hr.mono (by decide))) (by rfl) T.z_bool (by decide +kernel) (pa_cons (pv 0) pa_nil)) (pe_cmpR op_gt (pe_callB c_len (by rfl) T.z_len (by decide +kernel) (pa_cons (pv 2) pa_nil)) pe_int (nomark _)) (nomark _))))))
 (pss_one (ps_ret pe_bl))
 pss_nil)
 (pss_cons (ps_if (PW.pt (pw_or (pt_not (pt_val (pe_call (ok_law_ints (base := base) T) (hr.mono (by decide)) (by rfl) T.g_law_ints T.k_law_ints T.b_law_ints .nil passL (pa_cons (pe_meth0 (pv 0) T.cl_Spans T.m_Spans_blocks (ok_Spans_blocks (base := base) T) (hr.mono (by decide)) T.b_Spans_blocks .nil passL) pa_nil)))) (pw_or (pt_cmpR (op_neD hr.units) (pe_meth0 (pv 0) T.cl_Spans T.m_Spans_blocks (ok_Spans_blocks (base := base) T) (hr.mono (by decide)) T.b_Spans_blocks .nil passL) (pv 2) (nomark _)) (pw_or1 (pt_cmpR (op_neD hr.units) (pe_meth0 (pv 0) T.cl_Spans T.m_Spans_runs (ok_Spans_runs (base := base) T) (hr.mono (by decide)) T.b_Spans_runs .nil passL) (pe_call (ok_law_stretches (base := base) T) (hr.mono (by decide)) (by rfl) T.g_law_stretches T.k_law_stretches T.b_law_stretches .nil passL (pa_cons (pv 2) pa_nil)) (nomark _))))))
 (pss_one (ps_ret pe_bl))
 pss_nil)
 (pss_cons (ps_if (PW.pt (pw_or (pt_not (pt_val (pe_call (ok_law_rows (base := base) T) (hr.mono (by decide)) (by rfl) T.g_law_rows T.k_law_rows T.b_law_rows .nil passL (pa_cons (pe_meth0 (pv 0) T.cl_Spans T.m_Spans_runs (ok_Spans_runs (base := base) T) (hr.mono (by decide)) T.b_Spans_runs .nil passL) (pa_cons pe_int pa_nil))))) (pw_or (pt_cmpR op_ne (pe_callB (call_reprOG hG (ok_Spansx_reprx (base := base) T) T.m_Spans_repr.at_ T.m_Spans_repr.fn T.b_Spansx_reprx passL (hr.mono (by decide))) (by rfl) T.z_repr (by decide +kernel) (pa_cons (pv 0) pa_nil)) (pe_op op_add_str (pe_op op_add_str pe_str (pe_callTy (call_strL hG hr) (by rfl) T.z_str (by decide +kernel) (pa_cons (pv 2) pa_nil))) pe_str) (nomark _)) (pw_or1 (pt_cmpR op_ne (pe_callTy (call_strO (ok_Spansx_strx (base := base) T) T.m_Spans_str.at_ T.m_Spans_str.fn T.b_Spansx_strx passL (hr.mono (by decide))) (by rfl) T.z_str (by decide +kernel) (pa_cons (pv 0) pa_nil)) (pe_call (ok_law_spelled (base := base) T) (hr.mono (by decide)) (by rfl) T.g_law_spelled T.k_law_spelled T.b_law_spelled .nil passL (pa_cons (pv 2) pa_nil)) (nomark _))))))
 (pss_one (ps_ret pe_bl))
 pss_nil)
 (pss_cons (ps_for PassesOwn.never rfl (pi_range1 (by rfl) T.z_range (pa_cons (pe_op op_add (pe_callB (cr_max rfl) (by rfl) T.z_max (by decide +kernel) (pa_cons (pe_op op_cat (pv 2) (pe_lstS (pa_cons pe_int pa_nil))) pa_nil)) pe_int) pa_nil)) (pg_name (i := 3) sc_law_alike.nd rfl (Or.inl rfl))
 (pss_one (ps_if (pt_not (pt_val (pe_call (ok_law_truth (base := base) T) (hr.mono (by decide)) (by rfl) T.g_law_truth T.k_law_truth T.b_law_truth .nil passL (pa_cons (pe_meth (pv 0) T.cl_Spans T.m_Spans_has (ok_Spans_has (base := base) T) (hr.mono (by decide)) T.b_Spans_has .nil passL (pa_cons (pv 3) pa_nil)) (pa_cons (pe_cmpR op_inS (pv 3) (pv 2) (by rfl)) pa_nil)))))
 (pss_one (ps_ret pe_bl))
 pss_nil)))
 (pss_one (ps_ret pe_bl))))))), ?_⟩
    show (_ : TS) _ [some _, some _, none, none] _
    walk_at "gp"
    refine s_sortSetA hS (.inl hA.there) (by omega) fun p H1 hS1 => ?_
    clear hS
    generalize hks : ascOf ks = as at *
    walk_at "gp"
    refine ⟨_, rfl, ?_⟩
    walk_at "gp"
    refine s_boolSp (by assumption) (by walk_at "pk") (by omega) ?_
    have e1 : (as.length != 0) = decide (0 < as.length) := by
      by_cases z : as.length = 0
      · rw [z]
        rfl
      · rw [bne_iff_ne.mpr z, decide_eq_true (by omega)]
    rw [e1]
    walk_at "gp"
    rename Hs _ _ => hS2
    refine ⟨_, as, _, _, rfl, hS2, .here, by omega, fun H2 hS3 => ?_⟩
    clear hS2
    walk_at "gp"
    rename Hs _ _ => hS4
    refine ⟨_, as, _, rfl, hS4, by walk_at "hl", by omega, fun H3 q2 hS5 => ?_⟩
    walk_at "gp"
    refine s_rows2 (by assumption) (by walk_at "pk") fun H4 hS6 => ?_
    have hb2 : ∀ k ∈ as, 0 ≤ k ∧ k < 200 := fun k hk => hb k (by rw [← hks] at hk; exact mem_asc.mp hk)
    have sm : Sml as := ⟨by omega, fun k hk => by have := hb2 k hk; omega⟩
    have hlt := lsT_len sm
    walk_at "gp"
    refine s_reprSp (by assumption) (by walk_at "pk") sm ?_
    walk_at "gp"
    refine s_strL (by assumption) (by walk_at "hl") sm ?_
    walk_at "gp"
    refine ⟨by rw [sizeLine_eq]; show 6 + _ ≤ _; omega, ?_⟩
    walk_at "gp"
    refine ⟨by rw [strLen_append, sizeLine_eq]; show 6 + _ + 1 ≤ _; omega, ?_⟩
    rw [show Str.ofString "Spans(" ++ lsT as ++ Str.ofString ")" = reT as from rfl]
    walk_at "gp"
    refine s_strSp (by assumption) (by walk_at "pk") (by omega) (fun k hk => by have := hb2 k hk; omega) fun H5 hS7 => ?_
    walk_at "gp"
    refine ⟨_, as, _, rfl, hS7, by walk_at "hl", by omega, (fun k hk => by have := hb2 k hk; omega), fun H6 hS8 => ?_⟩
    clear hS7
    walk_at "gp"
    rename Hs _ _ => hS9
    rename_i mx H7
    rw [show as.map PyData.int ++ [PyData.int 0] = (as ++ [0]).map PyData.int by rw [List.map_append]; rfl] at hS9
    refine ⟨mx, as ++ [0], rfl, SqL.of (HasL.ints (.l (by walk_at "pk")) hS9), by rw [List.length_append]; exact Nat.succ_pos _, fun m hm hm2 => ?_⟩
    have m0 : 0 ≤ m := hm2 0 (by simp)
    have m1 : m < 200 := by
      rcases List.mem_append.mp hm with z | z
      · exact (hb2 _ z).2
      · rw [List.mem_singleton.mp z]
        decide
    walk_at "gp"
    refine s_forR (fun i σ L' => (∃ z1 z3 : Option V, σ = [some (.ref x), z1, some (.ref p), z3]) ∧ L' = isSp T.c_Spans x as :: isL p (as.map PyData.int) :: L) (by walk_at "pm0") ⟨⟨_, _, rfl⟩, rfl⟩ ?_ ?_
    · rintro i σ H8 L' hi ⟨⟨z1, z3, rfl⟩, rfl⟩ hS10
      walk_at "gp"
      refine ⟨x, _, as, _, rfl, hS10, by omega, ?_⟩
      walk_at "gp"
      refine ⟨_, rfl, ?_⟩
      walk_at "gp"
      exact ⟨_, ⟨⟨_, _, rfl⟩, rfl⟩, by walk_at "pm"⟩
    rintro σ H8 L' ⟨⟨z1, z3, rfl⟩, rfl⟩ hS10
    walk_at "gp"
    exact q _ (by walk_at "pm")
theorem s_alike {L R : List Asn} {H : Hp} {Q : VK} {E : XK} {C x a : Addr} {ks : List Int} (hS : Hs L H) (k : Pick L (isSp C x (ascOf ks)) R) (k2 : HasL R a (ks.map PyData.int)) (hl : ks.length ≤ 62) (hb : ∀ k ∈ ks, 0 ≤ k ∧ k < 200) (h : ∀ H', Hs (isSp C x (ascOf ks) :: R) H' → Q (.bl true) H') : sp_law_alike C ([.ref x, .ref a] ++ []) H Q E :=
  ⟨x, a, ks, R, [], rfl, k.go hS, k2, hl, hb, h⟩
theorem s_isB {H : Hp} {Q : VK} {x y : Bool} (h : Q (.bl (decide (x = y))) H) : rIsB (.bl x) (.bl y) H Q := ⟨x, y, rfl, rfl, h⟩
theorem s_notB {H : Hp} {Q : VK} {x y : Bool} (h : Q (.bl (!decide (x = y))) H) : rNotB (.bl x) (.bl y) H Q := ⟨x, y, rfl, rfl, h⟩
local macro_rules | `(tactic| walk_at "rq") => `(tactic| (with_reducible refine s_isB ?_))
local macro_rules | `(tactic| walk_at "rq") => `(tactic| (with_reducible refine s_notB ?_))
theorem ok_law (T : Txt K mg) : FnG P w K mg base (L2.CX P w) 8 T.f_law T.d_law ["_law_script"] (sp_law K) := by
  refine FunD.okG T.F_law sc_law (fun vs H Q E h => ?_) (fun cdv A outer s H vs Q E hG hr h => ?_)
  · obtain ⟨a, ns, rfl, _⟩ := h
    rfl
  · obtain ⟨a, ns, rfl, hS, hl, q⟩ := h
    refine ⟨_, PSs.nox (pss_cons (ps_set (i := 1) sc_law.nd rfl (Or.inl rfl) (pe_call (ok_law_bag (base := base) T) (hr.mono (by decide)) (by rfl) T.g_law_bag T.k_law_bag T.b_law_bag .nil passL (pa_cons (pv 0) pa_nil)))
 (pss_cons (ps_set (i := 2) sc_law.nd rfl (Or.inl rfl) (pe_call (ok_law_heap (base := base) T) (hr.mono (by decide)) (by rfl) T.g_law_heap T.k_law_heap T.b_law_heap .nil passL (pa_cons (pv 1) pa_nil)))
 (pss_cons (ps_set (i := 2) sc_law.nd rfl (Or.inl rfl) (pe_op op_cat (pv 2) (pe_slice sl_list (pv 2) po_none (po_some (pe_call (ok_law_pull (base := base) T) (hr.mono (by decide)) (by rfl) T.g_law_pull T.k_law_pull T.b_law_pull .nil passL (pa_cons (pv 1) (pa_cons pe_int pa_nil)))))))
 (pss_cons (ps_set (i := 3) sc_law.nd rfl (Or.inl rfl) (pe_callTy c_listOf (by rfl) T.z_list (by decide +kernel) (pa_cons (pv 2) pa_nil)))
 (pss_cons (ps_set (i := 4) sc_law.nd rfl (Or.inl rfl) (mkS (pe_make T.mk_Spans (ok_Spansx_initx (base := base) T) (hr.mono (by decide)) (by rfl) T.g_Spans T.bD2_Spansx_initx.choose_spec.2 T.bD2_Spansx_initx.choose_spec.1 passL (mcPA (pa_cons (pv 3) pa_nil)))))
 (pss_cons (ps_expr (pe_bm PySem.F.plainAttrs_list PySem.F.slot_list_append PySem.F.type_list_append mt_append (pv 3) (pa_cons pe_int pa_nil)))
 (pss_cons (ps_asg pe_int (pg_sub (pv 3) pe_int set_list))
 (pss_cons (ps_set (i := 5) sc_law.nd rfl (Or.inl rfl) (mkS (pe_make T.mk_Spans (ok_Spansx_initx (base := base) T) (hr.mono (by decide)) (by rfl) T.g_Spans T.bD2_Spansx_initx.choose_spec.2 T.bD2_Spansx_initx.choose_spec.1 passL (mcPA (pa_cons (pe_callTy c_tupOf (by rfl) T.z_tuple (by decide +kernel) (pa_cons (pe_revLS (pv 2)) pa_nil)) pa_nil)))))
 (pss_cons (ps_if (PW.pt (pw_or (pt_not (pt_val (pe_callG hG (ok_law_alike (base := base) T) (hr.mono (by decide)) (by rfl) T.g_law_alike T.k_law_alike T.b_law_alike .nil passL (pa_cons (pv 4) (pa_cons (pv 2) pa_nil))))) (pw_or (pt_not (pt_val (pe_callG hG (ok_law_alike (base := base) T) (hr.mono (by decide)) (by rfl) T.g_law_alike T.k_law_alike T.b_law_alike .nil passL (pa_cons (pv 5) (pa_cons (pv 2) pa_nil))))) (pw_or1 (pt_not (pt_val (pe_callG hG (ok_law_alike (base := base) T) (hr.mono (by decide)) (by rfl) T.g_law_alike T.k_law_alike T.b_law_alike .nil passL (pa_cons (mk0S (pe_make0 T.mk_Spans (ok_Spansx_initx (base := base) T) (hr.mono (by decide)) (by rfl) T.g_Spans T.bD1_Spansx_initx.choose_spec.2 T.bD1_Spansx_initx.choose_spec.1 passL)) (pa_cons (pe_lstS pa_nil) pa_nil)))))))))
 (pss_one (ps_ret pe_bl))
 pss_nil)
 (pss_cons (ps_expr (pe_bm PySem.F.plainAttrs_list PySem.F.slot_list_append PySem.F.type_list_append mt_append (pe_meth0 (pv 4) T.cl_Spans T.m_Spans_blocks (ok_Spans_blocks (base := base) T) (hr.mono (by decide)) T.b_Spans_blocks .nil passL) (pa_cons pe_int pa_nil)))
 (pss_cons (ps_expr (pe_bm PySem.F.plainAttrs_list PySem.F.slot_list_append PySem.F.type_list_append mt_append (pe_meth0 (pv 4) T.cl_Spans T.m_Spans_runs (ok_Spans_runs (base := base) T) (hr.mono (by decide)) T.b_Spans_runs .nil passL) (pa_cons (pe_tupS (pa_cons pe_int (pa_cons pe_int pa_nil))) pa_nil)))
 (pss_cons (ps_if (PW.pt (pw_or (pt_not (pt_val (pe_callG hG (ok_law_alike (base := base) T) (hr.mono (by decide)) (by rfl) T.g_law_alike T.k_law_alike T.b_law_alike .nil passL (pa_cons (pv 4) (pa_cons (pv 2) pa_nil))))) (pw_or (pt_cmpR op_notBl (pe_cmpR (op_eqO (ok_Spansx_eqx (base := base) T) T.m_Spans_eq.at_ T.m_Spans_eq.fn T.b_Spansx_eqx passL (hr.mono (by decide))) (pv 4) (pv 5) (nomark _)) pe_bl (nomark _)) (pw_or1 (pt_cmpR op_notBl (pe_cmpR (op_neO (ok_Spansx_eqx (base := base) T) T.m_Spans_eq.at_ T.ne_Spans T.ow_Spans.mo T.m_Spans_eq.fn T.b_Spansx_eqx passL (hr.mono (by decide))) (pv 4) (pv 5) (nomark _)) pe_bl (nomark _))))))
 (pss_one (ps_ret pe_bl))
 pss_nil)
 (pss_cons (ps_set (i := 6) sc_law.nd rfl (Or.inl rfl) (pe_callTy c_listOf (by rfl) T.z_list (by decide +kernel) (pa_cons (pv 2) pa_nil)))
 (pss_cons (ps_set (i := 7) sc_law.nd rfl (Or.inr rfl) (pe_call (ok_law_pull (base := base) T) (hr.mono (by decide)) (by rfl) T.g_law_pull T.k_law_pull T.b_law_pull .nil passL (pa_cons (pv 1) (pa_cons pe_int pa_nil))))
 (pss_mid (ps_if (pt_cmpR op_inS (pv 7) (pv 6) (by rfl))
 (pss_one (ps_setLc (i := 6) (own := [("_law_block", 9)]) (g := gName 9) (by rfl) sc_law.nd rfl rfl (sw_true rfl rfl rfl (by decide +kernel)) (pi_list (pv 6)) (blkOk_by (own := [("_law_block", 9)]) (N := N_law) (sc := defScope s_law) (by decide +kernel)) (fun _ _ _ _ _ => (pg_name (i := 9) sc_law.nd rfl (Or.inl rfl))) (fun _ _ _ _ _ => (pts_one (pt_cmpR op_ne (pv 9) (pv 7) (nomark _)))) (fun _ _ _ _ _ => (pv 9))))
 (pss_one (ps_expr (pe_bm PySem.F.plainAttrs_list PySem.F.slot_list_append PySem.F.type_list_append mt_append (pv 6) (pa_cons (pv 7) pa_nil)))))
 (pss_cons (ps_set (i := 8) sc_law.nd rfl (Or.inl rfl) (mkS (pe_make T.mk_Spans (ok_Spansx_initx (base := base) T) (hr.mono (by decide)) (by rfl) T.g_Spans T.bD2_Spansx_initx.choose_spec.2 T.bD2_Spansx_initx.choose_spec.1 passL (mcPA (pa_cons (pv 6) pa_nil)))))
 (pss_cons (ps_if (PW.pt (pw_or (pt_cmpR op_notBl (pe_cmpR (op_eqO (ok_Spansx_eqx (base := base) T) T.m_Spans_eq.at_ T.m_Spans_eq.fn T.b_Spansx_eqx passL (hr.mono (by decide))) (pv 4) (pv 8) (nomark _)) pe_bl (nomark _)) (pw_or1 (pt_cmpR op_notBl (pe_cmpR (op_eqO (ok_Spansx_eqx (base := base) T) T.m_Spans_eq.at_ T.m_Spans_eq.fn T.b_Spansx_eqx passL (hr.mono (by decide))) (pv 8) (pv 4) (nomark _)) pe_bl (nomark _)))))
 (pss_one (ps_ret pe_bl))
 pss_nil)
 (pss_one (ps_ret (pe_and (pe_cmpR op_isBl (pe_cmpR (op_eqO (ok_Spansx_eqx (base := base) T) T.m_Spans_eq.at_ T.m_Spans_eq.fn T.b_Spansx_eqx passL (hr.mono (by decide))) (pv 4) (pe_callB (cr_sortedSetA rfl) (by rfl) T.z_sorted (by decide +kernel) (pa_cons (pe_callTy (cr_set2 rfl) (by rfl) T.z_set (by decide +kernel) (pa_cons (pv 2) pa_nil)) pa_nil)) (nomark _)) pe_bl (nomark _)) (pe_and (pe_cmpR op_isBl (pe_cmpR (op_eqO (ok_Spansx_eqx (base := base) T) T.m_Spans_eq.at_ T.m_Spans_eq.fn T.b_Spansx_eqx passL (hr.mono (by decide))) (pv 4) (pe_callTy (call_strO (ok_Spansx_strx (base := base) T) T.m_Spans_str.at_ T.m_Spans_str.fn T.b_Spansx_strx passL (hr.mono (by decide))) (by rfl) T.z_str (by decide +kernel) (pa_cons (pv 4) pa_nil)) (nomark _)) pe_bl (nomark _)) (pe_one (pe_cmpR (op_eqO (ok_Spansx_eqx (base := base) T) T.m_Spans_eq.at_ T.m_Spans_eq.fn T.b_Spansx_eqx passL (hr.mono (by decide))) (pv 4) (mkS (pe_make T.mk_Spans (ok_Spansx_initx (base := base) T) (hr.mono (by decide)) (by rfl) T.g_Spans T.bD2_Spansx_initx.choose_spec.2 T.bD2_Spansx_initx.choose_spec.1 passL (mcPA (pa_cons (pe_callTy c_listOf (by rfl) T.z_list (by decide +kernel) (pa_cons (pv 2) pa_nil)) pa_nil)))) (nomark _)))))))))))))))))))))))), ?_⟩
    show (_ : TS) _ [some _, none, none, none, none, none, none, none, none, none] _
    walk_at "gp"
    refine s_bag hS hl fun H1 b hS1 => ?_
    walk_at "gp"
    refine ⟨b, ns, [], rfl, hS1, fun H2 h ks0 hk hS2 => ?_⟩
    have hl0 := hk.len
    walk_at "gp"
    refine k_pullS (by assumption) (by walk_at "pk") (by decide) (by decide) fun H3 c c0 c1 hS3 => ?_
    have hks : ∀ k ∈ ks0 ++ ks0.take c.toNat, 0 ≤ k ∧ k < 100 := fun k z => by
      rcases List.mem_append.mp z with z | z
      · exact hk.lo k z
      · exact hk.lo k (List.mem_of_mem_take z)
    have hkl : (ks0 ++ ks0.take c.toNat).length ≤ 59 := by
      rw [List.length_append, List.length_take]
      omega
    walk_at "gp"
    rename_i q1 _ r0 _ q0 _ x0 _ _ _ hS4
    generalize ks0 ++ ks0.take c.toNat = ks at hS4 hks hkl
    have ei : ixN (List.map PyData.int (ks ++ [70])).length 0 = some 0 := by
      unfold ixN
      rw [List.length_map, List.length_append]
      simp
    refine s_setL hS4 (by walk_at "pk") (.int 71) ei fun H5 hS5 => ?_
    clear hS4
    have hrl : ks.reverse.length ≤ 59 := by rw [List.length_reverse]; exact hkl
    have er : ascOf ks.reverse = ascOf ks := asc_ext fun k => List.mem_reverse
    walk_at "gp"
    refine s_mkSpT (ds := []) (by assumption) (by walk_at "pk") (by omega) fun H6 hS6 => ?_
    rw [er] at hS6
    have hb : ∀ k ∈ ks, 0 ≤ k ∧ k < 200 := fun k z => by have := hks k z; omega
    walk_at "gp"
    refine s_alike (ks := ks) hS6 (by walk_at "pk") (by walk_at "hl") (by omega) hb fun H7 hS7 => ?_
    walk_at "gp"
    refine s_alike (ks := ks) hS7 (by walk_at "pk") (by walk_at "hl") (by omega) hb fun H8 hS8 => ?_
    walk_at "gp"
    refine s_mkSp0 (by assumption) (T.ee_Spansx_initx _) fun H9 hS9 => ?_
    walk_at "gp"
    rename Hs _ _ => hS10
    refine s_alike (ks := []) hS10 (.there .here) (.l .here) (by decide) (fun _ z => by cases z) fun H11 hS11 => ?_
    have b1 := len_asc ks
    have b2 := strOf_len (ascOf ks)
    walk_at "gp"
    rename Hs _ _ => hS12
    refine s_alike (ks := ks) hS12 (by walk_at "pk") (by walk_at "hl") (by omega) hb fun H13 hS13 => ?_
    walk_at "gp"
    rename_i tn H13b hS13b
    refine k_pullS (by assumption) (by walk_at "pk") (by decide) (by decide) fun H14 e e0 e1 hS14 => ?_
    walk_at "gp"
    refine ⟨Wd fun σ H' => ∃ t ts, (∃ z0 z1 z3 z5 z7 z8 z9 : Option V, σ = [z0, z1, some (.ref r0), z3, some (.ref x0), z5, some (.ref t), z7, z8, z9]) ∧ ts.length ≤ 60 ∧ ascOf ks ≠ ascOf ts ∧ Hs [isL t (ts.map PyData.int), isSp T.c_Spans x0 (ascOf ks), isL r0 (ks.map PyData.int)] H', ?_, ?_⟩
    · walk_at "gp"
      refine k_iteD (fun he => ?_) (fun he => ?_)
      · walk_at "gp"
        refine s_lcI (Fm ks (fun k => !decide (k = e)) .int _) hS14 (by walk_at "pk") Fm.start ?_ ?_
        · rintro D i k acc H5 L' hk' hF hl5 hS8
          obtain rfl := hF.2
          have hi := (List.getElem?_eq_some_iff.mp hk').1
          walk_at "gp"
          refine k_iteN (fun h1 => ?_) (fun h1 => ?_)
          · have h2 : k ≠ e := fun z => h1 (by rw [z])
            walk_at "gp"
            exact lc_putF hF hk' (by simp [h2]) hS8 .here hl5 (by omega) (.int k) .refl
          · have h2 : k = e := by injection h1
            exact lc_nonF hF hk' (by simp [h2]) hS8 .here hl5 .refl
        rintro D acc H6 L' hF2 hl5 hS8
        obtain ⟨rfl, rfl⟩ := hF2.all rfl
        walk_at "gp"
        have hne : ascOf ks ≠ ascOf (ks.filter fun k => !decide (k = e)) := fun z => by
          have h1 : e ∈ ascOf ks := mem_asc.mpr he
          rw [z, mem_asc, List.mem_filter] at h1
          simp at h1
        have hfl : (ks.filter fun k => !decide (k = e)).length ≤ ks.length := List.length_filter_le _ _
        refine ⟨_, ks.filter fun k => !decide (k = e), ⟨_, _, _, _, _, _, _, rfl⟩, by omega, hne, ?_⟩
        walk_at "pm"
      · walk_at "gp"
        have hne : ascOf ks ≠ ascOf (ks ++ [e]) := fun z => by
          have h1 : e ∈ ascOf (ks ++ [e]) := mem_asc.mpr (by simp)
          rw [← z, mem_asc] at h1
          exact he h1
        refine ⟨_, ks ++ [e], ⟨_, _, _, _, _, _, _, rfl⟩, by rw [List.length_append]; show _ + 1 ≤ _; omega, hne, ?_⟩
        walk_at "pm"
    · rintro σ H15 ⟨t, ts, ⟨z0, z1, z3, z5, z7, z8, z9, rfl⟩, hl3, hne, hS15⟩
      have hf : decide (decide (ascOf ks = ascOf ts) = false) = true := by rw [decide_eq_false hne]; rfl
      have hf2 : decide (decide (ascOf ts = ascOf ks) = false) = true := by rw [decide_eq_false hne.symm]; rfl
      walk_at "gp"
      rw [hf]
      walk_at "gp"
      rw [hf2]
      walk_at "gp"
      refine s_strSp (by assumption) (by walk_at "pk") (by omega) (fun k z => by have := hb k (mem_asc.mp z); omega) fun H16 hS16 => ?_
      walk_at "gp"
      first | exact q _ | (rw [decide_eq_true rfl]; exact q _)
end
theorem all_mk {l : PySem.W.OpenLaw} {w : World} {K : PySem.W.Frag} {h : Heap} {mg : Str → Option Value} {fa : Addr} (X : K.In h) (G : h.Ns mainGlobals mg) (hfa : mg "law" = some (.ref fa))
  {C_Spans : Addr}
  {f1 : Addr} {od1 an1 : Option Addr} {sl1 : Array (Option Value)} {oc1 kV1 dc1 pm1 cd1 ct1 : Value}
  {f2 : Addr} {od2 an2 : Option Addr} {sl2 : Array (Option Value)} {oc2 kV2 dc2 pm2 cd2 ct2 : Value}
  {f3 : Addr} {od3 an3 : Option Addr} {sl3 : Array (Option Value)} {oc3 kV3 dc3 pm3 cd3 ct3 : Value}
  {f4 : Addr} {od4 an4 : Option Addr} {sl4 : Array (Option Value)} {oc4 kV4 dc4 pm4 cd4 ct4 : Value}
  {ea4 : Addr} {eo4 : Obj} {en4 : Nat}
  {dT4 : Addr} {dO4 : Obj} {dn4 : Nat}
  {f5 : Addr} {od5 an5 : Option Addr} {sl5 : Array (Option Value)} {oc5 kV5 dc5 pm5 cd5 ct5 : Value}
  {f6 : Addr} {od6 an6 : Option Addr} {sl6 : Array (Option Value)} {oc6 kV6 dc6 pm6 cd6 ct6 : Value}
  {f7 : Addr} {od7 an7 : Option Addr} {sl7 : Array (Option Value)} {oc7 kV7 dc7 pm7 cd7 ct7 : Value}
  {f8 : Addr} {od8 an8 : Option Addr} {sl8 : Array (Option Value)} {oc8 kV8 dc8 pm8 cd8 ct8 : Value}
  {f9 : Addr} {od9 an9 : Option Addr} {sl9 : Array (Option Value)} {oc9 kV9 dc9 pm9 cd9 ct9 : Value}
  {f10 : Addr} {od10 an10 : Option Addr} {sl10 : Array (Option Value)} {oc10 kV10 dc10 pm10 cd10 ct10 : Value}
  {f11 : Addr} {od11 an11 : Option Addr} {sl11 : Array (Option Value)} {oc11 kV11 dc11 pm11 cd11 ct11 : Value}
  {f12 : Addr} {od12 an12 : Option Addr} {sl12 : Array (Option Value)} {oc12 kV12 dc12 pm12 cd12 ct12 : Value}
  {f13 : Addr} {od13 an13 : Option Addr} {sl13 : Array (Option Value)} {oc13 kV13 dc13 pm13 cd13 ct13 : Value}
  {f14 : Addr} {od14 an14 : Option Addr} {sl14 : Array (Option Value)} {oc14 kV14 dc14 pm14 cd14 ct14 : Value}
  {f15 : Addr} {od15 an15 : Option Addr} {sl15 : Array (Option Value)} {oc15 kV15 dc15 pm15 cd15 ct15 : Value}
  {f16 : Addr} {od16 an16 : Option Addr} {sl16 : Array (Option Value)} {oc16 kV16 dc16 pm16 cd16 ct16 : Value}
  {f17 : Addr} {od17 an17 : Option Addr} {sl17 : Array (Option Value)} {oc17 kV17 dc17 pm17 cd17 ct17 : Value}
  {f18 : Addr} {od18 an18 : Option Addr} {sl18 : Array (Option Value)} {oc18 kV18 dc18 pm18 cd18 ct18 : Value}
  {f19 : Addr} {od19 an19 : Option Addr} {sl19 : Array (Option Value)} {oc19 kV19 dc19 pm19 cd19 ct19 : Value}
  {f20 : Addr} {od20 an20 : Option Addr} {sl20 : Array (Option Value)} {oc20 kV20 dc20 pm20 cd20 ct20 : Value}
  {f21 : Addr} {od21 an21 : Option Addr} {sl21 : Array (Option Value)} {oc21 kV21 dc21 pm21 cd21 ct21 : Value}
  {f22 : Addr} {od22 an22 : Option Addr} {sl22 : Array (Option Value)} {oc22 kV22 dc22 pm22 cd22 ct22 : Value}
  {f23 : Addr} {od23 an23 : Option Addr} {sl23 : Array (Option Value)} {oc23 kV23 dc23 pm23 cd23 ct23 : Value}
  {f24 : Addr} {od24 an24 : Option Addr} {sl24 : Array (Option Value)} {oc24 kV24 dc24 pm24 cd24 ct24 : Value}
  {f25 : Addr} {od25 an25 : Option Addr} {sl25 : Array (Option Value)} {oc25 kV25 dc25 pm25 cd25 ct25 : Value}
  (a1 : PySem.W.nsIn K mainGlobals "_wall" = some (some (.ref f1)))
  (l1 : K.lookup f1 = some ⟨oc1, od1, .func (PySem.W.fnOf "_wall" "_wall" (defArgs s_wall) (defBody s_wall) (defScope s_wall) .none kV1 dc1 pm1 an1 cd1 ct1), sl1⟩)
  (c1 : PySem.W.codeIn K cd1 "_wall" = true)
  (k1 : PySem.W.keepIn K (.ref f1) = true)
  (a2 : PySem.W.nsIn K mainGlobals "stretches" = some (some (.ref f2)))
  (l2 : K.lookup f2 = some ⟨oc2, od2, .func (PySem.W.fnOf "stretches" "stretches" (defArgs s_stretches) (defBody s_stretches) (defScope s_stretches) .none kV2 dc2 pm2 an2 cd2 ct2), sl2⟩)
  (c2 : PySem.W.codeIn K cd2 "stretches" = true)
  (k2 : PySem.W.keepIn K (.ref f2) = true)
  (a3 : PySem.W.nsIn K mainGlobals "spelled" = some (some (.ref f3)))
  (l3 : K.lookup f3 = some ⟨oc3, od3, .func (PySem.W.fnOf "spelled" "spelled" (defArgs s_spelled) (defBody s_spelled) (defScope s_spelled) .none kV3 dc3 pm3 an3 cd3 ct3), sl3⟩)
  (c3 : PySem.W.codeIn K cd3 "spelled" = true)
  (k3 : PySem.W.keepIn K (.ref f3) = true)
  (le4 : K.lookup ea4 = some eo4)
  (lc4 : eo4.cls = .type "tuple")
  (ld4 : eo4.data = .seq #[] en4)
  (dl4 : K.lookup dT4 = some dO4)
  (dd4 : dO4.data = .seq #[.ref ea4] dn4)
  (a4 : PySem.W.findIn K (.ref C_Spans) "__init__" = some (some (.ref f4)))
  (i4 : PySem.W.isFn K (.ref f4) = true)
  (l4 : K.lookup f4 = some ⟨oc4, od4, .func (PySem.W.fnOf "__init__" "Spans.__init__" (defArgs s_Spansx_initx) (defBody s_Spansx_initx) (defScope s_Spansx_initx) (.ref dT4) kV4 dc4 pm4 an4 cd4 ct4), sl4⟩)
  (c4 : PySem.W.codeIn K cd4 "Spans.__init__" = true)
  (k4 : PySem.W.keepIn K (.ref f4) = true)
  (a5 : PySem.W.findIn K (.ref C_Spans) "__eq__" = some (some (.ref f5)))
  (i5 : PySem.W.isFn K (.ref f5) = true)
  (l5 : K.lookup f5 = some ⟨oc5, od5, .func (PySem.W.fnOf "__eq__" "Spans.__eq__" (defArgs s_Spansx_eqx) (defBody s_Spansx_eqx) (defScope s_Spansx_eqx) .none kV5 dc5 pm5 an5 cd5 ct5), sl5⟩)
  (c5 : PySem.W.codeIn K cd5 "Spans.__eq__" = true)
  (k5 : PySem.W.keepIn K (.ref f5) = true)
  (a6 : PySem.W.findIn K (.ref C_Spans) "__len__" = some (some (.ref f6)))
  (i6 : PySem.W.isFn K (.ref f6) = true)
  (l6 : K.lookup f6 = some ⟨oc6, od6, .func (PySem.W.fnOf "__len__" "Spans.__len__" (defArgs s_Spansx_lenx) (defBody s_Spansx_lenx) (defScope s_Spansx_lenx) .none kV6 dc6 pm6 an6 cd6 ct6), sl6⟩)
  (c6 : PySem.W.codeIn K cd6 "Spans.__len__" = true)
  (k6 : PySem.W.keepIn K (.ref f6) = true)
  (a7 : PySem.W.findIn K (.ref C_Spans) "__repr__" = some (some (.ref f7)))
  (i7 : PySem.W.isFn K (.ref f7) = true)
  (l7 : K.lookup f7 = some ⟨oc7, od7, .func (PySem.W.fnOf "__repr__" "Spans.__repr__" (defArgs s_Spansx_reprx) (defBody s_Spansx_reprx) (defScope s_Spansx_reprx) .none kV7 dc7 pm7 an7 cd7 ct7), sl7⟩)
  (c7 : PySem.W.codeIn K cd7 "Spans.__repr__" = true)
  (k7 : PySem.W.keepIn K (.ref f7) = true)
  (a8 : PySem.W.findIn K (.ref C_Spans) "__str__" = some (some (.ref f8)))
  (i8 : PySem.W.isFn K (.ref f8) = true)
  (l8 : K.lookup f8 = some ⟨oc8, od8, .func (PySem.W.fnOf "__str__" "Spans.__str__" (defArgs s_Spansx_strx) (defBody s_Spansx_strx) (defScope s_Spansx_strx) .none kV8 dc8 pm8 an8 cd8 ct8), sl8⟩)
  (c8 : PySem.W.codeIn K cd8 "Spans.__str__" = true)
  (k8 : PySem.W.keepIn K (.ref f8) = true)
  (a9 : PySem.W.findIn K (.ref C_Spans) "blocks" = some (some (.ref f9)))
  (i9 : PySem.W.isFn K (.ref f9) = true)
  (l9 : K.lookup f9 = some ⟨oc9, od9, .func (PySem.W.fnOf "blocks" "Spans.blocks" (defArgs s_Spans_blocks) (defBody s_Spans_blocks) (defScope s_Spans_blocks) .none kV9 dc9 pm9 an9 cd9 ct9), sl9⟩)
  (c9 : PySem.W.codeIn K cd9 "Spans.blocks" = true)
  (k9 : PySem.W.keepIn K (.ref f9) = true)
  (a10 : PySem.W.findIn K (.ref C_Spans) "runs" = some (some (.ref f10)))
  (i10 : PySem.W.isFn K (.ref f10) = true)
  (l10 : K.lookup f10 = some ⟨oc10, od10, .func (PySem.W.fnOf "runs" "Spans.runs" (defArgs s_Spans_runs) (defBody s_Spans_runs) (defScope s_Spans_runs) .none kV10 dc10 pm10 an10 cd10 ct10), sl10⟩)
  (c10 : PySem.W.codeIn K cd10 "Spans.runs" = true)
  (k10 : PySem.W.keepIn K (.ref f10) = true)
  (a11 : PySem.W.findIn K (.ref C_Spans) "has" = some (some (.ref f11)))
  (i11 : PySem.W.isFn K (.ref f11) = true)
  (l11 : K.lookup f11 = some ⟨oc11, od11, .func (PySem.W.fnOf "has" "Spans.has" (defArgs s_Spans_has) (defBody s_Spans_has) (defScope s_Spans_has) .none kV11 dc11 pm11 an11 cd11 ct11), sl11⟩)
  (c11 : PySem.W.codeIn K cd11 "Spans.has" = true)
  (k11 : PySem.W.keepIn K (.ref f11) = true)
  (a12 : PySem.W.findIn K (.ref C_Spans) "more" = some (some (.ref f12)))
  (i12 : PySem.W.isFn K (.ref f12) = true)
  (l12 : K.lookup f12 = some ⟨oc12, od12, .func (PySem.W.fnOf "more" "Spans.more" (defArgs s_Spans_more) (defBody s_Spans_more) (defScope s_Spans_more) .none kV12 dc12 pm12 an12 cd12 ct12), sl12⟩)
  (c12 : PySem.W.codeIn K cd12 "Spans.more" = true)
  (k12 : PySem.W.keepIn K (.ref f12) = true)
  (a13 : PySem.W.findIn K (.ref C_Spans) "less" = some (some (.ref f13)))
  (i13 : PySem.W.isFn K (.ref f13) = true)
  (l13 : K.lookup f13 = some ⟨oc13, od13, .func (PySem.W.fnOf "less" "Spans.less" (defArgs s_Spans_less) (defBody s_Spans_less) (defScope s_Spans_less) .none kV13 dc13 pm13 an13 cd13 ct13), sl13⟩)
  (c13 : PySem.W.codeIn K cd13 "Spans.less" = true)
  (k13 : PySem.W.keepIn K (.ref f13) = true)
  (a14 : PySem.W.findIn K (.ref C_Spans) "pieces" = some (some (.ref f14)))
  (i14 : PySem.W.isFn K (.ref f14) = true)
  (l14 : K.lookup f14 = some ⟨oc14, od14, .func (PySem.W.fnOf "pieces" "Spans.pieces" (defArgs s_Spans_pieces) (defBody s_Spans_pieces) (defScope s_Spans_pieces) .none kV14 dc14 pm14 an14 cd14 ct14), sl14⟩)
  (c14 : PySem.W.codeIn K cd14 "Spans.pieces" = true)
  (k14 : PySem.W.keepIn K (.ref f14) = true)
  (a15 : PySem.W.nsIn K mainGlobals "_law_bag" = some (some (.ref f15)))
  (l15 : K.lookup f15 = some ⟨oc15, od15, .func (PySem.W.fnOf "_law_bag" "_law_bag" (defArgs s_law_bag) (defBody s_law_bag) (defScope s_law_bag) .none kV15 dc15 pm15 an15 cd15 ct15), sl15⟩)
  (c15 : PySem.W.codeIn K cd15 "_law_bag" = true)
  (k15 : PySem.W.keepIn K (.ref f15) = true)
  (a16 : PySem.W.nsIn K mainGlobals "_law_pull" = some (some (.ref f16)))
  (l16 : K.lookup f16 = some ⟨oc16, od16, .func (PySem.W.fnOf "_law_pull" "_law_pull" (defArgs s_law_pull) (defBody s_law_pull) (defScope s_law_pull) .none kV16 dc16 pm16 an16 cd16 ct16), sl16⟩)
  (c16 : PySem.W.codeIn K cd16 "_law_pull" = true)
  (k16 : PySem.W.keepIn K (.ref f16) = true)
  (a17 : PySem.W.nsIn K mainGlobals "_law_int" = some (some (.ref f17)))
  (l17 : K.lookup f17 = some ⟨oc17, od17, .func (PySem.W.fnOf "_law_int" "_law_int" (defArgs s_law_int) (defBody s_law_int) (defScope s_law_int) .none kV17 dc17 pm17 an17 cd17 ct17), sl17⟩)
  (c17 : PySem.W.codeIn K cd17 "_law_int" = true)
  (k17 : PySem.W.keepIn K (.ref f17) = true)
  (a18 : PySem.W.nsIn K mainGlobals "_law_ints" = some (some (.ref f18)))
  (l18 : K.lookup f18 = some ⟨oc18, od18, .func (PySem.W.fnOf "_law_ints" "_law_ints" (defArgs s_law_ints) (defBody s_law_ints) (defScope s_law_ints) .none kV18 dc18 pm18 an18 cd18 ct18), sl18⟩)
  (c18 : PySem.W.codeIn K cd18 "_law_ints" = true)
  (k18 : PySem.W.keepIn K (.ref f18) = true)
  (a19 : PySem.W.nsIn K mainGlobals "_law_rows" = some (some (.ref f19)))
  (l19 : K.lookup f19 = some ⟨oc19, od19, .func (PySem.W.fnOf "_law_rows" "_law_rows" (defArgs s_law_rows) (defBody s_law_rows) (defScope s_law_rows) .none kV19 dc19 pm19 an19 cd19 ct19), sl19⟩)
  (c19 : PySem.W.codeIn K cd19 "_law_rows" = true)
  (k19 : PySem.W.keepIn K (.ref f19) = true)
  (a20 : PySem.W.nsIn K mainGlobals "_law_heap" = some (some (.ref f20)))
  (l20 : K.lookup f20 = some ⟨oc20, od20, .func (PySem.W.fnOf "_law_heap" "_law_heap" (defArgs s_law_heap) (defBody s_law_heap) (defScope s_law_heap) .none kV20 dc20 pm20 an20 cd20 ct20), sl20⟩)
  (c20 : PySem.W.codeIn K cd20 "_law_heap" = true)
  (k20 : PySem.W.keepIn K (.ref f20) = true)
  (a21 : PySem.W.nsIn K mainGlobals "_law_stretches" = some (some (.ref f21)))
  (l21 : K.lookup f21 = some ⟨oc21, od21, .func (PySem.W.fnOf "_law_stretches" "_law_stretches" (defArgs s_law_stretches) (defBody s_law_stretches) (defScope s_law_stretches) .none kV21 dc21 pm21 an21 cd21 ct21), sl21⟩)
  (c21 : PySem.W.codeIn K cd21 "_law_stretches" = true)
  (k21 : PySem.W.keepIn K (.ref f21) = true)
  (a22 : PySem.W.nsIn K mainGlobals "_law_spelled" = some (some (.ref f22)))
  (l22 : K.lookup f22 = some ⟨oc22, od22, .func (PySem.W.fnOf "_law_spelled" "_law_spelled" (defArgs s_law_spelled) (defBody s_law_spelled) (defScope s_law_spelled) .none kV22 dc22 pm22 an22 cd22 ct22), sl22⟩)
  (c22 : PySem.W.codeIn K cd22 "_law_spelled" = true)
  (k22 : PySem.W.keepIn K (.ref f22) = true)
  (a23 : PySem.W.nsIn K mainGlobals "_law_truth" = some (some (.ref f23)))
  (l23 : K.lookup f23 = some ⟨oc23, od23, .func (PySem.W.fnOf "_law_truth" "_law_truth" (defArgs s_law_truth) (defBody s_law_truth) (defScope s_law_truth) .none kV23 dc23 pm23 an23 cd23 ct23), sl23⟩)
  (c23 : PySem.W.codeIn K cd23 "_law_truth" = true)
  (k23 : PySem.W.keepIn K (.ref f23) = true)
  (a24 : PySem.W.nsIn K mainGlobals "_law_alike" = some (some (.ref f24)))
  (l24 : K.lookup f24 = some ⟨oc24, od24, .func (PySem.W.fnOf "_law_alike" "_law_alike" (defArgs s_law_alike) (defBody s_law_alike) (defScope s_law_alike) .none kV24 dc24 pm24 an24 cd24 ct24), sl24⟩)
  (c24 : PySem.W.codeIn K cd24 "_law_alike" = true)
  (k24 : PySem.W.keepIn K (.ref f24) = true)
  (a25 : PySem.W.nsIn K mainGlobals "law" = some (some (.ref f25)))
  (l25 : K.lookup f25 = some ⟨oc25, od25, .func (PySem.W.fnOf "law" "law" (defArgs s_law) (defBody s_law) (defScope s_law) .none kV25 dc25 pm25 an25 cd25 ct25), sl25⟩)
  (c25 : PySem.W.codeIn K cd25 "law" = true)
  (k25 : PySem.W.keepIn K (.ref f25) = true)
  (aC_Spans : PySem.W.nsIn K mainGlobals "Spans" = some (some (.ref C_Spans)))
  (pg_Spans : PySem.W.plainGet K C_Spans Str.empty = true)
  (hd_Spans : PySem.W.hasDictIn K C_Spans = true)
  (po_Spans : PySem.W.plainOver K C_Spans = true)
  (sa_Spans : PySem.W.findIn K (.ref C_Spans) "__setattr__" = some (some (.builtin "object.__setattr__")))
  (mk_Spans : PySem.W.makesIn K C_Spans = true)
  (kc_Spans : PySem.W.keepIn K (.ref C_Spans) = true)
  (ca_Spans : PySem.W.findIn K (.ref C_Spans) "__class__" = some (some (.builtin "object.__class__")))
  (mo_Spans : PySem.W.mroIn K C_Spans (.type "object") = some true)
  (ty_Spans : PySem.W.typeIn K (.ref C_Spans) = some (.type "type"))
  (ne_Spans : PySem.W.findIn K (.ref C_Spans) "__ne__" = some (some (.builtin "object.__ne__")))
  (nb_Spans : PySem.W.findIn K (.ref C_Spans) "__bool__" = some none)
  (cn_cls : PySem.W.specialIn K (.builtin "object.__class__") "__get__" = some (some (.builtin "getset_descriptor.__get__")))
  (ct_cls : PySem.W.takesIn K (.builtin "object.__class__") = some true)
  (nA_Spans_inside : PySem.W.findIn K (.ref C_Spans) "inside" = some none)
  (z_all : PySem.W.nsIn K mainGlobals "all" = some none)
  (z_bool : PySem.W.nsIn K mainGlobals "bool" = some none)
  (z_int : PySem.W.nsIn K mainGlobals "int" = some none)
  (z_isinstance : PySem.W.nsIn K mainGlobals "isinstance" = some none)
  (z_len : PySem.W.nsIn K mainGlobals "len" = some none)
  (z_list : PySem.W.nsIn K mainGlobals "list" = some none)
  (z_max : PySem.W.nsIn K mainGlobals "max" = some none)
  (z_range : PySem.W.nsIn K mainGlobals "range" = some none)
  (z_repr : PySem.W.nsIn K mainGlobals "repr" = some none)
  (z_set : PySem.W.nsIn K mainGlobals "set" = some none)
  (z_sorted : PySem.W.nsIn K mainGlobals "sorted" = some none)
  (z_str : PySem.W.nsIn K mainGlobals "str" = some none)
  (z_tuple : PySem.W.nsIn K mainGlobals "tuple" = some none) :
  ∃ fd : FuncData, (∀ (s : Shared) (v : Value), BindsTo s fd ⟨[v], []⟩ [("_law_script", v)]) ∧ ∀ base : Heap, K.In base → base.Ns mainGlobals mg → FnG l.prog w K mg base (L2.CX l.prog w) 8 fa fd ["_law_script"] (sp_law K) := by
  have e : f25 = fa := (Value.ref.inj (Option.some.inj (hfa.symm.trans (PySem.W.mg_of X G a25)))).symm
  subst e
  let T : Txt K mg := {
  g_wall := PySem.W.mg_of X G a1,
  f_wall := f1,
  d_wall := PySem.W.fnOf "_wall" "_wall" (defArgs s_wall) (defBody s_wall) (defScope s_wall) .none kV1 dc1 pm1 an1 cd1 ct1,
  F_wall := ⟨⟨oc1, od1, .none, kV1, dc1, pm1, an1, cd1, ct1, sl1, rfl, l1, c1, .inl ⟨rfl, rfl⟩, .inl rfl⟩, k1⟩,
  g_stretches := PySem.W.mg_of X G a2,
  f_stretches := f2,
  d_stretches := PySem.W.fnOf "stretches" "stretches" (defArgs s_stretches) (defBody s_stretches) (defScope s_stretches) .none kV2 dc2 pm2 an2 cd2 ct2,
  F_stretches := ⟨⟨oc2, od2, .none, kV2, dc2, pm2, an2, cd2, ct2, sl2, rfl, l2, c2, .inl ⟨rfl, rfl⟩, .inl rfl⟩, k2⟩,
  g_spelled := PySem.W.mg_of X G a3,
  f_spelled := f3,
  d_spelled := PySem.W.fnOf "spelled" "spelled" (defArgs s_spelled) (defBody s_spelled) (defScope s_spelled) .none kV3 dc3 pm3 an3 cd3 ct3,
  F_spelled := ⟨⟨oc3, od3, .none, kV3, dc3, pm3, an3, cd3, ct3, sl3, rfl, l3, c3, .inl ⟨rfl, rfl⟩, .inl rfl⟩, k3⟩,
  e_Spansx_initx := ea4,
  ee_Spansx_initx := fun _ => .inr ⟨eo4, #[], en4, le4, lc4, ld4, Nat.zero_le _, .nil⟩,
  f_Spansx_initx := f4,
  d_Spansx_initx := PySem.W.fnOf "__init__" "Spans.__init__" (defArgs s_Spansx_initx) (defBody s_Spansx_initx) (defScope s_Spansx_initx) (.ref dT4) kV4 dc4 pm4 an4 cd4 ct4,
  F_Spansx_initx := ⟨⟨oc4, od4, (.ref dT4), kV4, dc4, pm4, an4, cd4, ct4, sl4, rfl, l4, c4, .inr ⟨(fun z => nomatch z), dT4, dO4, [.ref ea4], dn4, rfl, dl4, dd4, (.cons rfl .nil)⟩, .inl rfl⟩, k4⟩,
  f_Spansx_eqx := f5,
  d_Spansx_eqx := PySem.W.fnOf "__eq__" "Spans.__eq__" (defArgs s_Spansx_eqx) (defBody s_Spansx_eqx) (defScope s_Spansx_eqx) .none kV5 dc5 pm5 an5 cd5 ct5,
  F_Spansx_eqx := ⟨⟨oc5, od5, .none, kV5, dc5, pm5, an5, cd5, ct5, sl5, rfl, l5, c5, .inl ⟨rfl, rfl⟩, .inl rfl⟩, k5⟩,
  f_Spansx_lenx := f6,
  d_Spansx_lenx := PySem.W.fnOf "__len__" "Spans.__len__" (defArgs s_Spansx_lenx) (defBody s_Spansx_lenx) (defScope s_Spansx_lenx) .none kV6 dc6 pm6 an6 cd6 ct6,
  F_Spansx_lenx := ⟨⟨oc6, od6, .none, kV6, dc6, pm6, an6, cd6, ct6, sl6, rfl, l6, c6, .inl ⟨rfl, rfl⟩, .inl rfl⟩, k6⟩,
  f_Spansx_reprx := f7,
  d_Spansx_reprx := PySem.W.fnOf "__repr__" "Spans.__repr__" (defArgs s_Spansx_reprx) (defBody s_Spansx_reprx) (defScope s_Spansx_reprx) .none kV7 dc7 pm7 an7 cd7 ct7,
  F_Spansx_reprx := ⟨⟨oc7, od7, .none, kV7, dc7, pm7, an7, cd7, ct7, sl7, rfl, l7, c7, .inl ⟨rfl, rfl⟩, .inl rfl⟩, k7⟩,
  f_Spansx_strx := f8,
  d_Spansx_strx := PySem.W.fnOf "__str__" "Spans.__str__" (defArgs s_Spansx_strx) (defBody s_Spansx_strx) (defScope s_Spansx_strx) .none kV8 dc8 pm8 an8 cd8 ct8,
  F_Spansx_strx := ⟨⟨oc8, od8, .none, kV8, dc8, pm8, an8, cd8, ct8, sl8, rfl, l8, c8, .inl ⟨rfl, rfl⟩, .inl rfl⟩, k8⟩,
  f_Spans_blocks := f9,
  d_Spans_blocks := PySem.W.fnOf "blocks" "Spans.blocks" (defArgs s_Spans_blocks) (defBody s_Spans_blocks) (defScope s_Spans_blocks) .none kV9 dc9 pm9 an9 cd9 ct9,
  F_Spans_blocks := ⟨⟨oc9, od9, .none, kV9, dc9, pm9, an9, cd9, ct9, sl9, rfl, l9, c9, .inl ⟨rfl, rfl⟩, .inl rfl⟩, k9⟩,
  f_Spans_runs := f10,
  d_Spans_runs := PySem.W.fnOf "runs" "Spans.runs" (defArgs s_Spans_runs) (defBody s_Spans_runs) (defScope s_Spans_runs) .none kV10 dc10 pm10 an10 cd10 ct10,
  F_Spans_runs := ⟨⟨oc10, od10, .none, kV10, dc10, pm10, an10, cd10, ct10, sl10, rfl, l10, c10, .inl ⟨rfl, rfl⟩, .inl rfl⟩, k10⟩,
  f_Spans_has := f11,
  d_Spans_has := PySem.W.fnOf "has" "Spans.has" (defArgs s_Spans_has) (defBody s_Spans_has) (defScope s_Spans_has) .none kV11 dc11 pm11 an11 cd11 ct11,
  F_Spans_has := ⟨⟨oc11, od11, .none, kV11, dc11, pm11, an11, cd11, ct11, sl11, rfl, l11, c11, .inl ⟨rfl, rfl⟩, .inl rfl⟩, k11⟩,
  f_Spans_more := f12,
  d_Spans_more := PySem.W.fnOf "more" "Spans.more" (defArgs s_Spans_more) (defBody s_Spans_more) (defScope s_Spans_more) .none kV12 dc12 pm12 an12 cd12 ct12,
  F_Spans_more := ⟨⟨oc12, od12, .none, kV12, dc12, pm12, an12, cd12, ct12, sl12, rfl, l12, c12, .inl ⟨rfl, rfl⟩, .inl rfl⟩, k12⟩,
  f_Spans_less := f13,
  d_Spans_less := PySem.W.fnOf "less" "Spans.less" (defArgs s_Spans_less) (defBody s_Spans_less) (defScope s_Spans_less) .none kV13 dc13 pm13 an13 cd13 ct13,
  F_Spans_less := ⟨⟨oc13, od13, .none, kV13, dc13, pm13, an13, cd13, ct13, sl13, rfl, l13, c13, .inl ⟨rfl, rfl⟩, .inl rfl⟩, k13⟩,
  f_Spans_pieces := f14,
  d_Spans_pieces := PySem.W.fnOf "pieces" "Spans.pieces" (defArgs s_Spans_pieces) (defBody s_Spans_pieces) (defScope s_Spans_pieces) .none kV14 dc14 pm14 an14 cd14 ct14,
  F_Spans_pieces := ⟨⟨oc14, od14, .none, kV14, dc14, pm14, an14, cd14, ct14, sl14, rfl, l14, c14, .inl ⟨rfl, rfl⟩, .inl rfl⟩, k14⟩,
  g_law_bag := PySem.W.mg_of X G a15,
  f_law_bag := f15,
  d_law_bag := PySem.W.fnOf "_law_bag" "_law_bag" (defArgs s_law_bag) (defBody s_law_bag) (defScope s_law_bag) .none kV15 dc15 pm15 an15 cd15 ct15,
  F_law_bag := ⟨⟨oc15, od15, .none, kV15, dc15, pm15, an15, cd15, ct15, sl15, rfl, l15, c15, .inl ⟨rfl, rfl⟩, .inl rfl⟩, k15⟩,
  g_law_pull := PySem.W.mg_of X G a16,
  f_law_pull := f16,
  d_law_pull := PySem.W.fnOf "_law_pull" "_law_pull" (defArgs s_law_pull) (defBody s_law_pull) (defScope s_law_pull) .none kV16 dc16 pm16 an16 cd16 ct16,
  F_law_pull := ⟨⟨oc16, od16, .none, kV16, dc16, pm16, an16, cd16, ct16, sl16, rfl, l16, c16, .inl ⟨rfl, rfl⟩, .inl rfl⟩, k16⟩,
  g_law_int := PySem.W.mg_of X G a17,
  f_law_int := f17,
  d_law_int := PySem.W.fnOf "_law_int" "_law_int" (defArgs s_law_int) (defBody s_law_int) (defScope s_law_int) .none kV17 dc17 pm17 an17 cd17 ct17,
  F_law_int := ⟨⟨oc17, od17, .none, kV17, dc17, pm17, an17, cd17, ct17, sl17, rfl, l17, c17, .inl ⟨rfl, rfl⟩, .inl rfl⟩, k17⟩,
  g_law_ints := PySem.W.mg_of X G a18,
  f_law_ints := f18,
  d_law_ints := PySem.W.fnOf "_law_ints" "_law_ints" (defArgs s_law_ints) (defBody s_law_ints) (defScope s_law_ints) .none kV18 dc18 pm18 an18 cd18 ct18,
  F_law_ints := ⟨⟨oc18, od18, .none, kV18, dc18, pm18, an18, cd18, ct18, sl18, rfl, l18, c18, .inl ⟨rfl, rfl⟩, .inl rfl⟩, k18⟩,
  g_law_rows := PySem.W.mg_of X G a19,
  f_law_rows := f19,
  d_law_rows := PySem.W.fnOf "_law_rows" "_law_rows" (defArgs s_law_rows) (defBody s_law_rows) (defScope s_law_rows) .none kV19 dc19 pm19 an19 cd19 ct19,
  F_law_rows := ⟨⟨oc19, od19, .none, kV19, dc19, pm19, an19, cd19, ct19, sl19, rfl, l19, c19, .inl ⟨rfl, rfl⟩, .inl rfl⟩, k19⟩,
  g_law_heap := PySem.W.mg_of X G a20,
  f_law_heap := f20,
  d_law_heap := PySem.W.fnOf "_law_heap" "_law_heap" (defArgs s_law_heap) (defBody s_law_heap) (defScope s_law_heap) .none kV20 dc20 pm20 an20 cd20 ct20,
  F_law_heap := ⟨⟨oc20, od20, .none, kV20, dc20, pm20, an20, cd20, ct20, sl20, rfl, l20, c20, .inl ⟨rfl, rfl⟩, .inl rfl⟩, k20⟩,
  g_law_stretches := PySem.W.mg_of X G a21,
  f_law_stretches := f21,
  d_law_stretches := PySem.W.fnOf "_law_stretches" "_law_stretches" (defArgs s_law_stretches) (defBody s_law_stretches) (defScope s_law_stretches) .none kV21 dc21 pm21 an21 cd21 ct21,
  F_law_stretches := ⟨⟨oc21, od21, .none, kV21, dc21, pm21, an21, cd21, ct21, sl21, rfl, l21, c21, .inl ⟨rfl, rfl⟩, .inl rfl⟩, k21⟩,
  g_law_spelled := PySem.W.mg_of X G a22,
  f_law_spelled := f22,
  d_law_spelled := PySem.W.fnOf "_law_spelled" "_law_spelled" (defArgs s_law_spelled) (defBody s_law_spelled) (defScope s_law_spelled) .none kV22 dc22 pm22 an22 cd22 ct22,
  F_law_spelled := ⟨⟨oc22, od22, .none, kV22, dc22, pm22, an22, cd22, ct22, sl22, rfl, l22, c22, .inl ⟨rfl, rfl⟩, .inl rfl⟩, k22⟩,
  g_law_truth := PySem.W.mg_of X G a23,
  f_law_truth := f23,
  d_law_truth := PySem.W.fnOf "_law_truth" "_law_truth" (defArgs s_law_truth) (defBody s_law_truth) (defScope s_law_truth) .none kV23 dc23 pm23 an23 cd23 ct23,
  F_law_truth := ⟨⟨oc23, od23, .none, kV23, dc23, pm23, an23, cd23, ct23, sl23, rfl, l23, c23, .inl ⟨rfl, rfl⟩, .inl rfl⟩, k23⟩,
  g_law_alike := PySem.W.mg_of X G a24,
  f_law_alike := f24,
  d_law_alike := PySem.W.fnOf "_law_alike" "_law_alike" (defArgs s_law_alike) (defBody s_law_alike) (defScope s_law_alike) .none kV24 dc24 pm24 an24 cd24 ct24,
  F_law_alike := ⟨⟨oc24, od24, .none, kV24, dc24, pm24, an24, cd24, ct24, sl24, rfl, l24, c24, .inl ⟨rfl, rfl⟩, .inl rfl⟩, k24⟩,
  g_law := PySem.W.mg_of X G a25,
  f_law := f25,
  d_law := PySem.W.fnOf "law" "law" (defArgs s_law) (defBody s_law) (defScope s_law) .none kV25 dc25 pm25 an25 cd25 ct25,
  F_law := ⟨⟨oc25, od25, .none, kV25, dc25, pm25, an25, cd25, ct25, sl25, rfl, l25, c25, .inl ⟨rfl, rfl⟩, .inl rfl⟩, k25⟩,
  c_Spans := C_Spans,
  g_Spans := PySem.W.mg_of X G aC_Spans,
  cl_Spans := ⟨pg_Spans, hd_Spans, po_Spans, sa_Spans⟩,
  mk_Spans := ⟨mk_Spans, a4, i4, kc_Spans⟩,
  m_Spans_eq := ⟨a5, i5, k5⟩,
  m_Spans_len := ⟨a6, i6, k6⟩,
  m_Spans_repr := ⟨a7, i7, k7⟩,
  m_Spans_str := ⟨a8, i8, k8⟩,
  m_Spans_blocks := ⟨a9, i9, k9⟩,
  m_Spans_runs := ⟨a10, i10, k10⟩,
  m_Spans_has := ⟨a11, i11, k11⟩,
  m_Spans_more := ⟨a12, i12, k12⟩,
  m_Spans_less := ⟨a13, i13, k13⟩,
  m_Spans_pieces := ⟨a14, i14, k14⟩,
  ne_Spans := ne_Spans,
  nb_Spans := nb_Spans,
  ow_Spans := ⟨⟨pg_Spans, hd_Spans, po_Spans, sa_Spans⟩, ca_Spans, cn_cls, ct_cls, mo_Spans, ty_Spans⟩,
  n_Spans_inside := nA_Spans_inside,
  z_all := PySem.W.mg_none_of X G z_all,
  z_bool := PySem.W.mg_none_of X G z_bool,
  z_int := PySem.W.mg_none_of X G z_int,
  z_isinstance := PySem.W.mg_none_of X G z_isinstance,
  z_len := PySem.W.mg_none_of X G z_len,
  z_list := PySem.W.mg_none_of X G z_list,
  z_max := PySem.W.mg_none_of X G z_max,
  z_range := PySem.W.mg_none_of X G z_range,
  z_repr := PySem.W.mg_none_of X G z_repr,
  z_set := PySem.W.mg_none_of X G z_set,
  z_sorted := PySem.W.mg_none_of X G z_sorted,
  z_str := PySem.W.mg_none_of X G z_str,
  z_tuple := PySem.W.mg_none_of X G z_tuple }
  exact ⟨T.d_law, fun s v => T.F_law.bindsA (ps := ["_law_script"]) (fun _ _ _ _ _ _ us hl => match us, hl with | [_], _ => rfl) s [v] rfl, fun base _ _ => ok_law T⟩
end K02
open PySem PySem.W PyProof.Rows
set_option maxRecDepth 100000 in
set_option maxHeartbeats 0 in
theorem PySem.Challenge.cw_latestow_k02_a_set_of_blocks_holds : PySem.Challenge.rw_latestow_k02_a_set_of_blocks.Holds := by
  w_on; o_law; k_head; (case hw => w_witness2)
  k_fill
  refine Lt.walk_ofG (l := PySem.Challenge.rw_latestow_k02_a_set_of_blocks) (n := 63) (k := 8) (x := "_law_script") (CX := fun w => L2.CX PySem.Challenge.rw_latestow_k02_a_set_of_blocks.prog w) (sp := fun w => K02.sp_law _) rfl (by decide) rfl ⟨rfl, by decide, by decide⟩ (fun w h Y => PySem.W.kIn_of Y) ?F (fun _ _ a ns hl _ hS => ⟨a, ns, rfl, hS, hl, fun _ => rfl⟩) (fun w _ _ _ _ h => Lt.cx_no h)
  case F =>
    intro w mg fa h KX G hmg
    refine' K02.all_mk KX G hmg ?a1 ?l1 ?c1 ?k1 ?a2 ?l2 ?c2 ?k2 ?a3 ?l3 ?c3 ?k3 ?le4 ?lc4 ?ld4 ?dl4 ?dd4 ?a4 ?i4 ?l4 ?c4 ?k4 ?a5 ?i5 ?l5 ?c5 ?k5 ?a6 ?i6 ?l6 ?c6 ?k6 ?a7 ?i7 ?l7 ?c7 ?k7 ?a8 ?i8 ?l8 ?c8 ?k8 ?a9 ?i9 ?l9 ?c9 ?k9 ?a10 ?i10 ?l10 ?c10 ?k10 ?a11 ?i11 ?l11 ?c11 ?k11 ?a12 ?i12 ?l12 ?c12 ?k12 ?a13 ?i13 ?l13 ?c13 ?k13 ?a14 ?i14 ?l14 ?c14 ?k14 ?a15 ?l15 ?c15 ?k15 ?a16 ?l16 ?c16 ?k16 ?a17 ?l17 ?c17 ?k17 ?a18 ?l18 ?c18 ?k18 ?a19 ?l19 ?c19 ?k19 ?a20 ?l20 ?c20 ?k20 ?a21 ?l21 ?c21 ?k21 ?a22 ?l22 ?c22 ?k22 ?a23 ?l23 ?c23 ?k23 ?a24 ?l24 ?c24 ?k24 ?a25 ?l25 ?c25 ?k25 ?aC_Spans ?pg_Spans ?hd_Spans ?po_Spans ?sa_Spans ?mk_Spans ?kc_Spans ?ca_Spans ?mo_Spans ?ty_Spans ?ne_Spans ?nb_Spans ?cn_cls ?ct_cls ?nA_Spans_inside ?z_all ?z_bool ?z_int ?z_isinstance ?z_len ?z_list ?z_max ?z_range ?z_repr ?z_set ?z_sorted ?z_str ?z_tuple
    (case aC_Spans => k_is)
    (case a1 => k_is)
    (case l1 => k_is)
    (case a2 => k_is)
    (case l2 => k_is)
    (case a3 => k_is)
    (case l3 => k_is)
    (case a4 => k_is)
    (case l4 => k_is)
    (case a5 => k_is)
    (case l5 => k_is)
    (case a6 => k_is)
    (case l6 => k_is)
    (case a7 => k_is)
    (case l7 => k_is)
    (case a8 => k_is)
    (case l8 => k_is)
    (case a9 => k_is)
    (case l9 => k_is)
    (case a10 => k_is)
    (case l10 => k_is)
    (case a11 => k_is)
    (case l11 => k_is)
    (case a12 => k_is)
    (case l12 => k_is)
    (case a13 => k_is)
    (case l13 => k_is)
    (case a14 => k_is)
    (case l14 => k_is)
    (case a15 => k_is)
    (case l15 => k_is)
    (case a16 => k_is)
    (case l16 => k_is)
    (case a17 => k_is)
    (case l17 => k_is)
    (case a18 => k_is)
    (case l18 => k_is)
    (case a19 => k_is)
    (case l19 => k_is)
    (case a20 => k_is)
    (case l20 => k_is)
    (case a21 => k_is)
    (case l21 => k_is)
    (case a22 => k_is)
    (case l22 => k_is)
    (case a23 => k_is)
    (case l23 => k_is)
    (case a24 => k_is)
    (case l24 => k_is)
    (case a25 => k_is)
    (case l25 => k_is)
    (case dl4 => k_is)
    (case dd4 => first | k_is | rfl)
    (case c1 => k_is)
    (case k1 => k_is)
    (case c2 => k_is)
    (case k2 => k_is)
    (case c3 => k_is)
    (case k3 => k_is)
    (case le4 => k_is)
    (case lc4 => first | k_is | rfl)
    (case ld4 => first | k_is | rfl)
    (case i4 => k_is)
    (case c4 => k_is)
    (case k4 => k_is)
    (case i5 => k_is)
    (case c5 => k_is)
    (case k5 => k_is)
    (case i6 => k_is)
    (case c6 => k_is)
    (case k6 => k_is)
    (case i7 => k_is)
    (case c7 => k_is)
    (case k7 => k_is)
    (case i8 => k_is)
    (case c8 => k_is)
    (case k8 => k_is)
    (case i9 => k_is)
    (case c9 => k_is)
    (case k9 => k_is)
    (case i10 => k_is)
    (case c10 => k_is)
    (case k10 => k_is)
    (case i11 => k_is)
    (case c11 => k_is)
    (case k11 => k_is)
    (case i12 => k_is)
    (case c12 => k_is)
    (case k12 => k_is)
    (case i13 => k_is)
    (case c13 => k_is)
    (case k13 => k_is)
    (case i14 => k_is)
    (case c14 => k_is)
    (case k14 => k_is)
    (case c15 => k_is)
    (case k15 => k_is)
    (case c16 => k_is)
    (case k16 => k_is)
    (case c17 => k_is)
    (case k17 => k_is)
    (case c18 => k_is)
    (case k18 => k_is)
    (case c19 => k_is)
    (case k19 => k_is)
    (case c20 => k_is)
    (case k20 => k_is)
    (case c21 => k_is)
    (case k21 => k_is)
    (case c22 => k_is)
    (case k22 => k_is)
    (case c23 => k_is)
    (case k23 => k_is)
    (case c24 => k_is)
    (case k24 => k_is)
    (case c25 => k_is)
    (case k25 => k_is)
    (case pg_Spans => k_is)
    (case hd_Spans => k_is)
    (case po_Spans => k_is)
    (case sa_Spans => k_is)
    (case mk_Spans => k_is)
    (case kc_Spans => k_is)
    (case ca_Spans => k_is)
    (case mo_Spans => k_is)
    (case ty_Spans => k_is)
    (case ne_Spans => k_is)
    (case nb_Spans => k_is)
    (case cn_cls => k_is)
    (case ct_cls => k_is)
    (case nA_Spans_inside => k_is)
    (case z_all => k_is)
    (case z_bool => k_is)
    (case z_int => k_is)
    (case z_isinstance => k_is)
    (case z_len => k_is)
    (case z_list => k_is)
    (case z_max => k_is)
    (case z_range => k_is)
    (case z_repr => k_is)
    (case z_set => k_is)
    (case z_sorted => k_is)
    (case z_str => k_is)
    (case z_tuple => k_is)
#print axioms PySem.Challenge.cw_latestow_k02_a_set_of_blocks_holds
